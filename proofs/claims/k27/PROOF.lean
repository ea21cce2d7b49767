import PyProof.Rows.All
import Wide.All
import OpenK.AllK
import Wide.FinOn
import HandS.ForMost
import HandS.Wide
import HandS.Star
import HandS.Zip
import HandS.IsInst
import KE.KTupSum
import HandS.TupMul
import HandS.SortInts
import HandS.Iter
import HandS.More
import HandS.Style
import HandS.Defaults
import HandS.TupAny
import HandS.Text
import HandS.Dict
import HandS.TupLen
import HandS.RaiseMore
import KE.GoesEnum
import HandS.SortKw
import PyProof.MinMaxWalk
import PyProof.WalkInts
import KE.DataMinMax
import KE.Datum
import PyProof.EqAt
import HandS.Flow
import KE.KDictZip
import HandS.Zip0
import PyProof.ListNew
import HandS.DictComp
import KE.KDictPairs
import KE.KDictCopyH
import HandS.Conv
import HandS.Words
import HandS.Property
import HandS.MakeKwOnly
import HandS.OwnEq
import HandS.Codes
import KE.DataMinKey
import HandS.Sort
import KE.KUnpackStar
import KE.SortData
import PyProof.Rows.RowBridgeK
import PyProof.AutoSeq1
import HandS.Deep
import PyProof.Rows.TupDisplay
import HandS.ListItems
import HandS.DictTup
import KE.KDictItemsList
import HandS.Comp
import PyProof.StrOps2
import HandS.GenList
import PyProof.SumWalk
import PyProof.Rows.TupAdd
import PySem.Challenge.RW_rotatedlogs_k27_files_of_a_history
set_option Elab.async false
set_option linter.all false
set_option maxRecDepth 100000
set_option maxHeartbeats 4000000
namespace My
open PySem L2

/-! ### heaps -/
theorem kp_same {H H' : Hp} {a : Addr} {o : HO} (s : Same H H') (h : H a = some o) : H' a = some o := s a o h
theorem kp_new {H : Hp} {p a : Addr} {o u : HO} (n : H p = none) (h : H a = some o) : upd H p u a = some o := by
  rw [upd_ne (ne_of_none h n)]; exact h
theorem kp_set {H : Hp} {p a : Addr} {o u : HO} (ne : a ≠ p) (h : H a = some o) : upd H p u a = some o := by
  rw [upd_ne ne]; exact h
theorem same_new {H : Hp} {p : Addr} {u : HO} (n : H p = none) : Same H (upd H p u) := fun _ _ h => kp_new n h
/-- all but what stands at b is as it was -/
def But (b : Addr) (H H' : Hp) : Prop := ∀ a o, a ≠ b → H a = some o → H' a = some o
theorem But.refl (b : Addr) (H : Hp) : But b H H := fun _ _ _ h => h
theorem But.trans {b : Addr} {H H1 H2 : Hp} (x : But b H H1) (y : But b H1 H2) : But b H H2 := fun a o n h => y a o n (x a o n h)
theorem But.of {b : Addr} {H H' : Hp} (s : Same H H') : But b H H' := fun a o _ h => s a o h
theorem But.set {b : Addr} {H : Hp} {u : HO} : But b H (upd H b u) := fun a o n h => kp_set n h
theorem But.new {b p : Addr} {H : Hp} {u : HO} (n : H p = none) : But b H (upd H p u) := But.of (same_new n)
theorem But.free {b p : Addr} {H H' : Hp} (x : But b H H') (e : H' p = none) (n : p ≠ b) : H p = none := by
  cases q : H p with
  | none => rfl
  | some o => rw [x p o n q] at e; cases e
theorem kp_but {b a : Addr} {H H' : Hp} {o : HO} (x : But b H H') (n : a ≠ b) (h : H a = some o) : H' a = some o := x a o n h
theorem tup_ne {H : Hp} {a b : Addr} {xs ys : List V} (h : H a = some (.tup xs)) (h' : H b = some (.lst ys)) : a ≠ b := ne_of h h' (by intro z; cases z)

/-! ### the box of draws -/
def Box (n : Nat) (H : Hp) (b : Addr) : Prop := ∃ o m c : Int, H b = some (.lst [.int o, .int m, .int c]) ∧ 0 ≤ o ∧ 0 ≤ m ∧ m < 2 ^ 62 ∧ 0 ≤ c ∧ c ≤ n
theorem Box.mono {n k : Nat} {H : Hp} {b : Addr} (h : Box n H b) (l : n ≤ k) : Box k H b := by
  obtain ⟨o, m, c, h1, h2, h3, h4, h5, h6⟩ := h
  exact ⟨o, m, c, h1, h2, h3, h4, h5, by omega⟩
theorem Box.same {n : Nat} {H H' : Hp} {b : Addr} (h : Box n H b) (s : Same H H') : Box n H' b := by
  obtain ⟨o, m, c, h1, r⟩ := h
  exact ⟨o, m, c, s _ _ h1, r⟩
theorem Box.there {n : Nat} {H : Hp} {b : Addr} (h : Box n H b) : ∃ xs, H b = some (.lst xs) := by
  obtain ⟨o, m, c, h1, r⟩ := h
  exact ⟨_, h1⟩
theorem Box.new {n : Nat} {H : Hp} {b p : Addr} {u : HO} (h : Box n H b) (x : H p = none) : Box n (upd H p u) b := h.same (same_new x)

theorem Box.ne {n : Nat} {H : Hp} {b p : Addr} (h : Box n H b) (x : H p = none) : p ≠ b := (ne_of_none h.there.choose_spec x).symm
theorem Box.set {n : Nat} {H : Hp} {b p : Addr} {u : HO} (h : Box n H b) (x : p ≠ b) : Box n (upd H p u) b := by
  obtain ⟨o, m, c, h1, r⟩ := h
  exact ⟨o, m, c, kp_set x.symm h1, r⟩
/-! ### promises of the draws -/
def sp_take : Sp := fun vs H Q _ => ∃ (b : Addr) (many : Int) (n : Nat), vs = [.ref b, .int many] ∧ Box n H b ∧ n < 2 ^ 40 ∧ 0 < many ∧ many < 2 ^ 64 ∧
  ∀ (r : Int) (H' : Hp), 0 ≤ r → r < many → Box (n + 1) H' b → But b H H' → Q (.int r) H'

/-- from the script: the cell is any int -/
def sp_box (K : PySem.W.Frag) : Sp := fun vs H Q _ => ∃ (a : Addr) (ns : List Int) (k : Int), vs = [.ref a, .int k] ∧ SqL K H a (ns.map V.int) ∧ ns.length ≤ 63 ∧ 0 ≤ k ∧ k < 1000 ∧
  ∀ (b : Addr) (H' : Hp), Same H H' → H b = none → Box 0 H' b → Q (.ref b) H'
def sp_of (K : PySem.W.Frag) : Sp := fun vs H Q _ => ∃ (b a : Addr) (xs : List V) (n : Nat), vs = [.ref b, .ref a] ∧ Box n H b ∧ a ≠ b ∧ (H a = some (.lst xs) ∨ H a = some (.tup xs)) ∧ n < 2 ^ 40 ∧ xs ≠ [] ∧ xs.length < 2 ^ 60 ∧
  ∀ (v : V) (H' : Hp), v ∈ xs → Box (n + 1) H' b → But b H H' → Q v H'

/-- two ways that go on alike -/
theorem join {α : Type} {G : Prop} (P : α → Prop) (rest : ∀ x, P x) (use : (∀ x, P x) → G) : G := use rest
theorem b2_w (c : Bool) : -(2 ^ 64) < (if c = true then (1 : Int) else 0) ∧ (if c = true then (1 : Int) else 0) < 2 ^ 64 := by cases c <;> decide
theorem b2_nn (c : Bool) : (0 : Int) ≤ (if c = true then (1 : Int) else 0) := by cases c <;> decide
theorem szl {α : Type} {xs : List α} (n : Nat) (h : xs.length = n) (h2 : n ≤ sizeLine := by decide) : xs.length ≤ sizeLine := by rw [h]; exact h2
theorem nle {n : Nat} (m : Nat) (h : n = m) (h2 : m ≤ sizeLine := by decide) : n ≤ sizeLine := by rw [h]; exact h2
theorem one_of {z r : Int} {v : V} (r0 : 0 ≤ r) (z0 : 0 ≤ z) (z1 : z < 1 + r)
    (h : v ∈ ([.int (1 + z), .int (1 + z), .int (1 + z), .int (1 + z), .int ((1 + r) / 2 + 1), .int 1, .int (1 + r), .int (if (1 + r) / 2 > 1 then (1 + r) / 2 else 1), .int (if (1 + r) / 3 > 1 then (1 + r) / 3 else 1)] : List V)) :
    ∃ x : Int, v = .int x ∧ 1 ≤ x ∧ x ≤ 1 + r := by
  simp only [List.mem_cons, List.not_mem_nil, or_false] at h
  rcases h with h | h | h | h | h | h | h | h | h
  all_goals first
    | exact ⟨_, h, by omega, by omega⟩
    | (refine ⟨_, h, ?_, ?_⟩ <;> (split <;> omega))
theorem or_read {tA tB : TT} {σ : St} {H : Hp} {Q : Bool → Hp → Prop} (a c : Bool) (hA : ∀ Q : Bool → Hp → Prop, Q a H → tA σ H Q) (hB : a = false → ∀ Q : Bool → Hp → Prop, Q c H → tB σ H Q) (h : Q (a || c) H) : tOr tA tB σ H Q := by
  refine hA _ ?_
  cases a with
  | true => exact h
  | false => exact hB rfl _ h
theorem and_read {tA tB : TT} {σ : St} {H : Hp} {Q : Bool → Hp → Prop} (a c : Bool) (hA : ∀ Q : Bool → Hp → Prop, Q a H → tA σ H Q) (hB : a = true → ∀ Q : Bool → Hp → Prop, Q c H → tB σ H Q) (h : Q (a && c) H) : tAnd tA tB σ H Q := by
  refine hA _ ?_
  cases a with
  | true => exact hB rfl _ h
  | false => exact h
theorem or_if {tA tB : TT} {t u : TS} {D : Ends} {σ : St} {H : Hp} (a c : Bool) (hA : ∀ Q : Bool → Hp → Prop, Q a H → tA σ H Q) (hB : a = false → ∀ Q : Bool → Hp → Prop, Q c H → tB σ H Q) (h1 : (a || c) = true → t D σ H) (h2 : (a || c) = false → u D σ H) : tIfS (tOr tA tB) t u D σ H := by
  refine or_read a c hA hB ?_
  cases e : (a || c) with
  | true => exact h1 e
  | false => exact h2 e
theorem and_if {tA tB : TT} {t u : TS} {D : Ends} {σ : St} {H : Hp} (a c : Bool) (hA : ∀ Q : Bool → Hp → Prop, Q a H → tA σ H Q) (hB : a = true → ∀ Q : Bool → Hp → Prop, Q c H → tB σ H Q) (h1 : a = true → c = true → t D σ H) (h2 : (a && c) = false → u D σ H) : tIfS (tAnd tA tB) t u D σ H := by
  refine and_read a c hA hB ?_
  cases a with
  | true =>
    cases c with
    | true => exact h1 rfl rfl
    | false => exact h2 rfl
  | false => exact h2 rfl
/-! ### rules of more -/
section
variable {X : Cx}
def CPowW (i j : Int) : Prop := 0 ≤ j ∧ (Builtin.Int.intBits i : Int) * j ≤ 2 ^ 27
theorem op_powW : OpR X (binaryOp .Pow) (rI CPowW fun i j => .int (i ^ j.toNat)) := opI fun _ _ _ _ _ _ _ hc q => PyProof.Rows.pow_int hc.1 hc.2 q
end
theorem atI_in {α : Type} {xs : List α} {r : Int} (h0 : 0 ≤ r) (h1 : r < xs.length) : ∃ v, atI xs r = some v ∧ v ∈ xs := by
  obtain ⟨n, rfl⟩ : ∃ n : Nat, r = n := ⟨r.toNat, by omega⟩
  have h2 : n < xs.length := by omega
  exact ⟨xs[n], atI_nat (List.getElem?_eq_getElem h2), List.getElem_mem h2⟩

/-! ### rules of a log -/
structure Rules (S : Int) (ls : List Int) : Prop where
  s1 : 1 ≤ S
  s2 : S ≤ 100
  ne : ls ≠ []
  six : ls.length ≤ 6
  mem : ∀ l ∈ ls, 1 ≤ l ∧ l ≤ S
  asc : ls.Pairwise (· < ·)
def BookAt (H : Hp) (p : Addr) (S : Int) (ls : List Int) : Prop := ∃ q, H p = some (.tup [.int S, .ref q]) ∧ H q = some (.tup (ls.map V.int))
/-- all tuples stand -/
def Tups (H H' : Hp) : Prop := ∀ a xs, H a = some (.tup xs) → H' a = some (.tup xs)
theorem Tups.refl (H : Hp) : Tups H H := fun _ _ h => h
theorem Tups.trans {H H1 H2 : Hp} (x : Tups H H1) (y : Tups H1 H2) : Tups H H2 := fun a o h => y a o (x a o h)
theorem Same.tups {H H' : Hp} (s : Same H H') : Tups H H' := fun _ _ h => s _ _ h
theorem Tups.but {b : Addr} {H H' : Hp} {xs : List V} (s : But b H H') (h : H b = some (.lst xs)) : Tups H H' := fun _ _ q => s _ _ (tup_ne q h) q
theorem BookAt.tups {H H' : Hp} {p : Addr} {S : Int} {ls : List Int} (h : BookAt H p S ls) (t : Tups H H') : BookAt H' p S ls := by
  obtain ⟨q, h1, h2⟩ := h
  exact ⟨q, t _ _ h1, t _ _ h2⟩

def insL (ks : List Int) (k : Int) : List Int := if k ∈ ks then ks else ks ++ [k]
def dT (ks : List Int) : List (Key × V) := ks.map fun k => (Sum.inl k, V.bl true)
theorem dT_keys (ks : List Int) : (dT ks).map (·.1) = ks.map Sum.inl := by
  unfold dT
  rw [List.map_map]
  rfl
theorem dT_put (ks : List Int) (k : Int) : putK (dT ks) (Sum.inl k) (V.bl true) = dT (insL ks k) := by
  unfold putK insL dT
  by_cases h : k ∈ ks
  · rw [if_pos h, if_pos]
    · rw [List.map_map]
      apply List.map_congr_left
      intro a _
      show (if (Sum.inl a : Key) = Sum.inl k then ((Sum.inl a : Key), V.bl true) else (Sum.inl a, V.bl true)) = (Sum.inl a, V.bl true)
      split <;> rfl
    · rw [List.any_eq_true]
      exact ⟨(Sum.inl k, V.bl true), List.mem_map.mpr ⟨k, h, rfl⟩, decide_eq_true rfl⟩
  · rw [if_neg h, if_neg]
    · rw [List.map_append]
      rfl
    · rw [List.any_eq_true]
      rintro ⟨x, hx, e⟩
      obtain ⟨a, ha, rfl⟩ := List.mem_map.mp hx
      have e1 : (Sum.inl a : Key) = Sum.inl k := of_decide_eq_true e
      exact h (Sum.inl.inj e1 ▸ ha)
theorem insL_nd {ks : List Int} {k : Int} (h : ks.Nodup) : (insL ks k).Nodup := by
  unfold insL
  split
  · exact h
  · rename_i hk
    rw [List.nodup_append]
    refine ⟨h, by simp, ?_⟩
    intro a ha b hb e
    have : b = k := by simpa using hb
    exact hk (by rw [← this, ← e]; exact ha)
theorem insL_mem {ks : List Int} {k a : Int} (h : a ∈ insL ks k) : a ∈ ks ∨ a = k := by
  unfold insL at h
  split at h
  · exact .inl h
  · rcases List.mem_append.mp h with h | h
    · exact .inl h
    · exact .inr (by simpa using h)
theorem insL_len (ks : List Int) (k : Int) : (insL ks k).length ≤ ks.length + 1 := by
  unfold insL
  split
  · omega
  · simp
theorem insL_ne (ks : List Int) (k : Int) : insL ks k ≠ [] := by
  unfold insL
  split
  · rename_i h
    exact List.ne_nil_of_mem h
  · simp
theorem asc_of {ys ks : List Int} (p : ys.Perm ks) (h : ks.Nodup) (s : ys.Pairwise (· ≤ ·)) : ys.Pairwise (· < ·) := by
  have n : ys.Nodup := p.nodup_iff.mpr h
  have b := List.pairwise_and_iff.mpr ⟨s, n⟩
  exact b.imp fun {x y} ⟨h1, h2⟩ => by omega

def sp_book : Sp := fun vs H Q _ => ∃ (b : Addr) (top : Int) (n : Nat), vs = [.ref b, .int top] ∧ Box n H b ∧ n + 100 < 2 ^ 40 ∧ 1 ≤ top ∧ top ≤ 100 ∧
  ∀ (p : Addr) (S : Int) (ls : List Int) (H' : Hp), Rules S ls → S ≤ top → BookAt H' p S ls → Box (n + 14) H' b → But b H H' → Q (.ref p) H'

/-! ### events -/
inductive Ev where
  | line (l : Int)
  | look
  | rot
  deriving DecidableEq
def Ev.v : Ev → V
  | .line l => .int l
  | .look => .str "look"
  | .rot => .str "rotate"
def Ev.ok (ls : List Int) : Ev → Prop
  | .line l => l ∈ ls
  | _ => True
/-- bytes and rotations by hand since the last look -/
def Ev.st : Int × Int → Ev → Int × Int
  | (s, h), .line l => (s + l, h)
  | _, .look => (0, 0)
  | (s, h), .rot => (s, h + 1)
def stOf (es : List Ev) : Int × Int := es.foldl Ev.st (0, 0)
theorem stOf_snoc (es : List Ev) (e : Ev) : stOf (es ++ [e]) = Ev.st (stOf es) e := by
  unfold stOf
  rw [List.foldl_append]
  rfl
def Tame (bound often : Int) (es : List Ev) : Prop := ∀ j, j ≤ es.length → (stOf (es.take j)).1 ≤ bound ∧ (stOf (es.take j)).2 ≤ often
theorem Tame.nil {bound often : Int} (h1 : 0 ≤ bound) (h2 : 0 ≤ often) : Tame bound often [] := fun j hj => by
  have : j = 0 := by simpa using hj
  subst this
  exact ⟨h1, h2⟩
theorem Tame.snoc {bound often : Int} {es : List Ev} {e : Ev} (h : Tame bound often es) (h1 : (Ev.st (stOf es) e).1 ≤ bound) (h2 : (Ev.st (stOf es) e).2 ≤ often) : Tame bound often (es ++ [e]) := fun j hj => by
  by_cases hl : j ≤ es.length
  · rw [List.take_append_of_le_length hl]
    exact h j hl
  · have e1 : (es ++ [e]).take j = es ++ [e] := List.take_of_length_le (by simp at hj ⊢; omega)
    rw [e1, stOf_snoc]
    exact ⟨h1, h2⟩
def sp_tale : Sp := fun vs H Q _ => ∃ (b bk : Addr) (S : Int) (ls : List Int) (bound often many : Int) (n : Nat), vs = [.ref b, .ref bk, .int bound, .int often, .int many] ∧ BookAt H bk S ls ∧ Rules S ls ∧ Box n H b ∧
  0 ≤ bound ∧ 0 ≤ often ∧ 0 ≤ many ∧ many ≤ 1000 ∧ n + 2000 < 2 ^ 40 ∧
  ∀ (t : Addr) (es : List Ev) (H' : Hp), H' t = some (.tup (es.map Ev.v)) → (∀ e ∈ es, Ev.ok ls e) → (es.length : Int) ≤ many → Tame bound often es → Box (n + 2 * many.toNat) H' b → But b H H' → Q (.ref t) H'
end My

namespace My
open PySem PySem.Spec PyProof.Rows L2

/-! ### defs that want to know that no repr is under way (they call repr) -/
structure FnG (P : Program) (w : World) (K : PySem.W.Frag) (mg : Str → Option Value) (base : Heap) (k : Nat) (f : Addr) (fd : FuncData) (ps : List Str) (sp : Sp) : Prop where
  len : ∀ vs H Q, sp vs H Q E0 → vs.length = ps.length
  go : ∀ {A : Around} {out : List Env} {s : Shared} {H : Hp} {as : Args} {us : List Value} {vs : List V} {Q : VK}, A.guards = some [] → Room k A → Env0 P w K mg base A out s H →
    BindsTo s fd as (ps.zip us) → Vals vs us → sp vs H Q E0 → codeAny (model P w) A (.call (.ref f) as) (CR CX0 out P w H s Q E0) s
theorem FnOk.g {P : Program} {w : World} {K : PySem.W.Frag} {mg : Str → Option Value} {base : Heap} {k : Nat} {f : Addr} {fd : FuncData} {ps : List Str} {sp : Sp} (F : FnOk P w K mg base CX0 k f fd ps sp) : FnG P w K mg base k f fd ps sp :=
  ⟨fun vs H Q h => F.len vs H Q _ h, fun _ hr he hb hv h => F.run _ _ _ _ _ _ _ _ _ hr he hb hv h⟩

section
variable {P : Program} {w : World} {K : PySem.W.Frag} {mg : Str → Option Value} {base : Heap}
theorem g_ok {nm qual : Str} {st : Stmt} {f : Addr} {fd : FuncData} {N ps : List Str} {k : Nat} {sp : Sp} (F : Fun K nm qual st f fd) (S : FnScope N ps (defScope st)) (len : ∀ vs H Q, sp vs H Q E0 → vs.length = ps.length)
    (body : ∀ (cdv : Value) (A : Around) (out : List Env) (s : Shared) (H : Hp) (vs : List V) (Q : VK), (A.deeper (envOfC qual (defScope st) s.heap.objs.size f cdv)).guards = some [] →
      Room k (A.deeper (envOfC qual (defScope st) s.heap.objs.size f cdv)) → sp vs H Q E0 →
      ∃ t, PSs (cxOf CX0 P w K mg base N qual (defScope st) f cdv A out s H E0).nox (defBody st) t ∧ t { nx := fun _ H' => Q .non H', rt := Q } (start N vs) H) :
    FnG P w K mg base (k + 1) f fd ps sp := by
  obtain ⟨oc, od, kV, doc, pm, an, cdv, ct, osl, rfl, lk, hcd⟩ := F.ex
  refine ⟨len, ?_⟩
  intro A out s H as us vs Q hg hr e0 hb rv hsp
  have hst : ∀ b o, base.get? b = some o → s.heap.get? b = some o := fun b o e => (e0.bs b o e).1
  have hK : K.In s.heap := e0.mod.kin.keeps hst
  have places : ∀ y ∈ ps.zip us, (defScope st).names.lookup y.1 = some .local ∨ ((defScope st).names.lookup y.1 = some .cell ∧ ((cellsFrom (s.heap.objs.size + 1) (defScope st).names []).lookup y.1).isSome = true) := by
    intro y hy
    obtain ⟨n, v⟩ := y
    exact (S.par n (List.of_mem_zip hy).1).imp id fun q => ⟨q, PySem.W.cellsFrom_some _ _ _ (.inl q)⟩
  refine codeAny_call_function hr.depth (hK _ _ lk) rfl S.co S.gen rfl (PySem.W.codeRec_of hK hcd) (hb _ _ _ _ (wpAny_newFunctionEnv_cells S.kind places fun env he s2 x => ?_))
  cases he
  refine ⟨(e0.mod.nolimit.keeps hst).keeps x.toInCall.keep, codeAny_func ?_⟩
  obtain ⟨t, ht, ht2⟩ := body cdv A out s H vs Q hg (hr.deeper _) hsp
  have I := inv_start (CX := CX0) (E := E0) S hr.hd e0 (len _ _ _ hsp) rv x
  refine wpAny_mono (ht.nox.run [] s2 _ H _ I ht2) ?_ fun _ _ h => h
  intro fl s3 h3
  cases fl with
  | next =>
    obtain ⟨σ3, H3, J, q⟩ := h3
    exact ⟨V.non, H3, J.os, J.bare, J.base, J.hok, rfl, q⟩
  | ret u =>
    obtain ⟨v3, σ3, H3, J, r3, q⟩ := h3
    exact ⟨v3, H3, J.os, J.bare, J.base, J.hok, r3, q⟩
  | brk => exact (h3.choose_spec.choose_spec.2 : False).elim
  | cont => exact (h3.choose_spec.choose_spec.2 : False).elim
end

section
variable {X : Cx} {k : Nat} {f : Addr} {fd : FuncData} {ps : List Str} {sp : Sp} {x : Str} {p pos : Pos} {e : Expr} {es : List Expr} {t : TA}
theorem runG {pins : List (Addr × Obj)} {σ : L2.St} {H : Hp} {s : Shared} {Q : VK} {us : List Value} {vs : List V} (hg : X.A.guards = some []) (F : FnG X.prog X.w X.K X.mg X.base k f fd ps sp) (hr : Room k X.A) (hb : Binds X.K fd ps [])
    (I : Inv X pins σ H s) (r : Vals vs us) (h : sp vs H Q E0) : wpAny (model X.prog X.w) X.A (call (.ref f) us) (EP X pins σ Q) X.xe s := by
  have hlen : (us ++ []).length = ps.length := by
    rw [List.append_nil, ← r.length]
    exact F.len _ _ _ h
  have hbt := hb s us I.kIn hlen
  rw [List.append_nil] at hbt
  refine wpAny_call (codeAny_mono (F.go hg hr I.env0 hbt r h) ?_)
  intro res s2 hq
  match res, hq with
  | .error _, hq => exact hq.elim
  | .ok (.ret u), hq => exact I.after hq
/-- f(e, ..) of such a def -/
theorem pe_callG (hg : X.A.guards = some []) (F : FnG X.prog X.w X.K X.mg X.base k f fd ps sp) (hr : Room k X.A) (hgl : Gl X x) (hm : X.mg x = some (.ref f)) (hk : PySem.W.keepIn X.K (.ref f) = true) (hb : Binds X.K fd ps [])
    (ha : PA X (e :: es) t) (he : starEach (e :: es) X.env = (false, eval e X.env) :: starEach es X.env := by rfl) (hpl : (backTo pos (starEach es X.env)).any (·.1) = false := by rfl)
    (hdb : (x == ("__debug__" : Str)) = false := by decide) : PE X (.Call (.Name x p) (e :: es) [] pos) (tCall sp [] E0 t) := by
  constructor
  intro pins s σ H Q I want
  have step : ∀ (us : List Value) (s2 : Shared), AP X pins σ (fun vs H2 => sp (vs ++ []) H2 Q E0) us s2 → X.K.In s2.heap ∧ wpAny (model X.prog X.w) X.A (call (.ref f) us) (EP X pins σ Q) X.xe s2 := by
    rintro us s2 ⟨vs, H2, I2, r2, q2⟩
    rw [List.append_nil] at q2
    exact ⟨I2.kIn, runG hg F hr hb I2 r2 q2⟩
  exact wpAny_Call_Name_kw (ld_glob I hgl hm (PySem.W.callWith_K (h₀ := X.base) I.ok.mod.kin hk (thn (ha.run pos pins s σ H _ I want) step) he hpl) hdb)
end

/-! ### the law's own call -/
theorem top_run {P : Program} {w : World} {K : PySem.W.Frag} {mg mb : Str → Option Value} {k : Nat} {fa a : Addr} {fd : FuncData} {x : Str} {sp : Sp} {s : Shared} {vs : List Value} {H : Hp}
    (kin : K.In s.heap) (ng : s.heap.Ns mainGlobals mg) (nb : s.heap.Ns builtinsNs mb) (eb : ∀ y : Str, y ≠ "__name__" → mb y = bootBuiltins y) (nl : s.heap.NoLimit) (gs : s.gens = #[])
    (sa : s.heap.get? a = some { cls := .type "list", data := .seq vs.toArray }) (rm : Room k callerA)
    (F : ∀ base : Heap, K.In base → base.Ns mainGlobals mg → FnG P w K mg base k fa fd [x] sp) (bt : ∀ (s : Shared) (u : Value), BindsTo s fd ⟨[u], []⟩ [(x, u)])
    (only : Only H) (hok : HOk P w H s.heap) (alone : ∀ b, H b ≠ none → b = a) (noK : H a ≠ none → K.lookup a = none) (due : sp [.ref a] H (fun v _ => v = .bl true) E0) :
    codeAny (model P w) callerA (.call (.ref fa) ⟨[.ref a], []⟩) (fun r s' => r = .ok (.ret (.bool true)) ∧ OldK s.heap s'.heap ∧ s'.os = s.os ∧ AllBare s'.gens) s := by
  have isA : ∀ {b : Addr} {u : HO}, H b = some u → b = a := fun {b u} q => alone b (by rw [q]; exact fun z => nomatch z)
  have dictFree : ∀ {b : Addr} {m : Str → Option Value}, s.heap.Ns b m → H b = none := by
    rintro b m ⟨o, es, ep, e, d, _⟩
    cases q : H b with
    | none => rfl
    | some u =>
      have eb := isA q
      subst eb
      rw [sa] at e
      cases e
      cases d
  have still : ∀ {b : Addr} {m : Str → Option Value}, s.heap.Ns b m → (hidT s.heap H).Ns b m := by
    intro b m n
    have fr := dictFree n
    obtain ⟨o, es, ep, e, r⟩ := n
    exact ⟨o, es, ep, hidT_get e fr, r⟩
  have kb : K.In (hidT s.heap H) := by
    intro b o e
    refine hidT_get (kin b o e) ?_
    cases q : H b with
    | none => rfl
    | some u =>
      have eb := isA q
      subst eb
      have z := noK (by rw [q]; exact fun z => nomatch z)
      rw [z] at e
      cases e
  obtain ⟨ml, l1, l2⟩ := nl
  have env : Env0 P w K mg (hidT s.heap H) callerA [] s H :=
    { frames := rfl, mod := ⟨kb, still ng, ⟨mb, still nb, eb⟩, ⟨ml, still l1, l2⟩⟩, bs := fun b o e => of_hidT e, bsz := Nat.le_of_eq (hidT_size _ _), funs := trivial, frf := fun b hb => (nomatch hb), hok := hok, bare := .of_eq gs }
  refine codeAny_mono ((F _ kb (still ng)).go (us := [Value.ref a]) (vs := [V.ref a]) rfl rm env (bt s (.ref a)) (Paired.cons rfl Paired.nil) due) ?_
  intro r s' hq
  match r, hq with
  | .error _, hq => exact hq.elim
  | .ok (.ret u), ⟨v, H', os, bare, un, hok', rv, q⟩ =>
    have q : v = .bl true := q
    subst q
    cases rv
    refine ⟨rfl, OldK.of_keep ?_, os, bare⟩
    intro b o e
    cases qb : H b with
    | none => exact un.keep b o e qb (fun z => nomatch z) (fun z => nomatch z)
    | some u =>
      rcases only b with z | ⟨ob, xs, z⟩
      · rw [qb] at z
        cases z
      · obtain ⟨e1, _⟩ := hok b _ z
        rw [e] at e1
        cases e1
        exact (hok' b _ (un.frzs b o _ z)).1

theorem top_call {P : Program} {w : World} {K : PySem.W.Frag} {mg mb : Str → Option Value} {k : Nat} {fa a : Addr} {fd : FuncData} {x : Str} {sp : Sp} {s : Shared} {vs : List Value} {ns : List Int}
    (kin : K.In s.heap) (ng : s.heap.Ns mainGlobals mg) (nb : s.heap.Ns builtinsNs mb) (eb : ∀ y : Str, y ≠ "__name__" → mb y = bootBuiltins y) (nl : s.heap.NoLimit) (gs : s.gens = #[])
    (sa : s.heap.get? a = some { cls := .type "list", data := .seq vs.toArray }) (ia : IntsAre vs ns) (len : ns.length ≤ sizeLine) (rm : Room k callerA)
    (F : ∀ base : Heap, K.In base → base.Ns mainGlobals mg → FnG P w K mg base k fa fd [x] sp) (bt : ∀ (s : Shared) (u : Value), BindsTo s fd ⟨[u], []⟩ [(x, u)])
    (due : ∀ H : Hp, Only H → SqL K H a (ns.map V.int) → sp [.ref a] H (fun v _ => v = .bl true) E0) :
    codeAny (model P w) callerA (.call (.ref fa) ⟨[.ref a], []⟩) (fun r s' => r = .ok (.ret (.bool true)) ∧ OldK s.heap s'.heap ∧ s'.os = s.os ∧ AllBare s'.gens) s := by
  have rv := vals_ints ia
  cases hk : K.lookup a with
  | some o =>
    have e := kin a o hk
    rw [sa] at e
    cases e
    have on : Only (fun _ => none) := fun _ => .inl rfl
    refine top_run kin ng nb eb nl gs sa rm F bt on (fun b u z => ?_) (fun b z => absurd rfl z) (fun z => absurd rfl z) (due _ on (.inr ⟨_, vs.toArray, _, hk, rfl, rfl, rfl, ?_, ?_⟩))
    · exact nomatch z
    · rw [List.size_toArray, ia.length]
      exact len
    · simpa using rv
  | none =>
    have at_ : (fun b => if b = a then some (HO.frz { cls := .type "list", data := .seq vs.toArray } (.lst (ns.map V.int))) else none) a = some (HO.frz { cls := .type "list", data := .seq vs.toArray } (.lst (ns.map V.int))) := if_pos rfl
    have off : ∀ b, b ≠ a → (fun b => if b = a then some (HO.frz { cls := .type "list", data := .seq vs.toArray } (.lst (ns.map V.int))) else none) b = none := fun b n => if_neg n
    generalize (fun b => if b = a then some (HO.frz { cls := .type "list", data := .seq vs.toArray } (.lst (ns.map V.int))) else none) = H at at_ off
    have on : Only H := fun b => by
      by_cases n : b = a
      · subst n
        exact .inr ⟨_, _, at_⟩
      · exact .inl (off b n)
    refine top_run kin ng nb eb nl gs sa rm F bt on (fun b u z => ?_) (fun b z => ?_) (fun _ => hk) (due _ on (.inl (.inr ⟨_, at_⟩)))
    · by_cases n : b = a
      · subst n
        rw [at_] at z
        cases z
        exact ⟨sa, by rw [List.length_map]; exact len, vs, _, rv, sa⟩
      · rw [off b n] at z
        cases z
    · by_cases n : b = a
      · exact n
      · exact absurd (off b n) z

theorem walk_g {l : PySem.W.OpenLaw} {k : Nat} {q : Program} {loose : List Str} {XP : (Str → Option Value) → Heap → Prop} {YP : World → Heap → Prop} {d : DefRec} {K : Params → PySem.W.Frag} {sp : PySem.W.Frag → Sp} {x : Str}
    (hn : l.most = some 63) (hdf : d.params.defaults = []) (hr : Room k callerA) (hY : ∀ (w : World) (h : Heap), YP w h → (K w.params).In h)
    (F : ∀ (w : World) (mg : Str → Option Value) (fa : Addr) (h : Heap), (K w.params).In h → h.Ns mainGlobals mg → mg d.name = some (.ref fa) →
      ∃ fd : FuncData, (∀ (s : Shared) (u : Value), BindsTo s fd ⟨[u], []⟩ [(x, u)]) ∧ ∀ base : Heap, (K w.params).In base → base.Ns mainGlobals mg → FnG l.prog w (K w.params) mg base k fa fd [x] (sp (K w.params)))
    (due : ∀ (K : PySem.W.Frag) (H : Hp) (a : Addr) (ns : List Int), ns.length ≤ 63 → Only H → SqL K H a (ns.map V.int) → sp K [.ref a] H (fun v _ => v = .bl true) E0) :
    PySem.W.WalkO q loose XP YP l.row.toRowW d [] (fun f vs => PySem.call f vs) := by
  apply Att.attach_call hn hdf
  intro w s0 s1 mg mb fa o pm cd doc a vs ns G Y ho hd hcd hmg ha hi hlen hg
  have kx := hY w _ Y
  obtain ⟨fd, hb, hF⟩ := F w mg fa _ kx G.T.g hmg
  exact top_call kx G.T.g G.T.b G.T.builtins G.T.nolimit hg ha hi (Nat.le_trans hlen (by decide)) hr hF hb fun H hO hS => due _ H a ns hlen hO hS

/-! ### repr of data -/
structure Tx (n k : Nat) (d : PyData) : Prop where
  sh : d.showable = true
  nd : d.hasDict = false
  dp : d.depth ≤ k
  ln : d.shown.length ≤ n
theorem call_repr {X : Cx} {k : Nat} (hg : X.A.guards = some []) (hr : Room k X.A) : CallR X (.builtin "repr") (fun xs H Q => ∃ (x : V) (d : PyData), xs = [x] ∧ Dp X.K H x d ∧ Tx 16777216 60 d ∧ Q (.str d.shown) H) := by
  intro pins s σ H xs us Q I r q
  obtain ⟨x, d, rfl, hd, tx, q⟩ := q
  obtain ⟨u, rfl, rx⟩ := vals1 r
  have hu := hr.units
  have hz : d.shown.length ≤ sizeLine := by
    rw [sizeLine_eq]
    exact tx.ln
  obtain ⟨as, rd⟩ := Dp.reads I d x u hd rx
  have dp := tx.dp
  have big : ∀ a, u = .ref a → wpAny (model X.prog X.w) X.A (call (.builtin "repr") [u]) (EP X pins σ Q) X.xe s := by
    rintro a rfl
    exact repr_of_reads' rd tx.sh (PyData.noDict_hsm tx.nd) hg (by omega) (fun _ _ e => e) (fun h' u tk hk => ⟨.str _, H, I.kept hk, ⟨_, rfl⟩, q⟩) hz
  have sh := tx.sh
  cases rd with
  | none => exact PySem.P.repr_of_none ⟨.str _, H, I.tok _, ⟨_, rfl⟩, by simpa only [PyData.shown_none] using q⟩
  | bool b => exact PySem.P.repr_of_bool ⟨.str _, H, I.tok _, ⟨_, rfl⟩, by simpa only [PyData.shown_bool] using q⟩
  | int i t => exact PySem.P.repr_of_int (by simpa only [PyData.showable, decide_eq_true_eq] using sh) ⟨.str _, H, I.tok _, ⟨_, rfl⟩, by simpa only [PyData.shown_int] using q⟩
  | str z t => exact PySem.P.repr_of_str ⟨.str _, H, I.tok _, ⟨_, rfl⟩, by simpa only [PyData.shown_str] using q⟩ (by simpa only [PyData.shown_str] using hz)
  | list _ _ _ _ => exact big _ rfl
  | tuple _ _ _ _ => exact big _ rfl
  | dict _ _ _ _ _ => exact big _ rfl

theorem showableAll_iff : ∀ ds : List PyData, PyData.showableAll ds = true ↔ ∀ d ∈ ds, d.showable = true
  | [] => by simp [PyData.showableAll]
  | d :: ds => by simp only [PyData.showableAll, Bool.and_eq_true, showableAll_iff ds, List.mem_cons, forall_eq_or_imp]
theorem hasDictAll_iff : ∀ ds : List PyData, PyData.hasDictAll ds = false ↔ ∀ d ∈ ds, d.hasDict = false
  | [] => by simp [PyData.hasDictAll]
  | d :: ds => by simp only [PyData.hasDictAll, Bool.or_eq_false_iff, hasDictAll_iff ds, List.mem_cons, forall_eq_or_imp]
theorem depthAll_le {k : Nat} : ∀ ds : List PyData, (∀ d ∈ ds, d.depth ≤ k) → PyData.depthAll ds ≤ k
  | [], _ => by simp [PyData.depthAll]
  | d :: ds, h => by
    simp only [PyData.depthAll]
    have h1 := h d List.mem_cons_self
    have h2 := depthAll_le ds fun x hx => h x (List.mem_cons_of_mem _ hx)
    exact Nat.max_le.mpr ⟨h1, h2⟩
theorem shownAll_map : ∀ ds : List PyData, PyData.shownAll ds = ds.map PyData.shown
  | [] => by simp [PyData.shownAll]
  | d :: ds => by simp only [PyData.shownAll, shownAll_map ds, List.map_cons]
theorem join_le (n : Nat) : ∀ ts : List Str, (∀ t ∈ ts, t.length ≤ n) → (Str.join ", " ts).length ≤ ts.length * (n + 2)
  | [], _ => Nat.zero_le _
  | t :: r, h => by
    have h1 := join_length_add (t :: r) (by simp)
    have h2 : ∀ us : List Str, (∀ t ∈ us, t.length ≤ n) → piled us ≤ us.length * (n + 2) := by
      intro us
      induction us with
      | nil => intro _; exact Nat.zero_le _
      | cons u us ih =>
        intro hu
        have a := hu u List.mem_cons_self
        have b := ih fun x hx => hu x (List.mem_cons_of_mem _ hx)
        rw [piled_cons, List.length_cons, Nat.succ_mul]
        omega
    have h3 := h2 _ h
    omega
theorem Tx.mono {n m k l : Nat} {d : PyData} (t : Tx n k d) (h : n ≤ m) (h2 : k ≤ l) : Tx m l d := ⟨t.sh, t.nd, Nat.le_trans t.dp h2, Nat.le_trans t.ln h⟩
theorem Tx.int {i : Int} {n : Nat} (h0 : 0 < n) (h1 : n ≤ 500) (h : i.natAbs < 10 ^ n) : Tx (n + 1) 0 (.int i) := by
  refine ⟨?_, by simp only [PyData.hasDict], by simp only [PyData.depth]; exact Nat.le_refl _, ?_⟩
  · simp only [PyData.showable, decide_eq_true_eq]
    have h2 : i.natAbs < 2 ^ 1920 := Nat.lt_of_lt_of_le h (Nat.le_trans (Nat.pow_le_pow_right (by decide) h1) (by decide +kernel))
    by_cases z : i.natAbs = 0
    · rw [z]
      decide
    · exact (Nat.log2_lt z).mpr h2
  · rw [PyData.shown_int]
    have e := PySem.int_text_length_le10 h0 h
    show (Str.ofString (toString i)).length ≤ n + 1
    rw [PySem.ofString_length]
    exact e
theorem Tx.bool {b : Bool} : Tx 5 0 (.bool b) := by
  refine ⟨by simp only [PyData.showable], by simp only [PyData.hasDict], by simp only [PyData.depth]; exact Nat.le_refl _, ?_⟩
  rw [PyData.shown_bool]
  cases b <;> decide +kernel
theorem Tx.none : Tx 4 0 .none := by
  refine ⟨by simp only [PyData.showable], by simp only [PyData.hasDict], by simp only [PyData.depth]; exact Nat.le_refl _, ?_⟩
  rw [PyData.shown_none]
  decide +kernel
theorem Tx.str {x : Str} (h : ∀ c ∈ x.cps.toList, c < 16 ^ 8) : Tx (10 * x.length + 2) 0 (.str x) := by
  refine ⟨by simp only [PyData.showable], by simp only [PyData.hasDict], by simp only [PyData.depth]; exact Nat.le_refl _, ?_⟩
  rw [PyData.shown_str]
  exact StrLaws.reprText_len x h
theorem Tx.list {n k m : Nat} {ds : List PyData} (h : ∀ d ∈ ds, Tx n k d) (hm : ds.length ≤ m) : Tx (m * (n + 2) + 2) (k + 1) (.list ds) := by
  refine ⟨by simp only [PyData.showable]; exact (showableAll_iff ds).mpr fun d hd => (h d hd).sh, by simp only [PyData.hasDict]; exact (hasDictAll_iff ds).mpr fun d hd => (h d hd).nd, ?_, ?_⟩
  · simp only [PyData.depth]
    exact Nat.succ_le_succ (depthAll_le ds fun d hd => (h d hd).dp)
  · rw [PyData.shown_list, strLen_append, strLen_append, shownAll_map]
    have e1 : ((("[" : String) : Str)).length = 1 := rfl
    have e2 : ((("]" : String) : Str)).length = 1 := rfl
    have e3 := join_le n (ds.map PyData.shown) fun t ht => by
      obtain ⟨d, hd, rfl⟩ := List.mem_map.mp ht
      exact (h d hd).ln
    rw [List.length_map] at e3
    have e4 := Nat.mul_le_mul_right (n + 2) hm
    omega
theorem Tx.tuple {n k m : Nat} {ds : List PyData} (h : ∀ d ∈ ds, Tx n k d) (hm : ds.length ≤ m) : Tx (m * (n + 2) + 3) (k + 1) (.tuple ds) := by
  refine ⟨by simp only [PyData.showable]; exact (showableAll_iff ds).mpr fun d hd => (h d hd).sh, by simp only [PyData.hasDict]; exact (hasDictAll_iff ds).mpr fun d hd => (h d hd).nd, ?_, ?_⟩
  · simp only [PyData.depth]
    exact Nat.succ_le_succ (depthAll_le ds fun d hd => (h d hd).dp)
  · rw [PyData.shown_tuple, strLen_append, strLen_append, shownAll_map]
    have e1 : ((("(" : String) : Str)).length = 1 := rfl
    have e2 : (((if ds.length == 1 then ",)" else ")" : String) : Str)).length ≤ 2 := by split <;> decide
    have e3 := join_le n (ds.map PyData.shown) fun t ht => by
      obtain ⟨d, hd, rfl⟩ := List.mem_map.mp ht
      exact (h d hd).ln
    rw [List.length_map] at e3
    have e4 := Nat.mul_le_mul_right (n + 2) hm
    omega

/-! ### data that lie in the heap -/
theorem dp_map {α : Type} {K : PySem.W.Frag} {H : Hp} {f : α → V} {g : α → PyData} : ∀ {xs : List α}, (∀ x ∈ xs, Dp K H (f x) (g x)) → DpAll K H (xs.map f) (xs.map g)
  | [], _ => .nil
  | x :: xs, h => .cons (h x List.mem_cons_self) (dp_map fun y hy => h y (List.mem_cons_of_mem _ hy))
theorem dp_ints {K : PySem.W.Frag} {H : Hp} (ns : List Int) : DpAll K H (ns.map V.int) (ns.map PyData.int) := dp_map fun n _ => .int n
def Ev.d : Ev → PyData
  | .line l => .int l
  | .look => .str "look"
  | .rot => .str "rotate"
theorem dp_ev {K : PySem.W.Frag} {H : Hp} (e : Ev) : Dp K H e.v e.d := by
  cases e with
  | line l => exact .int l
  | look => exact .str _
  | rot => exact .str _
theorem dp_evs {K : PySem.W.Frag} {H : Hp} (es : List Ev) : DpAll K H (es.map Ev.v) (es.map Ev.d) := dp_map fun e _ => dp_ev e
theorem Ev.tx {e : Ev} {ls : List Int} (h : Ev.ok ls e) (hl : ∀ l ∈ ls, 1 ≤ l ∧ l ≤ 100) : Tx 62 0 e.d := by
  cases e with
  | line l =>
    have := hl l h
    exact (Tx.int (n := 3) (by decide) (by decide) (by omega)).mono (by decide) (Nat.le_refl _)
  | look => exact (Tx.str (x := "look") (by decide +kernel)).mono (by decide) (Nat.le_refl _)
  | rot => exact (Tx.str (x := "rotate") (by decide +kernel)).mono (by decide) (Nat.le_refl _)

theorem inV_int {z : Int} {ls : List Int} (h : z ∈ ls) : inV (.int z) (ls.map V.int) = true := by
  unfold inV
  rw [List.any_map, List.any_eq_true]
  exact ⟨z, h, by show eqV (.int z) (.int z) = true; simp [eqV]⟩
theorem flat_ints (ls : List Int) : (ls.map V.int).all flatV = true := by
  rw [List.all_map, List.all_eq_true]
  intro z _
  rfl
theorem all_true (n : Nat) : (List.replicate n true).all id = true := by
  rw [List.all_eq_true]
  intro b hb
  exact (List.mem_replicate.mp hb).2
theorem trues_snoc (n : Nat) : (List.replicate n true).map V.bl ++ [V.bl true] = (List.replicate (n + 1) true).map V.bl := by
  rw [List.replicate_succ', List.map_append]
  rfl
theorem trues_len (n : Nat) : ((List.replicate n true).map V.bl).length = n := by simp
/-- a list of trues at D, everything that stood stands -/
def TruesAt (D : Addr) (n : Nat) (H : Hp) : Prop := H D = some (.lst ((List.replicate n true).map V.bl))
theorem Tx.small {i : Int} (h : i.natAbs < 10 ^ 3) : Tx 4 0 (.int i) := Tx.int (by decide) (by decide) h

/-- max(1, min(len(script), 3)), max(1, min(3, len(script))) -/
def cntA (n : Nat) : Int := if (if (3 : Int) < (n : Int) then (3 : Int) else (n : Int)) > 1 then (if (3 : Int) < (n : Int) then (3 : Int) else (n : Int)) else 1
def cntB (n : Nat) : Int := if (if (n : Int) < (3 : Int) then (n : Int) else (3 : Int)) > 1 then (if (n : Int) < (3 : Int) then (n : Int) else (3 : Int)) else 1
theorem cntA_in (n : Nat) : 1 ≤ cntA n ∧ cntA n ≤ 3 := by
  unfold cntA
  split <;> (try split) <;> omega
theorem cntB_in (n : Nat) : 1 ≤ cntB n ∧ cntB n ≤ 3 := by
  unfold cntB
  split <;> (try split) <;> omega
end My

namespace My
open PySem PySem.Spec PyProof.Rows L2

/-! ### data as trees, mutable objects as numbered cells -/
structure Wd where
  K : PySem.W.Frag
  cl : Str → Addr

inductive D where
  | non
  | bl (b : Bool)
  | int (i : Int)
  | str (x : Str)
  | ty (n : String)
  | cls (n : Str)
  | tup (xs : List D)
  | tpf (xs : List D)
  | lst (xs : List D)
  | scr (ns : List Int)
  | dk (ks : List Key) (vs : List D)
  | dt (ks : List (List Key)) (vs : List D)
  | set (ns : List Int)
  | ins (n : Str) (fs : List Str) (vs : List D)
  | ref (i : Nat)

abbrev Env := List (Option D)
abbrev Store := List D
abbrev EM := Env → Store → Option (D × Store)
abbrev TM := Env → Store → Option (Bool × Store)
abbrev AM := Env → Store → Option (List D × Store)
inductive Out where
  | nx (e : Env)
  | rt (d : D)
  | bk (e : Env)
  | ct (e : Env)
abbrev SM := Env → Store → Option (Out × Store)
abbrev FM := List D → Store → Option (D × Store)

/-- where the cells stand; what else is no tree (lists under way) -/
structure Lay where
  c : List Addr
  k : List Addr
def Lay.has (L : Lay) (a : Addr) : Prop := a ∈ L.c ∨ a ∈ L.k
def Lay.hide (L : Lay) (p : Addr) : Lay := ⟨L.c, p :: L.k⟩
def Lay.add (L : Lay) (p : Addr) : Lay := ⟨L.c ++ [p], L.k⟩
def Lay.cut (L : Lay) (n : Nat) : Lay := ⟨L.c.take n, L.k⟩
/-- a list that is never written: the script, a list of the module -/
def FzL (K : PySem.W.Frag) (H : Hp) (a : Addr) (xs : List V) : Prop :=
  (∃ o, H a = some (.frz o (.lst xs))) ∨
    ∃ (o : Obj) (its : Array Value) (n : Nat), K.lookup a = some o ∧ o.cls = .type "list" ∧ o.dict = none ∧ o.data = .seq its n ∧ its.size ≤ sizeLine ∧ Vals xs its.toList
theorem FzL.sq {K : PySem.W.Frag} {H : Hp} {a : Addr} {xs : List V} (h : FzL K H a xs) : SqL K H a xs := h.elim (fun ⟨o, e⟩ => .inl (.inr ⟨o, e⟩)) .inr

mutual
def Rep (W : Wd) (ι : Lay) (H : Hp) : D → V → Prop
  | .non, v => v = .non
  | .bl b, v => v = .bl b
  | .int i, v => v = .int i
  | .str x, v => v = .str x
  | .ty n, v => v = .ty n
  | .cls n, v => v = .ref (W.cl n)
  | .tup ds, v => ∃ a, v = .ref a ∧ ∃ vs, H a = some (.tup vs) ∧ Reps W ι H ds vs
  | .tpf ds, v => ∃ a, v = .ref a ∧ ∃ o vs, (o.cls = .type "tuple" ∧ o.dict = none) ∧ H a = some (.frz o (.tup vs)) ∧ Reps W ι H ds vs
  | .lst ds, v => ∃ a, v = .ref a ∧ ¬ ι.has a ∧ ∃ vs, H a = some (.lst vs) ∧ Reps W ι H ds vs
  | .scr ns, v => ∃ a, v = .ref a ∧ FzL W.K H a (ns.map V.int)
  | .dk ks ds, v => ∃ a, v = .ref a ∧ ¬ ι.has a ∧ ∃ vs, H a = some (.dK (ks.zip vs)) ∧ ks.length = ds.length ∧ Reps W ι H ds vs
  | .dt ks ds, v => ∃ a, v = .ref a ∧ ¬ ι.has a ∧ ∃ vs, H a = some (.dT (ks.zip vs)) ∧ ks.length = ds.length ∧ Reps W ι H ds vs
  | .set ns, v => ∃ a, v = .ref a ∧ ¬ ι.has a ∧ H a = some (.set (fun i => decide (i ∈ ns)) ns.length) ∧ ns.Nodup
  | .ins n fs ds, v => ∃ a, v = .ref a ∧ ¬ ι.has a ∧ ∃ dx vs, H a = some (.ins (W.cl n) dx (fs.zip vs)) ∧ fs.length = ds.length ∧ Reps W ι H ds vs
  | .ref i, v => ∃ a, v = .ref a ∧ ι.c[i]? = some a
def Reps (W : Wd) (ι : Lay) (H : Hp) : List D → List V → Prop
  | [], vs => vs = []
  | d :: ds, vs => ∃ v r, vs = v :: r ∧ Rep W ι H d v ∧ Reps W ι H ds r
end

/-- a cell's content at its address -/
def CellOk (W : Wd) (ι : Lay) (H : Hp) (a : Addr) : D → Prop
  | .lst ds => ∃ vs, H a = some (.lst vs) ∧ Reps W ι H ds vs
  | .dk ks ds => ∃ vs, H a = some (.dK (ks.zip vs)) ∧ ks.length = ds.length ∧ Reps W ι H ds vs
  | .dt ks ds => ∃ vs, H a = some (.dT (ks.zip vs)) ∧ ks.length = ds.length ∧ Reps W ι H ds vs
  | .set ns => H a = some (.set (fun i => decide (i ∈ ns)) ns.length) ∧ ns.Nodup
  | .ins n fs ds => ∃ dx vs, H a = some (.ins (W.cl n) dx (fs.zip vs)) ∧ fs.length = ds.length ∧ Reps W ι H ds vs
  | _ => False

structure RelH (W : Wd) (ι : Lay) (H : Hp) (st : Store) : Prop where
  len : ι.c.length = st.length
  nd : ι.c.Nodup
  dis : ∀ a ∈ ι.c, a ∉ ι.k
  hidd : ∀ a ∈ ι.k, ∃ o, H a = some o
  cell : ∀ (i : Nat) (c : D), st[i]? = some c → ∃ a, ι.c[i]? = some a ∧ CellOk W ι H a c
structure REnv (W : Wd) (ι : Lay) (H : Hp) (env : Env) (σ : L2.St) : Prop where
  len : env.length = σ.length
  get : ∀ (i : Nat) (d : D), env[i]? = some (some d) → ∃ v, σ[i]? = some (some v) ∧ Rep W ι H d v
/-- what trees lean on stands -/
structure Gro (ι : Lay) (H : Hp) (ι' : Lay) (H' : Hp) : Prop where
  pre : ∀ (i : Nat) (a : Addr), ι.c[i]? = some a → ι'.c[i]? = some a
  keep : ∀ (a : Addr) (o : HO), (¬ ι.has a ∨ ¬ Mut (some o)) → H a = some o → H' a = some o
  notin : ∀ (a : Addr) (o : HO), ¬ ι.has a → H a = some o → ¬ ι'.has a
/-- the heap grows: what is no cell stands -/
structure Grow (ι : Lay) (H : Hp) (ι' : Lay) (H' : Hp) : Prop where
  pre : ∀ (i : Nat) (a : Addr), ι.c[i]? = some a → ι'.c[i]? = some a
  keep : ∀ (a : Addr) (o : HO), (a ∉ ι.c ∨ ¬ Mut (some o)) → H a = some o → H' a = some o
  new : ∀ a ∈ ι'.c, a ∈ ι.c ∨ H a = none
  hid : ι'.k = ι.k

section
variable {W : Wd} {ι ι' ι'' : Lay} {H H' H'' : Hp}
theorem Grow.refl : Grow ι H ι H := ⟨fun _ _ h => h, fun _ _ _ h => h, fun _ h => .inl h, rfl⟩
theorem Grow.gro (g : Grow ι H ι' H') : Gro ι H ι' H' :=
  ⟨g.pre, fun a o n h => g.keep a o (n.imp (fun n m => n (.inl m)) id) h, fun a o n h m => by
    rcases m with m | m
    · rcases g.new a m with z | z
      · exact n (.inl z)
      · rw [h] at z; cases z
    · rw [g.hid] at m
      exact n (.inr m)⟩
theorem Grow.trans (g : Grow ι H ι' H') (k : Grow ι' H' ι'' H'') : Grow ι H ι'' H'' where
  pre := fun i a h => k.pre i a (g.pre i a h)
  keep := fun a o n h => k.keep a o (n.imp (fun n m => by
    rcases g.new a m with z | z
    · exact n z
    · rw [h] at z; cases z) id) (g.keep a o n h)
  new := fun a m => by
    rcases k.new a m with z | z
    · exact g.new a z
    · by_cases q : a ∈ ι.c
      · exact .inl q
      · refine .inr ?_
        cases e : H a with
        | none => rfl
        | some o => rw [g.keep a o (.inl q) e] at z; cases z
  hid := k.hid.trans g.hid
theorem Gro.sqT (g : Gro ι H ι' H') {K : PySem.W.Frag} {a : Addr} {vs : List V} (h : SqT K H a vs) : SqT K H' a vs := by
  rcases h with (h | ⟨o, h⟩) | h
  · exact .inl (.inl (g.keep _ _ (.inr fun z => z) h))
  · exact .inl (.inr ⟨o, g.keep _ _ (.inr fun z => z) h⟩)
  · exact .inr h
theorem Gro.fzL (g : Gro ι H ι' H') {K : PySem.W.Frag} {a : Addr} {vs : List V} (h : FzL K H a vs) : FzL K H' a vs := by
  rcases h with ⟨o, h⟩ | h
  · exact .inl ⟨o, g.keep _ _ (.inr fun z => z) h⟩
  · exact .inr h
mutual
theorem Rep.gro (g : Gro ι H ι' H') : ∀ (d : D) (v : V), Rep W ι H d v → Rep W ι' H' d v
  | .non, _, h => by simpa only [Rep] using h
  | .bl _, _, h => by simpa only [Rep] using h
  | .int _, _, h => by simpa only [Rep] using h
  | .str _, _, h => by simpa only [Rep] using h
  | .ty _, _, h => by simpa only [Rep] using h
  | .cls _, _, h => by simpa only [Rep] using h
  | .tup ds, v, h => by
    simp only [Rep] at h ⊢
    obtain ⟨a, e, vs, h1, h2⟩ := h
    exact ⟨a, e, vs, g.keep _ _ (.inr fun z => z) h1, Reps.gro g ds vs h2⟩
  | .tpf ds, v, h => by
    simp only [Rep] at h ⊢
    obtain ⟨a, e, o, vs, h0, h1, h2⟩ := h
    exact ⟨a, e, o, vs, h0, g.keep _ _ (.inr fun z => z) h1, Reps.gro g ds vs h2⟩
  | .lst ds, v, h => by
    simp only [Rep] at h ⊢
    obtain ⟨a, e, n, vs, h1, h2⟩ := h
    exact ⟨a, e, g.notin _ _ n h1, vs, g.keep _ _ (.inl n) h1, Reps.gro g ds vs h2⟩
  | .scr ns, v, h => by
    simp only [Rep] at h ⊢
    obtain ⟨a, e, h1⟩ := h
    exact ⟨a, e, g.fzL h1⟩
  | .dk ks ds, v, h => by
    simp only [Rep] at h ⊢
    obtain ⟨a, e, n, vs, h1, l, h2⟩ := h
    exact ⟨a, e, g.notin _ _ n h1, vs, g.keep _ _ (.inl n) h1, l, Reps.gro g ds vs h2⟩
  | .dt ks ds, v, h => by
    simp only [Rep] at h ⊢
    obtain ⟨a, e, n, vs, h1, l, h2⟩ := h
    exact ⟨a, e, g.notin _ _ n h1, vs, g.keep _ _ (.inl n) h1, l, Reps.gro g ds vs h2⟩
  | .set ns, v, h => by
    simp only [Rep] at h ⊢
    obtain ⟨a, e, n, h1, l⟩ := h
    exact ⟨a, e, g.notin _ _ n h1, g.keep _ _ (.inl n) h1, l⟩
  | .ins m fs ds, v, h => by
    simp only [Rep] at h ⊢
    obtain ⟨a, e, n, dx, vs, h1, l, h2⟩ := h
    exact ⟨a, e, g.notin _ _ n h1, dx, vs, g.keep _ _ (.inl n) h1, l, Reps.gro g ds vs h2⟩
  | .ref i, v, h => by
    simp only [Rep] at h ⊢
    obtain ⟨a, e, h1⟩ := h
    exact ⟨a, e, g.pre _ _ h1⟩
theorem Reps.gro (g : Gro ι H ι' H') : ∀ (ds : List D) (vs : List V), Reps W ι H ds vs → Reps W ι' H' ds vs
  | [], _, h => by simpa only [Reps] using h
  | d :: ds, vs, h => by
    simp only [Reps] at h ⊢
    obtain ⟨v, r, e, h1, h2⟩ := h
    exact ⟨v, r, e, Rep.gro g d v h1, Reps.gro g ds r h2⟩
end
theorem Rep.grow (g : Grow ι H ι' H') (d : D) (v : V) (h : Rep W ι H d v) : Rep W ι' H' d v := Rep.gro g.gro d v h
theorem Reps.grow (g : Grow ι H ι' H') (ds : List D) (vs : List V) (h : Reps W ι H ds vs) : Reps W ι' H' ds vs := Reps.gro g.gro ds vs h
theorem Reps.nil : Reps W ι H [] [] := by simp only [Reps]
theorem Reps.cons {d : D} {ds : List D} {v : V} {vs : List V} (h : Rep W ι H d v) (t : Reps W ι H ds vs) : Reps W ι H (d :: ds) (v :: vs) := by
  simp only [Reps]
  exact ⟨v, vs, rfl, h, t⟩
theorem Reps.uncons {d : D} {ds : List D} {vs : List V} (h : Reps W ι H (d :: ds) vs) : ∃ v r, vs = v :: r ∧ Rep W ι H d v ∧ Reps W ι H ds r := by simpa only [Reps] using h
theorem Reps.nil_of {vs : List V} (h : Reps W ι H [] vs) : vs = [] := by simpa only [Reps] using h
theorem Reps.length : ∀ {ds : List D} {vs : List V}, Reps W ι H ds vs → ds.length = vs.length
  | [], _, h => by rw [h.nil_of]; rfl
  | d :: ds, vs, h => by
    obtain ⟨v, r, rfl, _, t⟩ := h.uncons
    simp [Reps.length t]
theorem Reps.get : ∀ {ds : List D} {vs : List V} {i : Nat} {d : D}, Reps W ι H ds vs → ds[i]? = some d → ∃ v, vs[i]? = some v ∧ Rep W ι H d v
  | [], _, i, d, _, e => by simp at e
  | d :: ds, vs, 0, x, h, e => by
    obtain ⟨v, r, rfl, h1, t⟩ := h.uncons
    simp at e
    subst e
    exact ⟨v, rfl, h1⟩
  | d :: ds, vs, i + 1, x, h, e => by
    obtain ⟨v, r, rfl, h1, t⟩ := h.uncons
    obtain ⟨u, h2, h3⟩ := Reps.get (i := i) (d := x) t (by simpa using e)
    exact ⟨u, by simpa using h2, h3⟩
theorem Reps.get' : ∀ {ds : List D} {vs : List V} {i : Nat} {v : V}, Reps W ι H ds vs → vs[i]? = some v → ∃ d, ds[i]? = some d ∧ Rep W ι H d v := fun {ds vs i v} h e => by
  have hl := h.length
  have hi : i < ds.length := by
    rw [hl]
    exact (List.getElem?_eq_some_iff.mp e).1
  obtain ⟨u, h1, h2⟩ := h.get (List.getElem?_eq_getElem hi)
  rw [e] at h1
  cases h1
  exact ⟨_, List.getElem?_eq_getElem hi, h2⟩
theorem Reps.append : ∀ {ds es : List D} {vs us : List V}, Reps W ι H ds vs → Reps W ι H es us → Reps W ι H (ds ++ es) (vs ++ us)
  | [], _, _, _, h, k => by rw [h.nil_of]; exact k
  | d :: ds, es, vs, us, h, k => by
    obtain ⟨v, r, rfl, h1, t⟩ := h.uncons
    exact Reps.cons h1 (Reps.append t k)
theorem Reps.set {d : D} {v : V} (q : Rep W ι H d v) : ∀ {ds : List D} {vs : List V} (i : Nat), Reps W ι H ds vs → Reps W ι H (ds.set i d) (vs.set i v)
  | [], _, _, h => by rw [h.nil_of]; exact Reps.nil
  | _ :: _, _, 0, h => by
    obtain ⟨v, r, rfl, h1, t⟩ := h.uncons
    exact Reps.cons q t
  | _ :: _, _, i + 1, h => by
    obtain ⟨v, r, rfl, h1, t⟩ := h.uncons
    exact Reps.cons h1 (Reps.set q i t)
theorem Reps.take : ∀ {ds : List D} {vs : List V} (n : Nat), Reps W ι H ds vs → Reps W ι H (ds.take n) (vs.take n)
  | _, _, 0, _ => by simp only [List.take_zero]; exact Reps.nil
  | [], _, n + 1, h => by rw [h.nil_of]; exact Reps.nil
  | _ :: _, _, n + 1, h => by
    obtain ⟨v, r, rfl, h1, t⟩ := h.uncons
    exact Reps.cons h1 (Reps.take n t)
theorem Reps.drop : ∀ {ds : List D} {vs : List V} (n : Nat), Reps W ι H ds vs → Reps W ι H (ds.drop n) (vs.drop n)
  | _, _, 0, h => h
  | [], _, n + 1, h => by rw [h.nil_of]; exact Reps.nil
  | _ :: _, _, n + 1, h => by
    obtain ⟨v, r, rfl, h1, t⟩ := h.uncons
    exact Reps.drop n t
theorem Reps.map {α : Type} {f : α → D} {g : α → V} : ∀ {xs : List α}, (∀ x ∈ xs, Rep W ι H (f x) (g x)) → Reps W ι H (xs.map f) (xs.map g)
  | [], _ => Reps.nil
  | x :: xs, h => Reps.cons (h x List.mem_cons_self) (Reps.map fun y hy => h y (List.mem_cons_of_mem _ hy))
theorem Reps.of_all {ds : List D} {f : D → V} (h : ∀ d ∈ ds, Rep W ι H d (f d)) : Reps W ι H ds (ds.map f) := by
  have := Reps.map (W := W) (ι := ι) (H := H) (xs := ds) (f := id) (g := f) h
  simpa using this
theorem Reps.ints {ns : List Int} {vs : List V} (h : Reps W ι H (ns.map D.int) vs) : vs = ns.map V.int := by
  induction ns generalizing vs with
  | nil => exact h.nil_of
  | cons n ns ih =>
    obtain ⟨v, r, rfl, h1, t⟩ := h.uncons
    simp only [Rep] at h1
    rw [h1, ih t]; rfl
theorem Reps.eq_of {ds : List D} {vs us : List V} (f : ∀ d ∈ ds, ∀ v u, Rep W ι H d v → Rep W ι' H' d u → v = u) (h : Reps W ι H ds vs) (k : Reps W ι' H' ds us) : vs = us := by
  induction ds generalizing vs us with
  | nil => rw [h.nil_of, k.nil_of]
  | cons d ds ih =>
    obtain ⟨v, r, rfl, h1, t⟩ := h.uncons
    obtain ⟨u, s, rfl, k1, q⟩ := k.uncons
    rw [f d List.mem_cons_self v u h1 k1, ih (fun x hx => f x (List.mem_cons_of_mem _ hx)) t q]

theorem CellOk.there {a : Addr} {c : D} (h : CellOk W ι H a c) : ∃ o, H a = some o ∧ Mut (some o) := by
  cases c with
  | lst ds => obtain ⟨vs, e, _⟩ := h; exact ⟨_, e, trivial⟩
  | dk ks ds => obtain ⟨vs, e, _⟩ := h; exact ⟨_, e, trivial⟩
  | dt ks ds => obtain ⟨vs, e, _⟩ := h; exact ⟨_, e, trivial⟩
  | set ns => exact ⟨_, h.1, trivial⟩
  | ins n fs ds => obtain ⟨dx, vs, e, _⟩ := h; exact ⟨_, e, trivial⟩
  | _ => exact h.elim
/-- the cell stays where its object stays -/
theorem CellOk.move {a : Addr} {c : D} (g : Gro ι H ι' H') (e : ∀ o, H a = some o → H' a = some o) (h : CellOk W ι H a c) : CellOk W ι' H' a c := by
  cases c with
  | lst ds => obtain ⟨vs, q, r⟩ := h; exact ⟨vs, e _ q, Reps.gro g _ _ r⟩
  | dk ks ds => obtain ⟨vs, q, l, r⟩ := h; exact ⟨vs, e _ q, l, Reps.gro g _ _ r⟩
  | dt ks ds => obtain ⟨vs, q, l, r⟩ := h; exact ⟨vs, e _ q, l, Reps.gro g _ _ r⟩
  | set ns => exact ⟨e _ h.1, h.2⟩
  | ins n fs ds => obtain ⟨dx, vs, q, l, r⟩ := h; exact ⟨dx, vs, e _ q, l, Reps.gro g _ _ r⟩
  | _ => exact h.elim
theorem RelH.at {st : Store} (r : RelH W ι H st) {i : Nat} {a : Addr} (h : ι.c[i]? = some a) : ∃ c, st[i]? = some c ∧ CellOk W ι H a c := by
  have hi : i < st.length := by rw [← r.len]; exact (List.getElem?_eq_some_iff.mp h).1
  obtain ⟨b, h1, h2⟩ := r.cell i _ (List.getElem?_eq_getElem hi)
  rw [h] at h1
  cases h1
  exact ⟨_, List.getElem?_eq_getElem hi, h2⟩
theorem RelH.mem {st : Store} (r : RelH W ι H st) {a : Addr} (h : a ∈ ι.c) : ∃ o, H a = some o ∧ Mut (some o) := by
  obtain ⟨i, hi, e⟩ := List.mem_iff_getElem.mp h
  obtain ⟨c, _, k⟩ := r.at (List.getElem?_eq_some_iff.mpr ⟨hi, e⟩)
  exact k.there
theorem RelH.notin {st : Store} (r : RelH W ι H st) {p : Addr} (h : H p = none) : p ∉ ι.c := fun m => by
  obtain ⟨o, e, _⟩ := r.mem m
  rw [h] at e; cases e
/-- what is hidden lies in the heap -/
theorem RelH.free {st : Store} (r : RelH W ι H st) {p : Addr} (h : H p = none) : ¬ ι.has p := fun m => by
  rcases m with m | m
  · exact r.notin h m
  · obtain ⟨o, e⟩ := r.hidd p m
    rw [h] at e; cases e
theorem Grow.laid {p : Addr} {o : HO} (h : H p = none) : Grow ι H ι (upd H p o) :=
  ⟨fun _ _ h => h, fun a u _ e => kp_new h e, fun _ m => .inl m, rfl⟩
theorem RelH.laid {st : Store} (r : RelH W ι H st) {p : Addr} {o : HO} (h : H p = none) : RelH W ι (upd H p o) st :=
  ⟨r.len, r.nd, r.dis, fun a m => by
    obtain ⟨u, e⟩ := r.hidd a m
    exact ⟨u, kp_new h e⟩, fun i c e => by
    obtain ⟨a, h1, h2⟩ := r.cell i c e
    exact ⟨a, h1, h2.move (Grow.laid h).gro fun u q => kp_new h q⟩⟩
/-- a new cell -/
theorem Grow.cell {p : Addr} {o : HO} (h : H p = none) : Grow ι H (ι.add p) (upd H p o) :=
  ⟨fun i a e => by
    have := (List.getElem?_eq_some_iff.mp e).1
    show (ι.c ++ [p])[i]? = some a
    rw [List.getElem?_append_left this]; exact e, fun a u _ e => kp_new h e, fun a m => by
    rcases List.mem_append.mp (show a ∈ ι.c ++ [p] from m) with z | z
    · exact .inl z
    · rw [List.mem_singleton.mp z]; exact .inr h, rfl⟩
theorem RelH.new {st : Store} (r : RelH W ι H st) {p : Addr} {o : HO} {c : D} (h : H p = none) (k : CellOk W (ι.add p) (upd H p o) p c) : RelH W (ι.add p) (upd H p o) (st ++ [c]) := by
  refine ⟨by show (ι.c ++ [p]).length = _; simp [r.len], ?_, fun a m => ?_, fun a m => ?_, fun i d e => ?_⟩
  · show (ι.c ++ [p]).Nodup
    rw [List.nodup_append]
    refine ⟨r.nd, by simp, fun a m b mb z => ?_⟩
    rw [List.mem_singleton.mp mb] at z
    exact r.notin h (z ▸ m)
  · rcases List.mem_append.mp (show a ∈ ι.c ++ [p] from m) with z | z
    · exact r.dis a z
    · rw [List.mem_singleton.mp z]
      exact fun q => r.free h (.inr q)
  · obtain ⟨u, e⟩ := r.hidd a m
    exact ⟨u, kp_new h e⟩
  · by_cases hi : i < st.length
    · rw [List.getElem?_append_left hi] at e
      obtain ⟨a, h1, h2⟩ := r.cell i d e
      exact ⟨a, (Grow.cell (o := o) h).pre _ _ h1, h2.move (Grow.cell h).gro fun u q => kp_new h q⟩
    · have : i = st.length := by
        have := (List.getElem?_eq_some_iff.mp e).1
        simp at this; omega
      subst this
      simp at e
      subst e
      exact ⟨p, by rw [← r.len]; show (ι.c ++ [p])[_]? = _; simp, k⟩
/-- a cell is written -/
theorem Grow.put {i : Nat} {a : Addr} {o u : HO} (h : ι.c[i]? = some a) (ha : H a = some u) (mu : Mut (some u)) : Grow ι H ι (upd H a o) :=
  ⟨fun _ _ h => h, fun b w n e => by
    refine kp_set (fun z => ?_) e
    subst z
    rcases n with n | n
    · exact n (List.mem_of_getElem? h)
    · rw [ha] at e; cases e; exact n mu, fun _ m => .inl m, rfl⟩
theorem RelH.put {st : Store} (r : RelH W ι H st) {i : Nat} {a : Addr} {o : HO} {c : D} (h : ι.c[i]? = some a) (k : CellOk W ι (upd H a o) a c) : RelH W ι (upd H a o) (st.set i c) := by
  obtain ⟨u, hu, mu⟩ := r.mem (List.mem_of_getElem? h)
  refine ⟨by simp [r.len], r.nd, r.dis, fun b m => ?_, fun j d e => ?_⟩
  · obtain ⟨u, e⟩ := r.hidd b m
    exact ⟨u, kp_set (fun z => r.dis a (List.mem_of_getElem? h) (z ▸ m)) e⟩
  by_cases hj : i = j
  · subst hj
    have hi : i < st.length := by rw [← r.len]; exact (List.getElem?_eq_some_iff.mp h).1
    rw [List.getElem?_set_self hi] at e
    cases e
    exact ⟨a, h, k⟩
  · rw [List.getElem?_set_ne hj] at e
    obtain ⟨b, h1, h2⟩ := r.cell j d e
    refine ⟨b, h1, h2.move (Grow.put h hu mu).gro fun w q => kp_set (fun z => hj ?_) q⟩
    subst z
    have h3 := List.getElem?_eq_some_iff.mp h
    have h4 := List.getElem?_eq_some_iff.mp h1
    obtain ⟨l3, e3⟩ := h3
    obtain ⟨l4, e4⟩ := h4
    exact (List.getElem_inj r.nd).mp (e3.trans e4.symm)
/-- a list under way: laid, written, told -/
theorem Gro.hide {p : Addr} {o : HO} (h : H p = none) : Gro ι H (ι.hide p) (upd H p o) :=
  ⟨fun _ _ h => h, fun a u _ e => kp_new h e, fun a u n e m => by
    rcases m with m | m
    · exact n (.inl m)
    · rcases List.mem_cons.mp m with z | z
      · exact ne_of_none e h z
      · exact n (.inr z)⟩
theorem RelH.hide {st : Store} (r : RelH W ι H st) {p : Addr} {o : HO} (h : H p = none) : RelH W (ι.hide p) (upd H p o) st :=
  ⟨r.len, r.nd, fun a m q => by
    rcases List.mem_cons.mp q with z | z
    · exact r.notin h (z ▸ m)
    · exact r.dis a m z, fun a m => by
    rcases List.mem_cons.mp m with z | z
    · exact ⟨_, by rw [z]; exact upd_same⟩
    · obtain ⟨u, e⟩ := r.hidd a z
      exact ⟨u, kp_new h e⟩, fun i c e => by
    obtain ⟨a, h1, h2⟩ := r.cell i c e
    exact ⟨a, h1, h2.move (Gro.hide h) fun u q => kp_new h q⟩⟩
theorem Gro.over {p : Addr} {o u : HO} (h : p ∈ ι.k) (hp : H p = some u) (mu : Mut (some u)) : Gro ι H ι (upd H p o) :=
  ⟨fun _ _ h => h, fun a w n e => kp_set (fun z => by
    subst z
    rcases n with n | n
    · exact n (.inr h)
    · rw [hp] at e; cases e; exact n mu) e, fun a w n _ => n⟩
theorem RelH.over {st : Store} (r : RelH W ι H st) {p : Addr} {o u : HO} (h : p ∈ ι.k) (hp : H p = some u) (mu : Mut (some u)) : RelH W ι (upd H p o) st :=
  ⟨r.len, r.nd, r.dis, fun a m => by
    by_cases z : a = p
    · exact ⟨o, by rw [z]; exact upd_same⟩
    · obtain ⟨w, e⟩ := r.hidd a m
      exact ⟨w, kp_set z e⟩, fun i c e => by
    obtain ⟨a, h1, h2⟩ := r.cell i c e
    refine ⟨a, h1, h2.move (Gro.over h hp mu) fun w q => kp_set (fun z => ?_) q⟩
    exact r.dis a (List.mem_of_getElem? h1) (z ▸ h)⟩
theorem Gro.show {p : Addr} : Gro (ι.hide p) H ι H :=
  ⟨fun _ _ h => h, fun _ _ _ h => h, fun a u n _ m => n (by
    rcases m with m | m
    · exact .inl m
    · exact .inr (List.mem_cons_of_mem _ m))⟩
theorem RelH.show {st : Store} {p : Addr} (r : RelH W (ι.hide p) H st) : RelH W ι H st :=
  ⟨r.len, r.nd, fun a m q => r.dis a m (List.mem_cons_of_mem _ q), fun a m => r.hidd a (List.mem_cons_of_mem _ m), fun i c e => by
    obtain ⟨a, h1, h2⟩ := r.cell i c e
    exact ⟨a, h1, h2.move Gro.show fun u q => q⟩⟩
theorem REnv.gro {env : Env} {σ : L2.St} (r : REnv W ι H env σ) (g : Gro ι H ι' H') : REnv W ι' H' env σ :=
  ⟨r.len, fun i d e => by
    obtain ⟨v, h1, h2⟩ := r.get i d e
    exact ⟨v, h1, Rep.gro g d v h2⟩⟩
theorem REnv.grow {env : Env} {σ : L2.St} (r : REnv W ι H env σ) (g : Grow ι H ι' H') : REnv W ι' H' env σ :=
  ⟨r.len, fun i d e => by
    obtain ⟨v, h1, h2⟩ := r.get i d e
    exact ⟨v, h1, Rep.grow g d v h2⟩⟩
theorem REnv.set {env : Env} {σ : L2.St} (r : REnv W ι H env σ) (i : Nat) {d : D} {v : V} (h : Rep W ι H d v) : REnv W ι H (env.set i (some d)) (σ.set i (some v)) := by
  refine ⟨by simp [r.len], fun j e q => ?_⟩
  by_cases hj : i = j
  · subst hj
    by_cases hi : i < env.length
    · rw [List.getElem?_set_self hi] at q
      cases q
      exact ⟨v, by rw [List.getElem?_set_self (by rw [← r.len]; exact hi)], h⟩
    · rw [List.getElem?_eq_none (by simpa using hi)] at q
      cases q
  · rw [List.getElem?_set_ne hj] at q
    obtain ⟨u, h1, h2⟩ := r.get j e q
    exact ⟨u, by rw [List.getElem?_set_ne hj]; exact h1, h2⟩
theorem REnv.unset {env : Env} {σ : L2.St} (r : REnv W ι H env σ) (i : Nat) : REnv W ι H (env.set i none) (σ.set i none) := by
  refine ⟨by simp [r.len], fun j e q => ?_⟩
  by_cases hj : i = j
  · subst hj
    by_cases hi : i < env.length
    · rw [List.getElem?_set_self hi] at q
      cases q
    · rw [List.getElem?_eq_none (by simpa using hi)] at q
      cases q
  · rw [List.getElem?_set_ne hj] at q
    obtain ⟨u, h1, h2⟩ := r.get j e q
    exact ⟨u, by rw [List.getElem?_set_ne hj]; exact h1, h2⟩
def wipeE (env : Env) : List Nat → Env
  | [] => env
  | v :: vs => (wipeE env vs).set v none
theorem REnv.wipe {env : Env} {σ : L2.St} (r : REnv W ι H env σ) : ∀ vs : List Nat, REnv W ι H (wipeE env vs) (L2.wipe σ vs)
  | [] => r
  | v :: vs => (REnv.wipe r vs).unset v

/-! ### what is wanted behind a piece -/
def OkE (W : Wd) (ι : Lay) (H : Hp) (d : D) (st' : Store) (Q : VK) : Prop := ∀ v ι' H', Grow ι H ι' H' → RelH W ι' H' st' → Rep W ι' H' d v → Q v H'
def OkB (W : Wd) (ι : Lay) (H : Hp) (b : Bool) (st' : Store) (Q : Bool → Hp → Prop) : Prop := ∀ ι' H', Grow ι H ι' H' → RelH W ι' H' st' → Q b H'
def OkA (W : Wd) (ι : Lay) (H : Hp) (ds : List D) (st' : Store) (Q : List V → Hp → Prop) : Prop := ∀ vs ι' H', Grow ι H ι' H' → RelH W ι' H' st' → Reps W ι' H' ds vs → Q vs H'
def OkN (W : Wd) (ι : Lay) (H : Hp) (env : Env) (st' : Store) (Q : L2.St → Hp → Prop) : Prop := ∀ σ' ι' H', Grow ι H ι' H' → RelH W ι' H' st' → REnv W ι' H' env σ' → Q σ' H'
def OkS (W : Wd) (ι : Lay) (H : Hp) (o : Out) (st' : Store) (D : Ends) : Prop :=
  match o with
  | .nx e => OkN W ι H e st' D.nx
  | .rt d => OkE W ι H d st' D.rt
  | .bk e => OkN W ι H e st' D.bk
  | .ct e => OkN W ι H e st' D.ct
theorem OkE.go {d : D} {st : Store} {Q : VK} (k : OkE W ι H d st Q) (g : Grow ι H ι' H') : OkE W ι' H' d st Q := fun v ι2 H2 g2 => k v ι2 H2 (g.trans g2)
theorem OkB.go {d : Bool} {st : Store} {Q : Bool → Hp → Prop} (k : OkB W ι H d st Q) (g : Grow ι H ι' H') : OkB W ι' H' d st Q := fun ι2 H2 g2 => k ι2 H2 (g.trans g2)
theorem OkA.go {d : List D} {st : Store} {Q : List V → Hp → Prop} (k : OkA W ι H d st Q) (g : Grow ι H ι' H') : OkA W ι' H' d st Q := fun v ι2 H2 g2 => k v ι2 H2 (g.trans g2)
theorem OkN.go {d : Env} {st : Store} {Q : L2.St → Hp → Prop} (k : OkN W ι H d st Q) (g : Grow ι H ι' H') : OkN W ι' H' d st Q := fun v ι2 H2 g2 => k v ι2 H2 (g.trans g2)
theorem OkS.go {o : Out} {st : Store} {D : Ends} (k : OkS W ι H o st D) (g : Grow ι H ι' H') : OkS W ι' H' o st D := by
  cases o with
  | nx e => exact OkN.go (d := e) k g
  | rt d => exact OkE.go (d := d) k g
  | bk e => exact OkN.go (d := e) k g
  | ct e => exact OkN.go (d := e) k g
theorem OkE.now {d : D} {st : Store} {Q : VK} {v : V} (k : OkE W ι H d st Q) (r : RelH W ι H st) (h : Rep W ι H d v) : Q v H := k v ι H Grow.refl r h
theorem OkE.tup {ds : List D} {vs : List V} {st : Store} {Q : VK} {p : Addr} (k : OkE W ι H (.tup ds) st Q) (r : RelH W ι H st) (h : Reps W ι H ds vs) (hp : H p = none) : Q (.ref p) (upd H p (.tup vs)) :=
  k _ ι _ (Grow.laid hp) (r.laid hp) (by simp only [Rep]; exact ⟨p, rfl, vs, upd_same, Reps.grow (Grow.laid hp) _ _ h⟩)
theorem OkE.tpf {ds : List D} {vs : List V} {st : Store} {Q : VK} {p : Addr} {o : Obj} (k : OkE W ι H (.tpf ds) st Q) (r : RelH W ι H st) (h : Reps W ι H ds vs) (hp : H p = none) (ho : o.cls = .type "tuple" ∧ o.dict = none) : Q (.ref p) (upd H p (.frz o (.tup vs))) :=
  k _ ι _ (Grow.laid hp) (r.laid hp) (by simp only [Rep]; exact ⟨p, rfl, o, vs, ho, upd_same, Reps.grow (Grow.laid hp) _ _ h⟩)
theorem OkE.lst {ds : List D} {vs : List V} {st : Store} {Q : VK} {p : Addr} (k : OkE W ι H (.lst ds) st Q) (r : RelH W ι H st) (h : Reps W ι H ds vs) (hp : H p = none) : Q (.ref p) (upd H p (.lst vs)) :=
  k _ ι _ (Grow.laid hp) (r.laid hp) (by simp only [Rep]; exact ⟨p, rfl, r.free hp, vs, upd_same, Reps.grow (Grow.laid hp) _ _ h⟩)
theorem OkE.lstM {ds : List D} {vs : List V} {st : Store} {Q : VK} {p : Addr} (k : OkE W ι H (.ref st.length) (st ++ [.lst ds]) Q) (r : RelH W ι H st) (h : Reps W ι H ds vs) (hp : H p = none) : Q (.ref p) (upd H p (.lst vs)) :=
  k _ (ι.add p) _ (Grow.cell hp) (r.new hp ⟨vs, upd_same, Reps.grow (Grow.cell hp) _ _ h⟩) (by simp only [Rep]; exact ⟨p, rfl, by rw [← r.len]; show (ι.c ++ [p])[_]? = _; simp⟩)
end

/-! ### the readings that belong to the mirrors -/
def T (W : Wd) (m : EM) : TE := fun σ H Q => ∃ ι st env d st', RelH W ι H st ∧ REnv W ι H env σ ∧ m env st = some (d, st') ∧ OkE W ι H d st' Q
def TB (W : Wd) (m : TM) : TT := fun σ H Q => ∃ ι st env d st', RelH W ι H st ∧ REnv W ι H env σ ∧ m env st = some (d, st') ∧ OkB W ι H d st' Q
def TAs (W : Wd) (m : AM) : TA := fun σ H Q => ∃ ι st env d st', RelH W ι H st ∧ REnv W ι H env σ ∧ m env st = some (d, st') ∧ OkA W ι H d st' Q
def TSt (W : Wd) (m : SM) : TS := fun D σ H => ∃ ι st env o st', RelH W ι H st ∧ REnv W ι H env σ ∧ m env st = some (o, st') ∧ OkS W ι H o st' D
section
variable {X : Cx} {e : Expr} {es : List Expr} {st : Stmt} {ss : List Stmt}
theorem _root_.L2.PE.imp {t t' : TE} (h : PE X e t) (k : ∀ σ H Q, t' σ H Q → t σ H Q) : PE X e t' := ⟨fun p s σ H Q I q => h.run p s σ H Q I (k _ _ _ q)⟩
theorem _root_.L2.PT.imp {t t' : TT} (h : PT X e t) (k : ∀ σ H Q, t' σ H Q → t σ H Q) : PT X e t' := ⟨fun p s σ H Q I q => h.run p s σ H Q I (k _ _ _ q)⟩
theorem _root_.L2.PW.imp {t t' : TT} (h : PW X e t) (k : ∀ σ H Q, t' σ H Q → t σ H Q) : PW X e t' := ⟨fun w p s σ H Q I q => h.run w p s σ H Q I (k _ _ _ q)⟩
theorem _root_.L2.PA.imp {t t' : TA} (h : PA X es t) (k : ∀ σ H Q, t' σ H Q → t σ H Q) : PA X es t' := ⟨fun w p s σ H Q I q => h.run w p s σ H Q I (k _ _ _ q)⟩
theorem _root_.L2.PS.imp {t t' : TS} (h : PS X st t) (k : ∀ D σ H, t' D σ H → t D σ H) : PS X st t' := ⟨fun p s σ H D I q => h.run p s σ H D I (k _ _ _ q)⟩
theorem _root_.L2.PSs.imp {t t' : TS} (h : PSs X ss t) (k : ∀ D σ H, t' D σ H → t D σ H) : PSs X ss t' := ⟨fun p s σ H D I q => h.run p s σ H D I (k _ _ _ q)⟩
theorem _root_.L2.PI.imp {tg iter : Expr} {t t' : TI} (h : PI X tg iter t) (k : ∀ σ H R, t' σ H R → t σ H R) : PI X tg iter t' := ⟨fun p s σ H R I q => h.run p s σ H R I (k _ _ _ q)⟩
theorem _root_.L2.PG.imp {tg : Expr} {t t' : TG} (h : PG X tg t) (k : ∀ v σ H Q, t' v σ H Q → t v σ H Q) : PG X tg t' := by
  obtain ⟨r⟩ := h
  constructor
  intros
  first | (apply r <;> first | assumption | exact k _ _ _ _ ‹_›)
end
end My

namespace My
open PySem L2

/-! ### the layer's rules with the written part named: within a comprehension's block it is not X's own field -/
section
variable {X : Cx} {K : PySem.W.Frag}
theorem ix_listK (h : X.K = K) : IxR X (rIxL K) := h ▸ ix_list
theorem ix_tupK (h : X.K = K) : IxR X (rIxT K) := h ▸ ix_tup
theorem ix_seqK (h : X.K = K) : IxR X (rIx K) := h ▸ ix_seq
theorem sl_tupK (h : X.K = K) : SlR X (rSlT K) := h ▸ sl_tup
theorem sl_listK (h : X.K = K) : SlR X (rSlL K) := h ▸ sl_list
theorem op_inK (h : X.K = K) : OpR X (compareOp .In) (rIn K false) := h ▸ op_in_seq
theorem op_notInK (h : X.K = K) : OpR X (compareOp .NotIn) (rIn K true) := h ▸ op_notIn_seq
theorem op_eqDK (h : X.K = K) (hu : X.A.units + 64 < cLine) : OpR X (compareOp .Eq) (rEqD K) := h ▸ op_eqD hu
theorem op_neDK (h : X.K = K) (hu : X.A.units + 64 < cLine) : OpR X (compareOp .NotEq) (rNeD K) := h ▸ op_neD hu
theorem op_catTK (h : X.K = K) : OpR X (binaryOp .Add) (rCatT K) := h ▸ op_catT
def rLen (K : PySem.W.Frag) : List V → Hp → VK → Prop := fun xs H Q => ∃ p ys, xs = [.ref p] ∧ (SqL K H p ys ∨ SqT K H p ys) ∧ Q (.int ys.length) H
theorem call_lenK (h : X.K = K) : CallR X (.builtin "len") (rLen K) := h ▸ call_len_seq
theorem cr_sumK (h : X.K = K) (hc : X.calm = true) : CallR X (.builtin "sum") (rSum K) := h ▸ cr_sum hc
theorem cr_allK (h : X.K = K) (hc : X.calm = true) : CallR X (.builtin "all") (rAll K) := h ▸ cr_all hc
theorem cr_anyK (h : X.K = K) (hc : X.calm = true) : CallR X (.builtin "any") (rAny K) := h ▸ cr_any hc
theorem cr_maxK (h : X.K = K) (hc : X.calm = true) : CallR X (.builtin "max") (rMax K) := h ▸ cr_max hc
theorem cr_minK (h : X.K = K) (hc : X.calm = true) : CallR X (.builtin "min") (rMin K) := h ▸ cr_min hc
theorem call_isiK (h : X.K = K) : CallR X (.builtin "isinstance") (rIsi K) := h ▸ call_isi
def rTupleOf (K : PySem.W.Frag) : List V → Hp → VK → Prop := fun xs H Q => ∃ p ys, xs = [.ref p] ∧ ((SqL K H p ys ∧ ∀ l, H l = none → Q (.ref l) (upd H l (.tup ys))) ∨ (SqT K H p ys ∧ Q (.ref p) H))
theorem call_tupleK (h : X.K = K) : CallR X (.type "tuple") (rTupleOf K) := h ▸ call_tuple_of
def rListOf (K : PySem.W.Frag) : List V → Hp → VK → Prop := fun xs H Q => ∃ p ys, xs = [.ref p] ∧ (SqL K H p ys ∨ SqT K H p ys) ∧ ∀ l, H l = none → Q (.ref l) (upd H l (.lst ys))
theorem call_listK (h : X.K = K) : CallR X (.type "list") (rListOf K) := h ▸ call_list_of
theorem pe_fldK {e : Expr} {ta : TE} {f : Str} {pos : Pos} (h : X.K = K) (he : PE X e ta) (hb : attributeBase e f X.env (eval e X.env) = eval e X.env) : PE X (.Attribute e f pos) (tFld K ta f) := h ▸ pe_fld he hb
theorem pi_listK {tg l : Expr} {tl : TE} (h : X.K = K) (hl : PE X l tl) : PI X tg l (iList K tl) := h ▸ pi_list hl
theorem pi_tupK {tg l : Expr} {tl : TE} (h : X.K = K) (hl : PE X l tl) : PI X tg l (iTup K tl) := h ▸ pi_tup hl
def rRepr (K : PySem.W.Frag) : List V → Hp → VK → Prop := fun xs H Q => ∃ (x : V) (d : PyData), xs = [x] ∧ Dp K H x d ∧ Tx 16777216 60 d ∧ Q (.str d.shown) H
theorem call_reprK {k : Nat} (h : X.K = K) (hg : X.A.guards = some []) (hr : Room k X.A) : CallR X (.builtin "repr") (rRepr K) := h ▸ call_repr hg hr

/-- sum of a tuple of ints -/
def rSumT (K : PySem.W.Frag) : List V → Hp → VK → Prop := fun vs H Q => ∃ (a : Addr) (ns : List Int), vs = [V.ref a] ∧ SqT K H a (ns.map V.int) ∧ Q (.int ns.sum) H
theorem cr_sumT (hc : X.calm = true) : CallR X (.builtin "sum") (rSumT X.K) := by
  intro pins s σ H xs us Q I r q
  obtain ⟨a, ns, rfl, hq, q⟩ := q
  have eu := Vals.ref1 r
  subst eu
  obtain ⟨its, rv, it, _⟩ := I.tuple hq
  have hi := rv.ints
  obtain ⟨ys, ey⟩ := hi.allInts.items
  have it2 : s.heap.IsTuple a its.toArray := by
    obtain ⟨o, h1, h2, n, h3⟩ := it
    exact ⟨o, h1, h2, n, h3⟩
  have en : PySem.numsOf its.toArray.toList = ns := hi.numsOf
  rw [ey] at it2 en
  rw [PySem.nums_intItems] at en
  refine PySem.W.ktm_sumG (I.ok.hd hc) it2 fun h' tk t' hk => ?_
  rw [PySem.preSum_eq, List.take_of_length_le (by simp), en]
  exact ⟨.int _, H, I.kept hk, ⟨_, rfl⟩, q⟩
theorem cr_sumTK {K : PySem.W.Frag} (h : X.K = K) (hc : X.calm = true) : CallR X (.builtin "sum") (rSumT K) := h ▸ cr_sumT hc
end
end My

namespace My
open PySem PySem.Spec PyProof.Rows L2

/-! ### tuple * int, any small int -/
theorem mul_self (l : Addr) (its : Array Value) (n : Nat) (dd : Option Addr) (sl : Array (Option Value)) (u : Tok) :
    Meets (Builtin.«tuple.__mul__» ⟨[.ref l, .int 1 u], []⟩) (fun _ R s => s.heap.get? l = some { cls := .type "tuple", dict := dd, data := .seq its n, slots := sl } ∧ R (.ok (.ret (Value.ref l))) s) :=
  .of_wp fun prog w A R s h => by
    obtain ⟨hp, g, d, tk, os⟩ := s
    obtain ⟨hl, h⟩ := h
    have f1 := AutoSeq1.idx_int
    wp_walk using wpAny_loadPart' hl
    repeat (first
      | (refine wpAny_ite_false (by decide) ?_; wp_walk using wpAny_loadPart' hl)
      | (refine wpAny_ite_true (by simp) ?_; wp_walk using wpAny_loadPart' hl))
    exact ⟨_, rfl, h⟩
theorem mul_none (l : Addr) (its : Array Value) (n : Nat) (dd : Option Addr) (sl : Array (Option Value)) (x : Int) (u : Tok) (h0 : x ≤ 0) (h1 : -(2 ^ 63) ≤ x) (hne : its.isEmpty = false) :
    Meets (Builtin.«tuple.__mul__» ⟨[.ref l, .int x u], []⟩) (fun _ R s => s.heap.get? l = some { cls := .type "tuple", dict := dd, data := .seq its n, slots := sl } ∧
      R (.ok (.ret (Value.ref s.heap.objs.size))) { s with heap := s.heap.push { cls := Value.type "tuple", data := Data.seq #[] }, toks := s.toks }) :=
  .of_wp fun prog w A R s h => by
    obtain ⟨hp, g, d, tk, os⟩ := s
    obtain ⟨hl, h⟩ := h
    have f1 := AutoSeq1.idx_int
    have c0 : (decide (x < -(2 ^ 63)) || decide (x ≥ 2 ^ 63)) = false := by
      rw [decide_eq_false (by omega), decide_eq_false (by omega)] <;> rfl
    have c1 : (its.isEmpty || x == 1) = false := by
      rw [hne, Bool.false_or]
      exact beq_eq_false_iff_ne.mpr (by omega)
    have c2 : (decide (x ≤ 0) || its.isEmpty) = true := by rw [decide_eq_true h0]; rfl
    wp_walk using wpAny_loadPart' hl
    repeat (first
      | (refine wpAny_ite_false (decide_eq_false (by rw [c0]; decide)) ?_; wp_walk using wpAny_loadPart' hl)
      | (refine wpAny_ite_false (decide_eq_false (by rw [c1]; decide)) ?_; wp_walk using wpAny_loadPart' hl)
      | (refine wpAny_ite_true (decide_eq_true c2) ?_; wp_walk using wpAny_loadPart' hl))
    exact ⟨_, rfl, h⟩

/-- t * k for any k up to a thousand: a tuple with the items so many times (itself, if once) -/
def rRepA : R2 := fun x y H Q => ∃ a k xs, x = .ref a ∧ y = .int k ∧ H a = some (.tup xs) ∧ xs ≠ [] ∧ -(2 ^ 63) ≤ k ∧ k ≤ 1000 ∧ xs.length ≤ 1000 ∧
  ∀ p H', Same H H' → H' p = some (.tup (List.replicate k.toNat xs).flatten) → Q (.ref p) H'
theorem op_repA {X : Cx} : OpR X (binaryOp .Mult) rRepA := by
  intro pins s σ H x y v u Q I rx ry h
  obtain ⟨a, k, xs, rfl, rfl, ht, ne, k0, k1, lx, q⟩ := h
  by_cases h2 : 2 ≤ k
  · exact op_repT pins s σ H _ _ v u Q I rx ry ⟨a, k, xs, rfl, rfl, SqT.of ht, ne, h2, k1, lx, fun p hp => q p _ (same_new hp) upd_same⟩
  cases rx
  obtain ⟨tk, rfl⟩ := ry
  obtain ⟨zs, rz, ⟨⟨c1, c2, c3, c4⟩, g, e1, m, e2⟩, g2⟩ := I.tuple (SqT.of ht)
  simp only at e1 e2
  subst e1 e2
  have zl : zs.length = xs.length := rz.length.symm
  have zn : zs ≠ [] := fun e => by
    rw [e] at zl
    exact ne (List.length_eq_zero_iff.mp zl.symm)
  have ze : zs.toArray.isEmpty = false := by
    cases zs with
    | nil => exact absurd rfl zn
    | cons z r => rfl
  by_cases h1 : k = 1
  · subst h1
    refine wpAny_binaryOp_repeat_ref (T := "tuple") (U := "int") (by decide) ⟨_, g, rfl⟩ (fun z => typeIs_int z 1 tk) noFill_tuple_mul F.fills_int_mul F.slot_int_rmul repeat_tuple F.slot_int_index.lookup ?_
    refine call_meets F.slot_int_rmul (typeIs_int s 1 tk) F.entry_int_rmul (F.args_int_rmul_2 _ _) (int_rmul_tuple 1 tk a zs.toArray m c2 c4) ⟨g, rfl, ⟨_, g, rfl⟩, ?_⟩
    refine call_meets F.slot_tuple_mul ⟨_, g, rfl⟩ F.entry_tuple_mul (F.args_tuple_mul_2 _ _) (mul_self a zs.toArray m c2 c4 tk) ⟨g, ?_⟩
    exact ⟨.ref a, H, I, rfl, q a H (Same.refl H) (by simpa using ht)⟩
  · have hk0 : k ≤ 0 := by omega
    refine wpAny_binaryOp_repeat_ref (T := "tuple") (U := "int") (by decide) ⟨_, g, rfl⟩ (fun z => typeIs_int z k tk) noFill_tuple_mul F.fills_int_mul F.slot_int_rmul repeat_tuple F.slot_int_index.lookup ?_
    refine call_meets F.slot_int_rmul (typeIs_int s k tk) F.entry_int_rmul (F.args_int_rmul_2 _ _) (int_rmul_tuple k tk a zs.toArray m c2 c4) ⟨g, rfl, ⟨_, g, rfl⟩, ?_⟩
    refine call_meets F.slot_tuple_mul ⟨_, g, rfl⟩ F.entry_tuple_mul (F.args_tuple_mul_2 _ _) (mul_none a zs.toArray m c2 c4 k tk hk0 k0 ze) ⟨g, ?_⟩
    have kz : k.toNat = 0 := by omega
    rw [kz] at q
    exact ⟨.ref s.heap.objs.size, _, I.laid (t' := s.toks) (o := .tup []) (fun _ _ e => Heap.get?_push_of_some _ e) (Nat.le_refl _) ⟨Nat.zero_le _, [], .nil, IsTup.new _ _⟩, rfl, q _ _ (same_new (I.hok.fresh (Nat.le_refl _))) upd_same⟩
end My

namespace My
open PySem PySem.Spec PyProof.Rows L2

/-! ### what a value shows -/
def seqL (st : Store) : D → Option (List D)
  | .lst xs => some xs
  | .ref i => match st[i]? with
    | some (.lst xs) => some xs
    | _ => none
  | _ => none
def seqT : D → Option (List D)
  | .tup xs => some xs
  | _ => none
def seqA (st : Store) : D → Option (List D)
  | .tup xs => some xs
  | .tpf xs => some xs
  | .scr ns => some (ns.map .int)
  | d => seqL st d
def dicK (st : Store) : D → Option (List Key × List D)
  | .dk ks vs => some (ks, vs)
  | .ref i => match st[i]? with
    | some (.dk ks vs) => some (ks, vs)
    | _ => none
  | _ => none
def dicT (st : Store) : D → Option (List (List Key) × List D)
  | .dt ks vs => some (ks, vs)
  | .ref i => match st[i]? with
    | some (.dt ks vs) => some (ks, vs)
    | _ => none
  | _ => none
def insA (st : Store) : D → Option (Str × List Str × List D)
  | .ins n fs vs => some (n, fs, vs)
  | .ref i => match st[i]? with
    | some (.ins n fs vs) => some (n, fs, vs)
    | _ => none
  | _ => none
section
variable {W : Wd} {ι : Lay} {H : Hp} {st : Store} {d : D} {v : V}
theorem rep_ref {i : Nat} (r : RelH W ι H st) (h : Rep W ι H (.ref i) v) : ∃ a c, v = .ref a ∧ ι.c[i]? = some a ∧ st[i]? = some c ∧ CellOk W ι H a c := by
  simp only [Rep] at h
  obtain ⟨a, e, h⟩ := h
  obtain ⟨c, h1, h2⟩ := r.at h
  exact ⟨a, c, e, h, h1, h2⟩
theorem seqL_ok {xs : List D} (r : RelH W ι H st) (h : Rep W ι H d v) (e : seqL st d = some xs) : ∃ a vs, v = .ref a ∧ H a = some (.lst vs) ∧ Reps W ι H xs vs := by
  unfold seqL at e
  split at e
  · cases e
    simp only [Rep] at h
    obtain ⟨a, e, _, vs, h1, h2⟩ := h
    exact ⟨a, vs, e, h1, h2⟩
  · obtain ⟨a, c, e1, _, h1, h2⟩ := rep_ref r h
    rw [h1] at e
    split at e
    · rename_i q
      cases e
      cases q
      obtain ⟨vs, h3, h4⟩ := h2
      exact ⟨a, vs, e1, h3, h4⟩
    · cases e
  · cases e
theorem seqT_ok {xs : List D} (h : Rep W ι H d v) (e : seqT d = some xs) : ∃ a vs, v = .ref a ∧ H a = some (.tup vs) ∧ Reps W ι H xs vs := by
  unfold seqT at e
  split at e
  · cases e
    simp only [Rep] at h
    obtain ⟨a, e, vs, h1, h2⟩ := h
    exact ⟨a, vs, e, h1, h2⟩
  · cases e
theorem seqA_ok {xs : List D} (r : RelH W ι H st) (h : Rep W ι H d v) (e : seqA st d = some xs) : ∃ a vs, v = .ref a ∧ (SqL W.K H a vs ∨ SqT W.K H a vs) ∧ Reps W ι H xs vs := by
  unfold seqA at e
  split at e
  · cases e
    simp only [Rep] at h
    obtain ⟨a, e, vs, h1, h2⟩ := h
    exact ⟨a, vs, e, .inr (SqT.of h1), h2⟩
  · cases e
    simp only [Rep] at h
    obtain ⟨a, e, o, vs, _, h1, h2⟩ := h
    exact ⟨a, vs, e, .inr (.inl (.inr ⟨o, h1⟩)), h2⟩
  · cases e
    simp only [Rep] at h
    obtain ⟨a, e, h1⟩ := h
    exact ⟨a, _, e, .inl h1.sq, Reps.map fun x _ => by simp only [Rep]⟩
  · obtain ⟨a, vs, h1, h2, h3⟩ := seqL_ok r h e
    exact ⟨a, vs, h1, .inl (SqL.of h2), h3⟩
/-- a list as it is read: tracked or not -/
def isTpf : D → Bool
  | .tpf _ => true
  | _ => false
theorem tpf_ok {xs : List D} (h : Rep W ι H (.tpf xs) v) : ∃ a o vs, v = .ref a ∧ (o.cls = .type "tuple" ∧ o.dict = none) ∧ H a = some (.frz o (.tup vs)) ∧ SqT W.K H a vs ∧ Reps W ι H xs vs := by
  simp only [Rep] at h
  obtain ⟨a, e, o, vs, h0, h1, h2⟩ := h
  exact ⟨a, o, vs, e, h0, h1, .inl (.inr ⟨o, h1⟩), h2⟩
theorem seqA_list {xs : List D} (r : RelH W ι H st) (h : Rep W ι H d v) (e : seqA st d = some xs) (n : seqT d = none) (n2 : isTpf d = false) : ∃ a vs, v = .ref a ∧ SqL W.K H a vs ∧ Reps W ι H xs vs := by
  unfold seqA at e
  split at e
  · cases n
  · cases n2
  · cases e
    simp only [Rep] at h
    obtain ⟨a, e, h1⟩ := h
    exact ⟨a, _, e, h1.sq, Reps.map fun x _ => by simp only [Rep]⟩
  · obtain ⟨a, vs, h1, h2, h3⟩ := seqL_ok r h e
    exact ⟨a, vs, h1, SqL.of h2, h3⟩
theorem dicK_ok {ks : List Key} {ds : List D} (r : RelH W ι H st) (h : Rep W ι H d v) (e : dicK st d = some (ks, ds)) : ∃ a vs, v = .ref a ∧ H a = some (.dK (ks.zip vs)) ∧ ks.length = ds.length ∧ Reps W ι H ds vs := by
  unfold dicK at e
  split at e
  · cases e
    simp only [Rep] at h
    obtain ⟨a, e, _, vs, h1, h2⟩ := h
    exact ⟨a, vs, e, h1, h2⟩
  · obtain ⟨a, c, e1, _, h1, h2⟩ := rep_ref r h
    rw [h1] at e
    split at e
    · rename_i q
      cases e
      cases q
      obtain ⟨vs, h3, h4⟩ := h2
      exact ⟨a, vs, e1, h3, h4⟩
    · cases e
  · cases e
theorem dicT_ok {ks : List (List Key)} {ds : List D} (r : RelH W ι H st) (h : Rep W ι H d v) (e : dicT st d = some (ks, ds)) : ∃ a vs, v = .ref a ∧ H a = some (.dT (ks.zip vs)) ∧ ks.length = ds.length ∧ Reps W ι H ds vs := by
  unfold dicT at e
  split at e
  · cases e
    simp only [Rep] at h
    obtain ⟨a, e, _, vs, h1, h2⟩ := h
    exact ⟨a, vs, e, h1, h2⟩
  · obtain ⟨a, c, e1, _, h1, h2⟩ := rep_ref r h
    rw [h1] at e
    split at e
    · rename_i q
      cases e
      cases q
      obtain ⟨vs, h3, h4⟩ := h2
      exact ⟨a, vs, e1, h3, h4⟩
    · cases e
  · cases e
theorem insA_ok {n : Str} {fs : List Str} {ds : List D} (r : RelH W ι H st) (h : Rep W ι H d v) (e : insA st d = some (n, fs, ds)) : ∃ a dx vs, v = .ref a ∧ H a = some (.ins (W.cl n) dx (fs.zip vs)) ∧ fs.length = ds.length ∧ Reps W ι H ds vs := by
  unfold insA at e
  split at e
  · cases e
    simp only [Rep] at h
    obtain ⟨a, e, _, dx, vs, h1, h2⟩ := h
    exact ⟨a, dx, vs, e, h1, h2⟩
  · obtain ⟨a, c, e1, _, h1, h2⟩ := rep_ref r h
    rw [h1] at e
    split at e
    · rename_i q
      cases e
      cases q
      obtain ⟨dx, vs, h3, h4⟩ := h2
      exact ⟨a, dx, vs, e1, h3, h4⟩
    · cases e
  · cases e
end

/-! ### data without cells -/
mutual
def fz (lk : Nat → Option D) : D → Option D
  | .tup ds => (fzs lk ds).map .tup
  | .tpf ds => (fzs lk ds).map .tpf
  | .lst ds => (fzs lk ds).map .lst
  | .dk ks ds => (fzs lk ds).map (.dk ks)
  | .dt ks ds => (fzs lk ds).map (.dt ks)
  | .ins n fs ds => (fzs lk ds).map (.ins n fs)
  | .ref i => lk i
  | d => some d
def fzs (lk : Nat → Option D) : List D → Option (List D)
  | [] => some []
  | d :: ds => match fz lk d with
    | some d' => (fzs lk ds).map (d' :: ·)
    | none => none
end
/-- a cell's number below n stays; the others are told by their content -/
def lkc (st : Store) (n : Nat) : Nat → Nat → Option D
  | 0, i => if i < n then some (.ref i) else none
  | k + 1, i => if i < n then some (.ref i) else match st[i]? with
    | some (.lst ds) => (fzs (lkc st n k) ds).map .lst
    | some (.dk ks ds) => (fzs (lkc st n k) ds).map (.dk ks)
    | some (.dt ks ds) => (fzs (lkc st n k) ds).map (.dt ks)
    | some (.set ns) => some (.set ns)
    | some (.ins m fs ds) => (fzs (lkc st n k) ds).map (.ins m fs)
    | _ => none
/-- as a tree -/
def view (st : Store) (d : D) : Option D := fz (lkc st 0 4) d
section
variable {W : Wd} {ι ι' : Lay} {H : Hp} {st : Store}
mutual
theorem fz_ok {lk : Nat → Option D} (hs : ∀ a, ι'.has a → ι.has a) (hl : ∀ i a d', ι.c[i]? = some a → lk i = some d' → Rep W ι' H d' (.ref a)) : ∀ (d d' : D) (v : V), fz lk d = some d' → Rep W ι H d v → Rep W ι' H d' v
  | .non, _, _, e, h => by simp only [fz] at e; cases e; simpa only [Rep] using h
  | .bl _, _, _, e, h => by simp only [fz] at e; cases e; simpa only [Rep] using h
  | .int _, _, _, e, h => by simp only [fz] at e; cases e; simpa only [Rep] using h
  | .str _, _, _, e, h => by simp only [fz] at e; cases e; simpa only [Rep] using h
  | .ty _, _, _, e, h => by simp only [fz] at e; cases e; simpa only [Rep] using h
  | .cls _, _, _, e, h => by simp only [fz] at e; cases e; simpa only [Rep] using h
  | .scr _, _, _, e, h => by simp only [fz] at e; cases e; simpa only [Rep] using h
  | .set _, _, _, e, h => by
    simp only [fz] at e
    cases e
    simp only [Rep] at h ⊢
    obtain ⟨a, e, n, h1⟩ := h
    exact ⟨a, e, fun m => n (hs a m), h1⟩
  | .ref i, _, _, e, h => by
    simp only [fz] at e
    simp only [Rep] at h
    obtain ⟨a, rfl, h1⟩ := h
    exact hl i a _ h1 e
  | .tup ds, _, _, e, h => by
    simp only [fz, Option.map_eq_some_iff] at e
    obtain ⟨es, e1, rfl⟩ := e
    simp only [Rep] at h ⊢
    obtain ⟨a, e, vs, h1, h2⟩ := h
    exact ⟨a, e, vs, h1, fzs_ok hs hl ds es vs e1 h2⟩
  | .tpf ds, _, _, e, h => by
    simp only [fz, Option.map_eq_some_iff] at e
    obtain ⟨es, e1, rfl⟩ := e
    simp only [Rep] at h ⊢
    obtain ⟨a, e, o, vs, h0, h1, h2⟩ := h
    exact ⟨a, e, o, vs, h0, h1, fzs_ok hs hl ds es vs e1 h2⟩
  | .lst ds, _, _, e, h => by
    simp only [fz, Option.map_eq_some_iff] at e
    obtain ⟨es, e1, rfl⟩ := e
    simp only [Rep] at h ⊢
    obtain ⟨a, e, n, vs, h1, h2⟩ := h
    exact ⟨a, e, fun m => n (hs a m), vs, h1, fzs_ok hs hl ds es vs e1 h2⟩
  | .dk ks ds, _, _, e, h => by
    simp only [fz, Option.map_eq_some_iff] at e
    obtain ⟨es, e1, rfl⟩ := e
    simp only [Rep] at h ⊢
    obtain ⟨a, e, n, vs, h1, l, h2⟩ := h
    have h3 := fzs_ok hs hl ds es vs e1 h2
    exact ⟨a, e, fun m => n (hs a m), vs, h1, by rw [l, h2.length, h3.length], h3⟩
  | .dt ks ds, _, _, e, h => by
    simp only [fz, Option.map_eq_some_iff] at e
    obtain ⟨es, e1, rfl⟩ := e
    simp only [Rep] at h ⊢
    obtain ⟨a, e, n, vs, h1, l, h2⟩ := h
    have h3 := fzs_ok hs hl ds es vs e1 h2
    exact ⟨a, e, fun m => n (hs a m), vs, h1, by rw [l, h2.length, h3.length], h3⟩
  | .ins m fs ds, _, _, e, h => by
    simp only [fz, Option.map_eq_some_iff] at e
    obtain ⟨es, e1, rfl⟩ := e
    simp only [Rep] at h ⊢
    obtain ⟨a, e, n, dx, vs, h1, l, h2⟩ := h
    have h3 := fzs_ok hs hl ds es vs e1 h2
    exact ⟨a, e, fun m => n (hs a m), dx, vs, h1, by rw [l, h2.length, h3.length], h3⟩
theorem fzs_ok {lk : Nat → Option D} (hs : ∀ a, ι'.has a → ι.has a) (hl : ∀ i a d', ι.c[i]? = some a → lk i = some d' → Rep W ι' H d' (.ref a)) : ∀ (ds es : List D) (vs : List V), fzs lk ds = some es → Reps W ι H ds vs → Reps W ι' H es vs
  | [], _, _, e, h => by simp only [fzs] at e; cases e; rw [h.nil_of]; exact Reps.nil
  | d :: ds, _, _, e, h => by
    obtain ⟨v, r, rfl, h1, h2⟩ := h.uncons
    simp only [fzs] at e
    split at e
    · rename_i d' q
      rw [Option.map_eq_some_iff] at e
      obtain ⟨es, e1, rfl⟩ := e
      exact Reps.cons (fz_ok hs hl d d' v q h1) (fzs_ok hs hl ds es r e1 h2)
    · cases e
end
theorem take_get {ι : List Addr} (n : Nat) {i : Nat} (h : i < n) : (ι.take n)[i]? = ι[i]? := by rw [List.getElem?_take, if_pos h]
theorem nodup_take_notin {ι : List Addr} (nd : ι.Nodup) {n i : Nat} {a : Addr} (h : ι[i]? = some a) (hi : ¬ i < n) : a ∉ ι.take n := fun m => by
  obtain ⟨j, hj, e⟩ := List.mem_iff_getElem.mp m
  rw [List.getElem_take] at e
  obtain ⟨l, e2⟩ := List.getElem?_eq_some_iff.mp h
  have := (List.getElem_inj nd).mp (e.trans e2.symm)
  rw [List.length_take] at hj
  omega
theorem lkc_ok (r : RelH W ι H st) (n : Nat) : ∀ (k i : Nat) (a : Addr) (d' : D), ι.c[i]? = some a → lkc st n k i = some d' → Rep W (ι.cut n) H d' (.ref a)
  | 0, i, a, d', h, e => by
    unfold lkc at e
    split at e
    · rename_i hi
      cases e
      simp only [Rep]
      exact ⟨a, rfl, by show (ι.c.take n)[i]? = _; rw [take_get n hi]; exact h⟩
    · cases e
  | k + 1, i, a, d', h, e => by
    unfold lkc at e
    split at e
    · rename_i hi
      cases e
      simp only [Rep]
      exact ⟨a, rfl, by show (ι.c.take n)[i]? = _; rw [take_get n hi]; exact h⟩
    · rename_i hi
      have na : ¬ (ι.cut n).has a := fun m => m.elim (nodup_take_notin r.nd h hi) (r.dis a (List.mem_of_getElem? h))
      obtain ⟨c, hc, ok⟩ := r.at h
      have hs : ∀ a, (ι.cut n).has a → ι.has a := fun a m => m.imp List.mem_of_mem_take id
      have ih := fun i a d' => lkc_ok r n k i a d'
      split at e
      · rename_i ds q
        rw [hc] at q
        cases q
        rw [Option.map_eq_some_iff] at e
        obtain ⟨es, e1, rfl⟩ := e
        obtain ⟨vs, h1, h2⟩ := ok
        simp only [Rep]
        exact ⟨a, rfl, na, vs, h1, fzs_ok hs ih _ _ _ e1 h2⟩
      · rename_i ks ds q
        rw [hc] at q
        cases q
        rw [Option.map_eq_some_iff] at e
        obtain ⟨es, e1, rfl⟩ := e
        obtain ⟨vs, h1, l, h2⟩ := ok
        have h3 := fzs_ok hs ih _ _ _ e1 h2
        simp only [Rep]
        exact ⟨a, rfl, na, vs, h1, by rw [l, h2.length, h3.length], h3⟩
      · rename_i ks ds q
        rw [hc] at q
        cases q
        rw [Option.map_eq_some_iff] at e
        obtain ⟨es, e1, rfl⟩ := e
        obtain ⟨vs, h1, l, h2⟩ := ok
        have h3 := fzs_ok hs ih _ _ _ e1 h2
        simp only [Rep]
        exact ⟨a, rfl, na, vs, h1, by rw [l, h2.length, h3.length], h3⟩
      · rename_i ns q
        rw [hc] at q
        cases q
        cases e
        simp only [Rep]
        exact ⟨a, rfl, na, ok⟩
      · rename_i m fs ds q
        rw [hc] at q
        cases q
        rw [Option.map_eq_some_iff] at e
        obtain ⟨es, e1, rfl⟩ := e
        obtain ⟨dx, vs, h1, l, h2⟩ := ok
        have h3 := fzs_ok hs ih _ _ _ e1 h2
        simp only [Rep]
        exact ⟨a, rfl, na, dx, vs, h1, by rw [l, h2.length, h3.length], h3⟩
      · cases e
theorem fzn_ok (r : RelH W ι H st) (n k : Nat) {d d' : D} {v : V} (e : fz (lkc st n k) d = some d') (h : Rep W ι H d v) : Rep W (ι.cut n) H d' v :=
  fz_ok (fun a (m : (ι.cut n).has a) => (show ι.has a from Or.imp (List.mem_of_mem_take (i := n)) id m)) (fun i a d' => lkc_ok r n k i a d') d d' v e h
end

mutual
def D.py : D → Option PyData
  | .non => some .none
  | .bl b => some (.bool b)
  | .int i => some (.int i)
  | .str x => some (.str x)
  | .tup ds => (D.pys ds).map .tuple
  | .tpf ds => (D.pys ds).map .tuple
  | .lst ds => (D.pys ds).map .list
  | .scr ns => some (.list (ns.map .int))
  | _ => none
def D.pys : List D → Option (List PyData)
  | [] => some []
  | d :: ds => match D.py d with
    | some p => (D.pys ds).map (p :: ·)
    | none => none
end
def pyOf (st : Store) (d : D) : Option PyData := (view st d).bind D.py
section
variable {W : Wd} {ι : Lay} {H : Hp} {st : Store}
mutual
theorem py_ok : ∀ (d : D) (p : PyData) (v : V), d.py = some p → Rep W ι H d v → Dp W.K H v p
  | .non, _, _, e, h => by simp only [D.py] at e; cases e; simp only [Rep] at h; subst h; exact .non
  | .bl b, _, _, e, h => by simp only [D.py] at e; cases e; simp only [Rep] at h; subst h; exact .bl b
  | .int b, _, _, e, h => by simp only [D.py] at e; cases e; simp only [Rep] at h; subst h; exact .int b
  | .str b, _, _, e, h => by simp only [D.py] at e; cases e; simp only [Rep] at h; subst h; exact .str b
  | .scr ns, _, _, e, h => by
    simp only [D.py] at e
    cases e
    simp only [Rep] at h
    obtain ⟨a, rfl, h1⟩ := h
    exact .lst h1.sq (dp_map fun n _ => .int n)
  | .tup ds, _, _, e, h => by
    simp only [D.py, Option.map_eq_some_iff] at e
    obtain ⟨es, e1, rfl⟩ := e
    simp only [Rep] at h
    obtain ⟨a, rfl, vs, h1, h2⟩ := h
    exact .tup (SqT.of h1) (pys_ok ds es vs e1 h2)
  | .tpf ds, _, _, e, h => by
    simp only [D.py, Option.map_eq_some_iff] at e
    obtain ⟨es, e1, rfl⟩ := e
    obtain ⟨a, o, vs, rfl, _, _, h1, h2⟩ := tpf_ok h
    exact .tup h1 (pys_ok ds es vs e1 h2)
  | .lst ds, _, _, e, h => by
    simp only [D.py, Option.map_eq_some_iff] at e
    obtain ⟨es, e1, rfl⟩ := e
    simp only [Rep] at h
    obtain ⟨a, rfl, _, vs, h1, h2⟩ := h
    exact .lst (SqL.of h1) (pys_ok ds es vs e1 h2)
  | .ty _, _, _, e, h => by simp [D.py] at e
  | .cls _, _, _, e, h => by simp [D.py] at e
  | .dk _ _, _, _, e, h => by simp [D.py] at e
  | .dt _ _, _, _, e, h => by simp [D.py] at e
  | .set _, _, _, e, h => by simp [D.py] at e
  | .ins _ _ _, _, _, e, h => by simp [D.py] at e
  | .ref _, _, _, e, h => by simp [D.py] at e
theorem pys_ok : ∀ (ds : List D) (ps : List PyData) (vs : List V), D.pys ds = some ps → Reps W ι H ds vs → DpAll W.K H vs ps
  | [], _, _, e, h => by simp only [D.pys] at e; cases e; rw [h.nil_of]; exact .nil
  | d :: ds, _, _, e, h => by
    obtain ⟨v, r, rfl, h1, h2⟩ := h.uncons
    simp only [D.pys] at e
    split at e
    · rename_i p q
      rw [Option.map_eq_some_iff] at e
      obtain ⟨es, e1, rfl⟩ := e
      exact .cons (py_ok d p v q h1) (pys_ok ds es r e1 h2)
    · cases e
end
theorem pyOf_ok (r : RelH W ι H st) {d : D} {p : PyData} {v : V} (e : pyOf st d = some p) (h : Rep W ι H d v) : Dp W.K H v p := by
  unfold pyOf at e
  rw [Option.bind_eq_some_iff] at e
  obtain ⟨d', e1, e2⟩ := e
  exact py_ok d' p v e2 (fzn_ok r 0 4 e1 h)
end

/-! ### readings by values -/
def M1 (W : Wd) (f : D → Store → Option D) : V → Hp → VK → Prop := fun x H Q => ∃ ι st a d, RelH W ι H st ∧ Rep W ι H a x ∧ f a st = some d ∧ OkE W ι H d st Q
def M2 (W : Wd) (f : D → D → Store → Option D) : R2 := fun x y H Q => ∃ ι st a b d, RelH W ι H st ∧ Rep W ι H a x ∧ Rep W ι H b y ∧ f a b st = some d ∧ OkE W ι H d st Q
def MA (W : Wd) (f : FM) : List V → Hp → VK → Prop := fun vs H Q => ∃ ι st as d st', RelH W ι H st ∧ Reps W ι H as vs ∧ f as st = some (d, st') ∧ OkE W ι H d st' Q
def ro (f : List D → Store → Option D) : FM := fun ds st => (f ds st).map (·, st)

/-! ### the mirrors of expressions -/
def eVar (i : Nat) : EM := fun env st => match env[i]? with
  | some (some d) => some (d, st)
  | _ => none
def eC (d : D) : EM := fun _ st => some (d, st)
def eUn (f : D → Store → Option D) (a : EM) : EM := fun env st => match a env st with
  | some (x, s1) => (f x s1).map (·, s1)
  | none => none
def eOp (f : D → D → Store → Option D) (a b : EM) : EM := fun env st => match a env st with
  | some (x, s1) => match b env s1 with
    | some (y, s2) => (f x y s2).map (·, s2)
    | none => none
  | none => none
def aNil : AM := fun _ st => some ([], st)
def aCons (a : EM) (r : AM) : AM := fun env st => match a env st with
  | some (x, s1) => match r env s1 with
    | some (xs, s2) => some (x :: xs, s2)
    | none => none
  | none => none
def eCall (f : FM) (a : AM) : EM := fun env st => match a env st with
  | some (xs, s1) => f xs s1
  | none => none
def eTup (a : AM) : EM := fun env st => match a env st with
  | some (xs, s1) => if xs.length ≤ sizeLine then some (.tup xs, s1) else none
  | none => none
def eLst (a : AM) : EM := fun env st => match a env st with
  | some (xs, s1) => if xs.length ≤ sizeLine then some (.lst xs, s1) else none
  | none => none
/-- a list that will be written -/
def eLstM (a : AM) : EM := fun env st => match a env st with
  | some (xs, s1) => if xs.length ≤ sizeLine then some (.ref s1.length, s1 ++ [.lst xs]) else none
  | none => none
def bE (a : EM) : TM := fun env st => match a env st with
  | some (.bl b, s1) => some (b, s1)
  | _ => none
def bAnd (a b : TM) : TM := fun env st => match a env st with
  | some (true, s1) => b env s1
  | r => r
def bOr (a b : TM) : TM := fun env st => match a env st with
  | some (false, s1) => b env s1
  | r => r
def bNot (a : TM) : TM := fun env st => match a env st with
  | some (b, s1) => some (!b, s1)
  | none => none
def eAnd (a b : EM) : EM := fun env st => match a env st with
  | some (.bl true, s1) => b env s1
  | some (.bl false, s1) => some (.bl false, s1)
  | _ => none
def eOr (a b : EM) : EM := fun env st => match a env st with
  | some (.bl false, s1) => b env s1
  | some (.bl true, s1) => some (.bl true, s1)
  | _ => none
def eNot (a : EM) : EM := fun env st => match a env st with
  | some (.bl b, s1) => some (.bl (!b), s1)
  | _ => none
def eIf (c : TM) (a b : EM) : EM := fun env st => match c env st with
  | some (true, s1) => a env s1
  | some (false, s1) => b env s1
  | none => none
/-- a < b < c -/
def eChain (f g : D → D → Store → Option D) (a b c : EM) : EM := fun env st => match a env st with
  | some (x, s1) => match b env s1 with
    | some (y, s2) => match f x y s2 with
      | some (.bl true) => match c env s2 with
        | some (z, s3) => (g y z s3).map (·, s3)
        | none => none
      | some (.bl false) => some (.bl false, s2)
      | _ => none
    | none => none
  | none => none

section
variable {X : Cx} {W : Wd} {a b c e : Expr} {es : List Expr} {rest : List Expr} {pos : Pos} {ma mb mc : EM} {ta tb tc : TM} {f g : D → D → Store → Option D}
/-! #### how a mirror's reading is used -/
theorem T.of {m : EM} {σ : L2.St} {H : Hp} {Q : VK} {ι : Lay} {st st' : Store} {env : Env} {d : D} (r : RelH W ι H st) (n : REnv W ι H env σ) (e : m env st = some (d, st')) (k : OkE W ι H d st' Q) : T W m σ H Q := ⟨ι, st, env, d, st', r, n, e, k⟩

theorem j_var {i : Nat} {x : Str} {pos : Pos} (hN : X.N[i]? = some x) (hv : Vis X.env.scope x) (hd : (x == ("__debug__" : Str)) = false := by decide) (hcd : (x == ("__classdict__" : Str)) = false := by decide) : PE X (.Name x pos) (T W (eVar i)) :=
  (pe_var hN hv hd hcd).imp fun σ H Q ⟨ι, st, env, d, st', r, n, e, k⟩ => by
    unfold eVar at e
    split at e
    · rename_i d' q
      cases e
      obtain ⟨v, h1, h2⟩ := n.get i _ q
      exact ⟨v, h1, k.now r h2⟩
    · cases e
theorem tC_of {d : D} {v : V} (h : ∀ ι H, Rep W ι H d v) (he : PE X e (tC v)) : PE X e (T W (eC d)) :=
  he.imp fun σ H Q ⟨ι, st, env, d', st', r, n, e, k⟩ => by
    cases e
    exact k.now r (h _ _)
theorem j_int {i : Int} {j pos} : PE X (.Constant (.int i) j pos) (T W (eC (.int i))) := tC_of (fun _ _ => by simp only [Rep]) pe_int
theorem j_bl {b : Bool} {j pos} : PE X (.Constant (.bool b) j pos) (T W (eC (.bl b))) := tC_of (fun _ _ => by simp only [Rep]) pe_bl
theorem j_non {j pos} : PE X (.Constant .none j pos) (T W (eC .non)) := tC_of (fun _ _ => by simp only [Rep]) pe_non
theorem j_str {x : Str} {j pos} : PE X (.Constant (.str x) j pos) (T W (eC (.str x))) := tC_of (fun _ _ => by simp only [Rep]) pe_str

theorem tOp_of {σ : L2.St} {H : Hp} {Q : VK} (h : T W (eOp f ma mb) σ H Q) : tOp (M2 W f) (T W ma) (T W mb) σ H Q := by
  obtain ⟨ι, st, env, d, st', r, n, e, k⟩ := h
  unfold eOp at e
  split at e
  · rename_i x s1 e1
    split at e
    · rename_i y s2 e2
      rw [Option.map_eq_some_iff] at e
      obtain ⟨z, e3, q⟩ := e
      cases q
      exact T.of r n e1 fun v ι1 H1 g1 r1 p1 => T.of r1 (n.grow g1) e2 fun u ι2 H2 g2 r2 p2 => ⟨ι2, _, x, y, _, r2, Rep.grow g2 _ _ p1, p2, e3, k.go (g1.trans g2)⟩
    · cases e
  · cases e
theorem tUn_of {f : D → Store → Option D} {σ : L2.St} {H : Hp} {Q : VK} (h : T W (eUn f ma) σ H Q) : tUn (M1 W f) (T W ma) σ H Q := by
  obtain ⟨ι, st, env, d, st', r, n, e, k⟩ := h
  unfold eUn at e
  split at e
  · rename_i x s1 e1
    rw [Option.map_eq_some_iff] at e
    obtain ⟨z, e3, q⟩ := e
    cases q
    exact T.of r n e1 fun v ι1 H1 g1 r1 p1 => ⟨ι1, _, x, _, r1, p1, e3, k.go g1⟩
  · cases e
theorem j_op {op : Operator} (ho : OpR X (binaryOp op) (M2 W f)) (ha : PE X a (T W ma)) (hb : PE X b (T W mb)) : PE X (.BinOp a op b pos) (T W (eOp f ma mb)) := (pe_op ho ha hb).imp fun _ _ _ => tOp_of
theorem j_un {op : UnaryOp} {f : D → Store → Option D} (ho : UnR X (unaryOp op) (M1 W f)) (ha : PE X a (T W ma)) : PE X (.UnaryOp op a pos) (T W (eUn f ma)) := (pe_un ho ha).imp fun _ _ _ => tUn_of
theorem j_cmp {op : CmpOp} (ho : OpR X (compareOp op) (M2 W f)) (ha : PE X a (T W ma)) (hb : PE X b (T W mb)) (hm : behindInMarks op b = false) : PE X (.Compare a [op] [b] pos) (T W (eOp f ma mb)) := (pe_cmpR ho ha hb hm).imp fun _ _ _ => tOp_of
theorem j_ix (hr : IxR X (M2 W f)) (ha : PE X a (T W ma)) (hb : PE X b (T W mb)) (hs : PlainIx b) : PE X (.Subscript a b pos) (T W (eOp f ma mb)) := (pe_ix hr ha hb hs).imp fun _ _ _ => tOp_of
theorem TB_bE {σ : L2.St} {H : Hp} {Q : Bool → Hp → Prop} (h : TB W (bE ma) σ H Q) : T W ma σ H fun x H' => ∃ k, x = .bl k ∧ Q k H' := by
  obtain ⟨ι, st, env, d, st', r, n, e, k⟩ := h
  unfold bE at e
  split at e
  · rename_i b' s1 e1
    cases e
    exact T.of r n e1 fun v ι1 H1 g1 r1 p1 => ⟨_, by simpa only [Rep] using p1, k _ _ g1 r1⟩
  · cases e
theorem jt_cmp {op : CmpOp} (ho : OpR X (compareOp op) (M2 W f)) (ha : PE X a (T W ma)) (hb : PE X b (T W mb)) (hm : behindInMarks op b = false) : PT X (.Compare a [op] [b] pos) (TB W (bE (eOp f ma mb))) :=
  (pt_cmpR ho ha hb hm).imp fun σ H Q h => tOp_of (TB_bE h)
theorem jt_val (h : PE X e (T W ma)) (he : ∀ whole, isTrue e X.env whole = (do let v ← whole; standAt e.pos; holding [v] (truthy v)) := by intro _; rfl) : PT X e (TB W (bE ma)) :=
  (pt_val h he).imp fun σ H Q h => TB_bE h
theorem TB.of {m : TM} {σ : L2.St} {H : Hp} {Q : Bool → Hp → Prop} {ι : Lay} {st st' : Store} {env : Env} {d : Bool} (r : RelH W ι H st) (n : REnv W ι H env σ) (e : m env st = some (d, st')) (k : OkB W ι H d st' Q) : TB W m σ H Q := ⟨ι, st, env, d, st', r, n, e, k⟩
theorem tAnd_of {σ : L2.St} {H : Hp} {Q : Bool → Hp → Prop} (h : TB W (bAnd ta tb) σ H Q) : tAnd (TB W ta) (TB W tb) σ H Q := by
  obtain ⟨ι, st, env, d, st', r, n, e, k⟩ := h
  unfold bAnd at e
  split at e
  · rename_i s1 e1
    exact TB.of r n e1 fun ι1 H1 g1 r1 => (if_pos rfl).mpr (TB.of r1 (n.grow g1) e (k.go g1))
  · rename_i hne
    rcases hh : ta env st with _ | ⟨b1, s1⟩
    · rw [hh] at e; cases e
    · cases b1 with
      | true => exact absurd hh (hne s1)
      | false =>
        rw [hh] at e
        cases e
        exact TB.of r n hh fun ι1 H1 g1 r1 => (if_neg Bool.false_ne_true).mpr (k _ _ g1 r1)
theorem tOr_of {σ : L2.St} {H : Hp} {Q : Bool → Hp → Prop} (h : TB W (bOr ta tb) σ H Q) : tOr (TB W ta) (TB W tb) σ H Q := by
  obtain ⟨ι, st, env, d, st', r, n, e, k⟩ := h
  unfold bOr at e
  split at e
  · rename_i s1 e1
    exact TB.of r n e1 fun ι1 H1 g1 r1 => (if_neg Bool.false_ne_true).mpr (TB.of r1 (n.grow g1) e (k.go g1))
  · rename_i hne
    rcases hh : ta env st with _ | ⟨b1, s1⟩
    · rw [hh] at e; cases e
    · cases b1 with
      | false => exact absurd hh (hne s1)
      | true =>
        rw [hh] at e
        cases e
        exact TB.of r n hh fun ι1 H1 g1 r1 => (if_pos rfl).mpr (k _ _ g1 r1)
theorem jw_and1 (ha : PT X a (TB W ta)) : PW X (.BoolOp .And [a] pos) (TB W ta) := pw_and1 ha
theorem jw_or1 (ha : PT X a (TB W ta)) : PW X (.BoolOp .Or [a] pos) (TB W ta) := pw_or1 ha
theorem jw_and (ha : PT X a (TB W ta)) (hb : PW X (.BoolOp .And (b :: rest) pos) (TB W tb)) : PW X (.BoolOp .And (a :: b :: rest) pos) (TB W (bAnd ta tb)) := (pw_and ha hb).imp fun _ _ _ => tAnd_of
theorem jw_or (ha : PT X a (TB W ta)) (hb : PW X (.BoolOp .Or (b :: rest) pos) (TB W tb)) : PW X (.BoolOp .Or (a :: b :: rest) pos) (TB W (bOr ta tb)) := (pw_or ha hb).imp fun _ _ _ => tOr_of
theorem jt_not (ha : PT X a (TB W ta)) : PT X (.UnaryOp .Not a pos) (TB W (bNot ta)) := (pt_not ha).imp fun σ H Q ⟨ι, st, env, d, st', r, n, e, k⟩ => by
  unfold bNot at e
  split at e
  · rename_i b1 s1 e1
    cases e
    exact TB.of r n e1 k
  · cases e
theorem j_one {op} (h : PE X a (T W ma)) : PE X (.BoolOp op [a] pos) (T W ma) := pe_one h
theorem j_and (ha : PE X a (T W ma)) (hb : PE X (.BoolOp .And (b :: rest) pos) (T W mb)) : PE X (.BoolOp .And (a :: b :: rest) pos) (T W (eAnd ma mb)) := (pe_and ha hb).imp fun σ H Q ⟨ι, st, env, d, st', r, n, e, k⟩ => by
  unfold eAnd at e
  split at e
  · rename_i s1 e1
    exact T.of r n e1 fun v ι1 H1 g1 r1 p1 => ⟨true, by simpa only [Rep] using p1, (if_pos rfl).mpr (T.of r1 (n.grow g1) e (k.go g1))⟩
  · rename_i s1 e1
    cases e
    exact T.of r n e1 fun v ι1 H1 g1 r1 p1 => ⟨false, by simpa only [Rep] using p1, (if_neg Bool.false_ne_true).mpr (k _ _ _ g1 r1 (by simp only [Rep]))⟩
  · cases e
theorem j_or (ha : PE X a (T W ma)) (hb : PE X (.BoolOp .Or (b :: rest) pos) (T W mb)) : PE X (.BoolOp .Or (a :: b :: rest) pos) (T W (eOr ma mb)) := (pe_or ha hb).imp fun σ H Q ⟨ι, st, env, d, st', r, n, e, k⟩ => by
  unfold eOr at e
  split at e
  · rename_i s1 e1
    exact T.of r n e1 fun v ι1 H1 g1 r1 p1 => ⟨false, by simpa only [Rep] using p1, (if_neg Bool.false_ne_true).mpr (T.of r1 (n.grow g1) e (k.go g1))⟩
  · rename_i s1 e1
    cases e
    exact T.of r n e1 fun v ι1 H1 g1 r1 p1 => ⟨true, by simpa only [Rep] using p1, (if_pos rfl).mpr (k _ _ _ g1 r1 (by simp only [Rep]))⟩
  · cases e
theorem j_not (ha : PE X a (T W ma)) : PE X (.UnaryOp .Not a pos) (T W (eNot ma)) := (pe_not ha).imp fun σ H Q ⟨ι, st, env, d, st', r, n, e, k⟩ => by
  unfold eNot at e
  split at e
  · rename_i b1 s1 e1
    cases e
    exact T.of r n e1 fun v ι1 H1 g1 r1 p1 => ⟨b1, by simpa only [Rep] using p1, k _ _ _ g1 r1 (by simp only [Rep])⟩
  · cases e
theorem j_if (hc : PT X c (TB W tc)) (ha : PE X a (T W ma)) (hb : PE X b (T W mb)) : PE X (.IfExp c a b pos) (T W (eIf tc ma mb)) := (pe_ifExp hc ha hb).imp fun σ H Q ⟨ι, st, env, d, st', r, n, e, k⟩ => by
  unfold eIf at e
  split at e
  · rename_i s1 e1
    exact TB.of r n e1 fun ι1 H1 g1 r1 => (if_pos rfl).mpr (T.of r1 (n.grow g1) e (k.go g1))
  · rename_i s1 e1
    exact TB.of r n e1 fun ι1 H1 g1 r1 => (if_neg Bool.false_ne_true).mpr (T.of r1 (n.grow g1) e (k.go g1))
  · cases e
theorem chain_of {σ : L2.St} {H : Hp} {Q : VK} (h : T W (eChain f g ma mb mc) σ H Q) : tChain (M2 W f) (M2 W g) (T W ma) (T W mb) (T W mc) σ H Q := by
  obtain ⟨ι, st, env, d, st', r, n, e, k⟩ := h
  unfold eChain at e
  split at e
  · rename_i x s1 e1
    split at e
    · rename_i y s2 e2
      refine T.of r n e1 fun v ι1 H1 g1 r1 p1 => T.of r1 (n.grow g1) e2 fun u ι2 H2 g2 r2 p2 => ?_
      split at e
      · rename_i e3
        refine ⟨ι2, s2, x, y, .bl true, r2, Rep.grow g2 _ _ p1, p2, e3, fun z ι3 H3 g3 r3 p3 => ⟨true, by simpa only [Rep] using p3, (if_pos rfl).mpr ?_⟩⟩
        split at e
        · rename_i z s3 e4
          rw [Option.map_eq_some_iff] at e
          obtain ⟨q, e5, e6⟩ := e
          cases e6
          exact T.of r3 (((n.grow g1).grow g2).grow g3) e4 fun w' ι4 H4 g4 r4 p4 => ⟨ι4, _, y, z, _, r4, Rep.grow g4 _ _ (Rep.grow g3 _ _ p2), p4, e5, k.go (((g1.trans g2).trans g3).trans g4)⟩
        · cases e
      · rename_i e3
        cases e
        refine ⟨ι2, _, x, y, .bl false, r2, Rep.grow g2 _ _ p1, p2, e3, fun z ι3 H3 g3 r3 p3 => ⟨false, by simpa only [Rep] using p3, (if_neg Bool.false_ne_true).mpr ?_⟩⟩
        exact k _ _ _ ((g1.trans g2).trans g3) r3 (by simp only [Rep])
      · cases e
    · cases e
  · cases e
theorem j_chain {op op' : CmpOp} (ho : OpR X (compareOp op) (M2 W f)) (ho' : OpR X (compareOp op') (M2 W g)) (ha : PE X a (T W ma)) (hb : PE X b (T W mb)) (hc : PE X c (T W mc))
    (hm : lastMarks [op, op'] [b, c] = false := by with_unfolding_all rfl) : PE X (.Compare a [op, op'] [b, c] pos) (T W (eChain f g ma mb mc)) := (pe_chain ho ho' ha hb hc hm).imp fun _ _ _ => chain_of
theorem jt_chain {op op' : CmpOp} (ho : OpR X (compareOp op) (M2 W f)) (ho' : OpR X (compareOp op') (M2 W g)) (ha : PE X a (T W ma)) (hb : PE X b (T W mb)) (hc : PE X c (T W mc))
    (hm : lastMarks [op, op'] [b, c] = false := by with_unfolding_all rfl) : PT X (.Compare a [op, op'] [b, c] pos) (TB W (bE (eChain f g ma mb mc))) := (pt_chain ho ho' ha hb hc hm).imp fun _ _ _ h => chain_of (TB_bE h)

/-! #### argument lists, displays, calls -/
theorem TA.of {m : AM} {σ : L2.St} {H : Hp} {Q : List V → Hp → Prop} {ι : Lay} {st st' : Store} {env : Env} {d : List D} (r : RelH W ι H st) (n : REnv W ι H env σ) (e : m env st = some (d, st')) (k : OkA W ι H d st' Q) : TAs W m σ H Q := ⟨ι, st, env, d, st', r, n, e, k⟩
theorem ja_nil : PA X [] (TAs W aNil) := pa_nil.imp fun σ H Q ⟨ι, st, env, d, st', r, n, e, k⟩ => by
  cases e
  exact k _ _ _ Grow.refl r Reps.nil
theorem ja_cons {mr : AM} (ha : PE X e (T W ma)) (hr : PA X es (TAs W mr)) (hs : starEach (e :: es) X.env = (false, eval e X.env) :: starEach es X.env := by rfl) : PA X (e :: es) (TAs W (aCons ma mr)) := (pa_cons ha hr hs).imp fun σ H Q ⟨ι, st, env, d, st', r, n, e, k⟩ => by
  unfold aCons at e
  split at e
  · rename_i x s1 e1
    split at e
    · rename_i xs s2 e2
      cases e
      exact T.of r n e1 fun v ι1 H1 g1 r1 p1 => TA.of r1 (n.grow g1) e2 fun vs ι2 H2 g2 r2 p2 => k _ _ _ (g1.trans g2) r2 (Reps.cons (Rep.grow g2 _ _ p1) p2)
    · cases e
  · cases e
theorem j_tup {x1} {mr : AM} (h : PA X es (TAs W mr)) : PE X (.Tuple es x1 pos) (T W (eTup mr)) := (pe_tup h).imp fun σ H Q ⟨ι, st, env, d, st', r, n, e, k⟩ => by
  unfold eTup at e
  split at e
  · rename_i xs s1 e1
    split at e
    · rename_i hz
      cases e
      exact TA.of r n e1 fun vs ι1 H1 g1 r1 p1 => ⟨by rw [← p1.length]; exact hz, fun p hp => (k.go g1).tup r1 p1 hp⟩
    · cases e
  · cases e
theorem j_lst {mr : AM} (h : PA X es (TAs W mr)) : PE X (.List es pos) (T W (eLst mr)) := (pe_lst h).imp fun σ H Q ⟨ι, st, env, d, st', r, n, e, k⟩ => by
  unfold eLst at e
  split at e
  · rename_i xs s1 e1
    split at e
    · rename_i hz
      cases e
      exact TA.of r n e1 fun vs ι1 H1 g1 r1 p1 => ⟨by rw [← p1.length]; exact hz, fun p hp => (k.go g1).lst r1 p1 hp⟩
    · cases e
  · cases e
theorem j_lstM {mr : AM} (h : PA X es (TAs W mr)) : PE X (.List es pos) (T W (eLstM mr)) := (pe_lst h).imp fun σ H Q ⟨ι, st, env, d, st', r, n, e, k⟩ => by
  unfold eLstM at e
  split at e
  · rename_i xs s1 e1
    split at e
    · rename_i hz
      cases e
      exact TA.of r n e1 fun vs ι1 H1 g1 r1 p1 => ⟨by rw [← p1.length]; exact hz, fun p hp => (k.go g1).lstM r1 p1 hp⟩
    · cases e
  · cases e
theorem tCB_of {F : FM} {mr : AM} {σ : L2.St} {H : Hp} {Q : VK} (h : T W (eCall F mr) σ H Q) : tCB (MA W F) (TAs W mr) σ H Q := by
  obtain ⟨ι, st, env, d, st', r, n, e, k⟩ := h
  unfold eCall at e
  split at e
  · rename_i xs s1 e1
    exact TA.of r n e1 fun vs ι1 H1 g1 r1 p1 => ⟨ι1, s1, xs, d, st', r1, p1, e, k.go g1⟩
  · cases e
theorem j_callB {x : Str} {id : String} {p : Pos} {F : FM} {mr : AM} (hc : CallR X (.builtin id) (MA W F)) (hg : Gl X x) (hm : X.mg x = none) (hv : bootBuiltins x = some (.builtin id)) (ha : PA X (e :: es) (TAs W mr)) (hn : x ≠ "__name__" := by decide) (hdb : (x == ("__debug__" : Str)) = false := by decide)
    (he : starEach (e :: es) X.env = (false, eval e X.env) :: starEach es X.env := by rfl) (hpl : (backTo pos (starEach es X.env)).any (·.1) = false := by rfl) : PE X (.Call (.Name x p) (e :: es) [] pos) (T W (eCall F mr)) := (pe_callB hc hg hm hv ha hn hdb he hpl).imp fun _ _ _ => tCB_of
theorem j_callTy {x : Str} {id : String} {p : Pos} {F : FM} {mr : AM} (hc : CallR X (.type id) (MA W F)) (hg : Gl X x) (hm : X.mg x = none) (hv : bootBuiltins x = some (.type id)) (ha : PA X (e :: es) (TAs W mr)) (hn : x ≠ "__name__" := by decide) (hdb : (x == ("__debug__" : Str)) = false := by decide)
    (he : starEach (e :: es) X.env = (false, eval e X.env) :: starEach es X.env := by rfl) (hpl : (backTo pos (starEach es X.env)).any (·.1) = false := by rfl) : PE X (.Call (.Name x p) (e :: es) [] pos) (T W (eCall F mr)) := (pe_callTy hc hg hm hv ha hn hdb he hpl).imp fun _ _ _ => tCB_of
end
end My

namespace My
open PySem PySem.Spec PyProof.Rows L2

/-! ### targets -/
abbrev GM := D → Env → Option Env
abbrev GMs := List D → Env → Option Env
def gNm (i : Nat) : GM := fun d env => some (env.set i (some d))
def gsNil : GMs := fun ds env => match ds with
  | [] => some env
  | _ => none
def gsCons (g : GM) (gs : GMs) : GMs := fun ds env => match ds with
  | d :: ds => match g d env with
    | some e => gs ds e
    | none => none
  | [] => none
def gTp (n : Nat) (gs : GMs) : GM := fun d env => match d with
  | .tup xs => if xs.length = n then gs xs env else none
  | _ => none
def TGm (W : Wd) (g : GM) (vs : List Nat) : TG := fun v σ H Q => ∃ ι st env d env', RelH W ι H st ∧ REnv W ι H env σ ∧ Rep W ι H d v ∧ g d env = some env' ∧
  ∀ σ', REnv W ι H env' σ' → L2.wipe σ' vs = L2.wipe σ vs → Q σ' H
def TGsm (W : Wd) (g : GMs) (vs : List Nat) : TGs := fun us σ H Q => ∃ ι st env ds env', RelH W ι H st ∧ REnv W ι H env σ ∧ Reps W ι H ds us ∧ g ds env = some env' ∧
  ∀ σ', REnv W ι H env' σ' → L2.wipe σ' vs = L2.wipe σ vs → Q σ' H
theorem wipe_set (σ : L2.St) (i : Nat) (x : Option V) : ∀ vs : List Nat, (i ∈ vs → L2.wipe (σ.set i x) vs = L2.wipe σ vs) ∧ (i ∉ vs → L2.wipe (σ.set i x) vs = (L2.wipe σ vs).set i x)
  | [] => ⟨fun h => by simp at h, fun _ => rfl⟩
  | v :: vs => by
    obtain ⟨h1, h2⟩ := wipe_set σ i x vs
    constructor
    · intro h
      show (L2.wipe (σ.set i x) vs).set v none = (L2.wipe σ vs).set v none
      by_cases hi : i ∈ vs
      · rw [h1 hi]
      · have : i = v := by simpa [hi] using h
        subst this
        rw [h2 hi, List.set_set]
    · intro h
      simp only [List.mem_cons, not_or] at h
      show (L2.wipe (σ.set i x) vs).set v none = ((L2.wipe σ vs).set v none).set i x
      rw [h2 h.2, List.set_comm _ _ h.1]

section
variable {X : Cx} {W : Wd} {pos : Pos}
theorem _root_.L2.PG.imp' {X : Cx} {tg : Expr} {t t' : TG} (h : PG X tg t) (k : ∀ v σ H Q, t' v σ H Q → t v σ H Q) : PG X tg t' := ⟨fun p s σ H v u Q I r q => h.run p s σ H v u Q I r (k _ _ _ _ q)⟩
theorem _root_.L2.PGs.imp {X : Cx} {tg : List Expr} {t t' : TGs} (h : PGs X tg t) (k : ∀ v σ H Q, t' v σ H Q → t v σ H Q) : PGs X tg t' := ⟨fun p s σ H v u Q I r q => h.run p s σ H v u Q I r (k _ _ _ _ q)⟩
theorem jg_name {i : Nat} {x : Str} {vs : List Nat} (hN : X.N.Nodup) (hi : X.N[i]? = some x) (hx : Loc X.env.scope x) (hv : i ∈ vs := by decide) (hf : X.fn x = true ∨ X.env.scope.names.lookup x = some .local := by first | exact .inl rfl | exact .inr rfl | assumption) : PG X (.Name x pos) (TGm W (gNm i) vs) :=
  (pg_name hN hi hx hf).imp' fun v σ H Q ⟨ι, st, env, d, env', r, n, h, e, k⟩ => by
    cases e
    exact k _ (n.set i h) ((wipe_set σ i (some v) vs).1 hv)
theorem jgs_nil {vs : List Nat} : PGs X [] (TGsm W gsNil vs) := pgs_nil.imp fun us σ H Q ⟨ι, st, env, d, env', r, n, h, e, k⟩ => by
  cases d with
  | nil =>
    cases e
    exact ⟨h.nil_of, k _ n rfl⟩
  | cons _ _ => cases e
theorem jgs_cons {e : Expr} {es : List Expr} {g : GM} {gs : GMs} {vs : List Nat} (h1 : PG X e (TGm W g vs)) (h2 : PGs X es (TGsm W gs vs))
    (hs : (assignEach (e :: es) X.env).map (·.2) = assign e X.env :: (assignEach es X.env).map (·.2) := by rfl) : PGs X (e :: es) (TGsm W (gsCons g gs) vs) := (pgs_cons h1 h2 hs).imp fun us σ H Q ⟨ι, st, env, d, env', r, n, h, e, k⟩ => by
  cases d with
  | nil => cases e
  | cons d ds =>
    unfold gsCons at e
    dsimp only at e
    split at e
    · rename_i e1 q
      obtain ⟨v, u, rfl, h1, h2⟩ := h.uncons
      exact ⟨v, u, rfl, ι, st, env, d, e1, r, n, h1, q, fun σ1 n1 w1 => ⟨ι, st, e1, ds, env', r, n1, h2, e, fun σ2 n2 w2 => k _ n2 (w2.trans w1)⟩⟩
    · cases e
theorem jg_tup {es : List Expr} {kk : Nat} {gs : GMs} {n : Nat} {vs : List Nat} (hK : X.K = W.K) (hc : X.calm = true) (h : PGs X es (TGsm W gs vs))
    (hn : (assignEach es X.env).length = n := by rfl) (hst : (assignEach es X.env).findIdx? (·.1) = none := by rfl) : PG X (.Tuple es kk pos) (TGm W (gTp n gs) vs) := (pg_tup hc h hn hst).imp' fun v σ H Q ⟨ι, st, env, d, env', r, n', h, e, k⟩ => by
  unfold gTp at e
  split at e
  · rename_i xs
    split at e
    · rename_i hl
      obtain ⟨a, us, rfl, h1, h2⟩ := seqT_ok h (xs := xs) rfl
      exact ⟨a, us, rfl, SqT.of h1, by rw [← h2.length]; exact hl, ι, st, env, xs, env', r, n', h2, e, k⟩
    · cases e
  · cases e

/-! ### what is walked -/
abbrev IM := Env → Store → Option (List D × (Store → Prop) × Store)
structure ItOk (W : Wd) (J : It) (ι0 : Lay) (H0 : Hp) (ds : List D) (gd : Store → Prop) : Prop where
  go : ∀ (i : Nat) (ι : Lay) (H : Hp) (st : Store) (d : D), Gro ι0 H0 ι H → RelH W ι H st → gd st → ds[i]? = some d → J.go i H ∧ ∀ x H', J.yld i H x H' → Grow ι H ι H' ∧ RelH W ι H' st ∧ Rep W ι H' d x
  stop : ∀ (ι : Lay) (H : Hp) (st : Store), Gro ι0 H0 ι H → RelH W ι H st → gd st → J.stop ds.length H
def TIm (W : Wd) (im : IM) : TI := fun σ H R => ∃ ι st env ds gd st', RelH W ι H st ∧ REnv W ι H env σ ∧ im env st = some (ds, gd, st') ∧
  ∀ J ι' H', Grow ι H ι' H' → RelH W ι' H' st' → ItOk W J ι' H' ds gd → R J H'
def always : Store → Prop := fun _ => True
def iSeq (m : EM) : IM := fun env st => match m env st with
  | some (.tup xs, s1) => some (xs, always, s1)
  | some (.tpf xs, s1) => some (xs, always, s1)
  | some (.lst xs, s1) => some (xs, always, s1)
  | some (.scr ns, s1) => some (ns.map .int, always, s1)
  | some (.ref i, s1) => match s1[i]? with
    | some (.lst xs) => some (xs, fun s => s[i]? = some (.lst xs), s1)
    | _ => none
  | _ => none
theorem itOk_list {a : Addr} {ι0 : Lay} {H0 : Hp} {ds : List D} {gd : Store → Prop} (h : ∀ ι H st, Gro ι0 H0 ι H → RelH W ι H st → gd st → ∃ vs, SqL W.K H a vs ∧ Reps W ι H ds vs) : ItOk W (Itl W.K a) ι0 H0 ds gd where
  go := fun i ι H st d g r k e => by
    obtain ⟨vs, h1, h2⟩ := h ι H st g r k
    obtain ⟨v, h3, h4⟩ := h2.get e
    refine ⟨⟨vs, v, h1, h3⟩, fun x H' ⟨e1, e2⟩ => ?_⟩
    subst e1
    have := e2 _ h1
    rw [h3] at this
    cases this
    exact ⟨Grow.refl, r, h4⟩
  stop := fun ι H st g r k => by
    obtain ⟨vs, h1, h2⟩ := h ι H st g r k
    exact ⟨vs, h1, by rw [h2.length]; exact Nat.le_refl _⟩
theorem itOk_tup {a : Addr} {ι0 : Lay} {H0 : Hp} {ds : List D} {gd : Store → Prop} (h : ∀ ι H st, Gro ι0 H0 ι H → RelH W ι H st → gd st → ∃ vs, SqT W.K H a vs ∧ Reps W ι H ds vs) : ItOk W (Itt W.K a) ι0 H0 ds gd where
  go := fun i ι H st d g r k e => by
    obtain ⟨vs, h1, h2⟩ := h ι H st g r k
    obtain ⟨v, h3, h4⟩ := h2.get e
    refine ⟨⟨vs, v, h1, h3⟩, fun x H' ⟨e1, e2⟩ => ?_⟩
    subst e1
    have := e2 _ h1
    rw [h3] at this
    cases this
    exact ⟨Grow.refl, r, h4⟩
  stop := fun ι H st g r k => by
    obtain ⟨vs, h1, h2⟩ := h ι H st g r k
    exact ⟨vs, h1, by rw [h2.length]; exact Nat.le_refl _⟩
theorem ji_seq {tg l : Expr} {m : EM} (hK : X.K = W.K) (hl : PE X l (T W m)) : PI X tg l (TIm W (iSeq m)) := by
  refine ⟨fun pins s σ H R I h => ?_⟩
  obtain ⟨ι, st, env, ds, gd, st', r, n, e, k⟩ := h
  unfold iSeq at e
  split at e
  · rename_i xs s1 e1
    cases e
    refine (pi_tup hl).run pins s σ H R I (T.of r n e1 fun v ι1 H1 g1 r1 p1 => ?_)
    obtain ⟨a, vs, rfl, h1, h2⟩ := seqT_ok p1 (xs := ds) rfl
    rw [hK]
    exact ⟨a, rfl, ⟨vs, SqT.of h1⟩, k _ ι1 H1 g1 r1 (itOk_tup fun ι2 H2 s2 g2 _ _ => ⟨vs, SqT.of (g2.keep _ _ (.inr fun z => z) h1), Reps.gro g2 _ _ h2⟩)⟩
  · rename_i xs s1 e1
    cases e
    refine (pi_tup hl).run pins s σ H R I (T.of r n e1 fun v ι1 H1 g1 r1 p1 => ?_)
    obtain ⟨a, o, vs, rfl, _, h0, h1, h2⟩ := tpf_ok p1
    rw [hK]
    exact ⟨a, rfl, ⟨vs, h1⟩, k _ ι1 H1 g1 r1 (itOk_tup fun ι2 H2 s2 g2 _ _ => ⟨vs, .inl (.inr ⟨o, g2.keep _ _ (.inr fun z => z) h0⟩), Reps.gro g2 _ _ h2⟩)⟩
  · rename_i xs s1 e1
    cases e
    refine (pi_list hl).run pins s σ H R I (T.of r n e1 fun v ι1 H1 g1 r1 p1 => ?_)
    simp only [Rep] at p1
    obtain ⟨a, rfl, na, vs, h1, h2⟩ := p1
    rw [hK]
    exact ⟨a, rfl, ⟨vs, SqL.of h1⟩, k _ ι1 H1 g1 r1 (itOk_list fun ι2 H2 s2 g2 _ _ => ⟨vs, SqL.of (g2.keep _ _ (.inl na) h1), Reps.gro g2 _ _ h2⟩)⟩
  · rename_i ns s1 e1
    cases e
    refine (pi_list hl).run pins s σ H R I (T.of r n e1 fun v ι1 H1 g1 r1 p1 => ?_)
    simp only [Rep] at p1
    obtain ⟨a, rfl, h1⟩ := p1
    rw [hK]
    exact ⟨a, rfl, ⟨_, h1.sq⟩, k _ ι1 H1 g1 r1 (itOk_list fun ι2 H2 s2 g2 _ _ => ⟨_, (g2.fzL h1).sq, Reps.map fun x _ => by simp only [Rep]⟩)⟩
  · rename_i i s1 e1
    split at e
    · rename_i xs q
      cases e
      refine (pi_list hl).run pins s σ H R I (T.of r n e1 fun v ι1 H1 g1 r1 p1 => ?_)
      simp only [Rep] at p1
      obtain ⟨a, rfl, h1⟩ := p1
      obtain ⟨c, hc, ok⟩ := r1.at h1
      rw [q] at hc
      cases hc
      obtain ⟨vs, h2, h3⟩ := ok
      rw [hK]
      refine ⟨a, rfl, ⟨vs, SqL.of h2⟩, k _ ι1 H1 g1 r1 (itOk_list fun ι2 H2 s2 g2 r2 gd2 => ?_)⟩
      obtain ⟨c, hc, ok⟩ := r2.at (g2.pre _ _ h1)
      rw [gd2] at hc
      cases hc
      obtain ⟨us, h4, h5⟩ := ok
      exact ⟨us, SqL.of h4, h5⟩
    · cases e
  · cases e
def intsTo (lo : Int) (n : Nat) : List D := (List.range n).map fun i => .int (lo + (i : Nat))
def iRange1 (a : EM) : IM := fun env st => match a env st with
  | some (.int j, s1) => if -(2 ^ 62) ≤ j ∧ j < 2 ^ 62 then some (intsTo 0 j.toNat, always, s1) else none
  | _ => none
def iRange2 (a b : EM) : IM := fun env st => match a env st with
  | some (.int i, s1) => match b env s1 with
    | some (.int j, s2) => if (-(2 ^ 62) ≤ i ∧ i < 2 ^ 62) ∧ (-(2 ^ 62) ≤ j ∧ j < 2 ^ 62) then some (intsTo i (j - i).toNat, always, s2) else none
    | _ => none
  | _ => none
theorem intsTo_get {lo : Int} {n i : Nat} {d : D} (h : (intsTo lo n)[i]? = some d) : i < n ∧ d = .int (lo + (i : Nat)) := by
  unfold intsTo at h
  rw [List.getElem?_map] at h
  by_cases hi : i < n
  · rw [List.getElem?_range hi] at h
    cases h
    exact ⟨hi, rfl⟩
  · rw [List.getElem?_eq_none (by simpa using hi)] at h
    cases h
theorem intsTo_len {lo : Int} {n : Nat} : (intsTo lo n).length = n := by simp [intsTo]
theorem itOk_range {lo : Int} {n : Nat} {ι0 : Lay} {H0 : Hp} : ItOk W (Itr lo n) ι0 H0 (intsTo lo n) always where
  go := fun i ι H st d g r k e => by
    obtain ⟨h1, rfl⟩ := intsTo_get e
    refine ⟨h1, fun x H' ⟨e1, e2⟩ => ?_⟩
    subst e1
    subst e2
    exact ⟨Grow.refl, r, by simp only [Rep]⟩
  stop := fun ι H st g r k => by
    rw [intsTo_len]
    exact Nat.le_refl n
theorem ji_range1 {tg a : Expr} {m : EM} {p : Pos} (hg : Gl X "range") (hm : X.mg "range" = none) (ha : PE X a (T W m)) (hs : starEach [a] X.env = [(false, eval a X.env)] := by rfl) : PI X tg (.Call (.Name "range" p) [a] [] pos) (TIm W (iRange1 m)) :=
  (pi_range1 hg hm (ja_cons ha ja_nil hs) hs).imp fun σ H R ⟨ι, st, env, ds, gd, st', r, n, e, k⟩ => by
    unfold iRange1 at e
    split at e
    · rename_i j s1 e1
      split at e
      · rename_i hz
        cases e
        refine TA.of r n (d := [.int j]) (st' := st') (by unfold aCons; rw [e1]; rfl) fun vs ι1 H1 g1 r1 p1 => ?_
        obtain ⟨v, u, rfl, h1, h2⟩ := p1.uncons
        have e3 := h2.nil_of
        subst e3
        simp only [Rep] at h1
        subst h1
        exact ⟨j, rfl, hz.1, hz.2, k _ ι1 H1 g1 r1 itOk_range⟩
      · cases e
    · cases e
theorem ji_range2 {tg a b : Expr} {m m2 : EM} {p : Pos} (hg : Gl X "range") (hm : X.mg "range" = none) (ha : PE X a (T W m)) (hb : PE X b (T W m2)) (hs : starEach [a, b] X.env = [(false, eval a X.env), (false, eval b X.env)] := by rfl) (hs2 : starEach [b] X.env = [(false, eval b X.env)] := by rfl) : PI X tg (.Call (.Name "range" p) [a, b] [] pos) (TIm W (iRange2 m m2)) :=
  (pi_range2 hg hm (ja_cons ha (ja_cons hb ja_nil hs2) (by rw [hs, hs2])) hs hs2).imp fun σ H R ⟨ι, st, env, ds, gd, st', r, n, e, k⟩ => by
    unfold iRange2 at e
    split at e
    · rename_i i s1 e1
      split at e
      · rename_i j s2 e2
        split at e
        · rename_i hz
          cases e
          refine TA.of r n (d := [.int i, .int j]) (st' := st') (by unfold aCons; rw [e1]; dsimp only; rw [e2]; rfl) fun vs ι1 H1 g1 r1 p1 => ?_
          obtain ⟨v, u, rfl, h1, h2⟩ := p1.uncons
          obtain ⟨v2, u2, rfl, h3, h4⟩ := h2.uncons
          have e3 := h4.nil_of
          subst e3
          simp only [Rep] at h1 h3
          subst h1
          subst h3
          exact ⟨i, j, rfl, ⟨hz.1.1, hz.1.2, hz.2.1, hz.2.2⟩, k _ ι1 H1 g1 r1 itOk_range⟩
        · cases e
      · cases e
    · cases e

/-! ### comprehensions -/
open Classical in
noncomputable def lcGo (gd : Store → Prop) (g : GM) (tt : TM) (el : EM) (env : Env) : List D → Store → Option (List D × Store)
  | [], st => if gd st then some ([], st) else none
  | d :: ds, st => if gd st then match g d env with
      | some e2 => match tt e2 st with
        | some (true, s1) => match el e2 s1 with
          | some (y, s2) => match lcGo gd g tt el env ds s2 with
            | some (ys, s3) => some (y :: ys, s3)
            | none => none
          | none => none
        | some (false, s1) => lcGo gd g tt el env ds s1
        | none => none
      | none => none
    else none
noncomputable def eLc (im : IM) (g : GM) (tt : TM) (el : EM) (vs : List Nat) : EM := fun env st => match im env st with
  | some (ds, gd, s1) => match lcGo gd g tt el (wipeE env vs) ds s1 with
    | some (ys, s2) => if ys.length ≤ sizeLine then some (.lst ys, s2) else none
    | none => none
  | none => none
def bYes : TM := fun _ st => some (true, st)
theorem lc_of {im : IM} {g : GM} {tt : TM} {el : EM} {vs : List Nat} {σ : L2.St} {H : Hp} {Q : VK} (h : T W (eLc im g tt el vs) σ H Q) : tLc (TIm W im) (TGm W g vs) (TB W tt) (T W el) vs σ H Q := by
  obtain ⟨ι, st, env, d, st', r, n, e, k⟩ := h
  unfold eLc at e
  split at e
  · rename_i ds gd s1 e1
    split at e
    · rename_i ys s2 e2
      split at e
      · rename_i hz
        cases e
        refine ⟨ι, st, env, ds, gd, s1, r, n, e1, fun J ι1 H1 g1 r1 ok L hL => ?_⟩
        have n1 := n.grow g1
        refine ⟨fun i m H => i + m = ds.length ∧ ∃ ι2 s acc rest vacc, Grow ι1 H1 ι2 H ∧ Gro ι1 H1 (ι2.hide L) H ∧ RelH W (ι2.hide L) H s ∧ H L = some (.lst vacc) ∧ Reps W (ι2.hide L) H acc vacc ∧ lcGo gd g tt el (wipeE env vs) (ds.drop i) s = some (rest, st') ∧ ys = acc ++ rest, ⟨ds.length, by omega, ι1, s1, [], ys, [], Grow.laid hL, Gro.hide hL, r1.hide hL, upd_same, Reps.nil, e2, rfl⟩, ?_⟩
        rintro i m H2 ⟨hm, ι2, s, acc, rest, vacc, g2, gg2, r2, hL2, hacc, hgo, hys⟩
        by_cases hi : i < ds.length
        · right
          have hd : ds.drop i = ds[i] :: ds.drop (i + 1) := List.drop_eq_getElem_cons hi
          rw [hd] at hgo
          unfold lcGo at hgo
          split at hgo
          · rename_i hgd
            obtain ⟨j1, j2⟩ := ok.go i _ H2 s _ gg2 r2 hgd (List.getElem?_eq_getElem hi)
            refine ⟨j1, fun H' => ∃ ι2 s acc rest vacc, Grow ι1 H1 ι2 H' ∧ Gro ι1 H1 (ι2.hide L) H' ∧ RelH W (ι2.hide L) H' s ∧ H' L = some (.lst vacc) ∧ Reps W (ι2.hide L) H' acc vacc ∧ lcGo gd g tt el (wipeE env vs) (ds.drop (i + 1)) s = some (rest, st') ∧ ys = acc ++ rest, fun H' nx => ⟨m - 1, by omega, by omega, nx⟩, fun x H3 hy => ?_⟩
            obtain ⟨g3, r3, p3⟩ := j2 x H3 hy
            split at hgo
            · rename_i e3 q3
              have n3 : REnv W (ι2.hide L) H3 (wipeE env vs) (L2.wipe σ vs) := ((n1.wipe vs).gro gg2).grow g3
              refine ⟨_, s, _, _, e3, r3, n3, p3, q3, fun σ2 n4 w4 => ⟨w4.trans ?_, ?_⟩⟩
              · exact wipe_wipe σ vs
              have hLk : L ∈ (ι2.hide L).k := List.mem_cons_self
              have hLc : L ∉ (ι2.hide L).c := fun z => r2.dis L z hLk
              split at hgo
              · rename_i s4 q4
                refine TB.of r3 n4 q4 fun ι4 H4 g4 r4 => ?_
                rw [if_pos rfl]
                split at hgo
                · rename_i y s5 q5
                  split at hgo
                  · rename_i ys' s6 q6
                    cases hgo
                    refine T.of r4 (n4.grow g4) q5 fun v ι5 H5 g5 r5 p5 => ?_
                    have hk5 : ι5.k = L :: ι2.k := (g5.hid.trans g4.hid)
                    have e5 : ι5 = (Lay.hide ⟨ι5.c, ι2.k⟩ L) := by
                      cases ι5
                      simp only [Lay.hide]
                      exact congrArg _ hk5
                    have gg : Grow (ι2.hide L) H2 ι5 H5 := (g3.trans g4).trans g5
                    have hL5 : H5 L = some (.lst vacc) := gg.keep _ _ (.inl hLc) hL2
                    have hacc5 := Reps.append (Reps.grow gg _ _ hacc) (Reps.cons p5 Reps.nil)
                    rw [e5] at r5 hacc5 gg
                    have l5 : acc.length + 1 ≤ ys.length := by rw [hys]; simp
                    refine ⟨vacc, hL5, by rw [← hacc.length]; omega, ⟨ι5.c, ι2.k⟩, s5, acc ++ [y], ys', vacc ++ [v], ?_, ?_, r5.over List.mem_cons_self hL5 trivial, upd_same, Reps.gro (Gro.over List.mem_cons_self hL5 trivial) _ _ hacc5, q6, by rw [hys]; simp⟩
                    · refine ⟨fun i a h => gg.pre i a (g2.pre i a h), fun a o nn h => ?_, fun a m => ?_, g2.hid⟩
                      · have := ne_of_none h hL
                        exact kp_set this (gg.keep a o (nn.imp (fun nn z => by
                          rcases g2.new a z with q | q
                          · exact nn q
                          · rw [h] at q; cases q) id) (g2.keep a o nn h))
                      · rcases gg.new a m with q | q
                        · exact g2.new a q
                        · by_cases hc : a ∈ ι1.c
                          · exact .inl hc
                          · refine .inr ?_
                            cases e : H1 a with
                            | none => rfl
                            | some o => rw [g2.keep a o (.inl hc) e] at q; cases q
                    · refine ⟨fun i a h => gg.pre i a (gg2.pre i a h), fun a o nn h => ?_, fun a o nn h => ?_⟩
                      · have := ne_of_none h hL
                        exact kp_set this (gg.gro.keep a o (nn.imp (fun nn => gg2.notin a o nn h) id) (gg2.keep a o nn h))
                      · exact gg.gro.notin a o (gg2.notin a o nn h) (gg2.keep a o (.inl nn) h)
                  · cases hgo
                · cases hgo
              · rename_i s4 q4
                refine TB.of r3 n4 q4 fun ι4 H4 g4 r4 => ?_
                rw [if_neg Bool.false_ne_true]
                have hk5 : ι4.k = L :: ι2.k := g4.hid
                have e5 : ι4 = (Lay.hide ⟨ι4.c, ι2.k⟩ L) := by
                  cases ι4
                  simp only [Lay.hide]
                  exact congrArg _ hk5
                have gg : Grow (ι2.hide L) H2 ι4 H4 := g3.trans g4
                have hL5 : H4 L = some (.lst vacc) := gg.keep _ _ (.inl hLc) hL2
                have hacc5 := Reps.grow gg _ _ hacc
                rw [e5] at r4 hacc5 gg
                refine ⟨⟨ι4.c, ι2.k⟩, s4, acc, rest, vacc, ?_, ?_, r4, hL5, hacc5, hgo, hys⟩
                · refine ⟨fun i a h => gg.pre i a (g2.pre i a h), fun a o nn h => ?_, fun a m => ?_, g2.hid⟩
                  · exact gg.keep a o (nn.imp (fun nn z => by
                      rcases g2.new a z with q | q
                      · exact nn q
                      · rw [h] at q; cases q) id) (g2.keep a o nn h)
                  · rcases gg.new a m with q | q
                    · exact g2.new a q
                    · by_cases hc : a ∈ ι1.c
                      · exact .inl hc
                      · refine .inr ?_
                        cases e : H1 a with
                        | none => rfl
                        | some o => rw [g2.keep a o (.inl hc) e] at q; cases q
                · refine ⟨fun i a h => gg.pre i a (gg2.pre i a h), fun a o nn h => ?_, fun a o nn h => ?_⟩
                  · exact gg.gro.keep a o (nn.imp (fun nn => gg2.notin a o nn h) id) (gg2.keep a o nn h)
                  · exact gg.gro.notin a o (gg2.notin a o nn h) (gg2.keep a o (.inl nn) h)
              · cases hgo
            · cases hgo
          · cases hgo
        · left
          have hie : i = ds.length := by omega
          subst hie
          rw [List.drop_length] at hgo
          unfold lcGo at hgo
          split at hgo
          · rename_i hgd
            cases hgo
            refine ⟨ok.stop _ H2 _ gg2 r2 hgd, ?_⟩
            rw [List.append_nil] at hys
            subst hys
            refine k _ ι2 H2 (g1.trans g2) r2.show ?_
            simp only [Rep]
            refine ⟨L, rfl, fun z => ?_, vacc, hL2, Reps.gro Gro.show _ _ hacc⟩
            rcases z with z | z
            · exact r2.dis L z List.mem_cons_self
            · rw [g2.hid] at z
              exact r1.free hL (.inr z)
          · cases hgo
      · cases e
    · cases e
  · cases e
where
  wipe_wipe (σ : L2.St) (vs : List Nat) : L2.wipe (L2.wipe σ vs) vs = L2.wipe σ vs := by
    have h : ∀ (us : List Nat) (τ : L2.St), (∀ v ∈ us, v ∈ vs) → L2.wipe (L2.wipe τ us) vs = L2.wipe τ vs := by
      intro us
      induction us with
      | nil => intro τ _; rfl
      | cons u us ih =>
        intro τ hu
        show L2.wipe ((L2.wipe τ us).set u none) vs = _
        rw [(wipe_set _ u none vs).1 (hu u List.mem_cons_self)]
        exact ih τ fun v hv => hu v (List.mem_cons_of_mem _ hv)
    exact h vs σ fun _ h => h
theorem jts_nil : PTs X [] (TB W bYes) := ⟨fun pins s σ H Q I ⟨ι, st, env, d, st', r, n, e, k⟩ => by
  cases e
  exact pts_nil.run pins s σ H Q I (k _ _ Grow.refl r)⟩
theorem jts_one {c : Expr} {m : TM} (h : PT X c (TB W m)) : PTs X [c] (TB W m) := pts_one h
theorem j_lc {elt tg iter : Expr} {ifs : List Expr} {scope : Scope} {own : List (Str × Nat)} {im : IM} {g : GM} {tt : TM} {el : EM} (hc : X.calm = true) (hN : X.N.Nodup) (hi : PI X tg iter (TIm W im)) (ok : BlkOk X.N X.env.scope scope own)
    (hg : ∀ (s : Shared) (H : Hp) (C : Addr) (cl : List (Str × Addr)) (fp : List Addr), PG (X.blk s H scope (compEnvC scope cl C X.env) fp) tg (TGm W g (own.map (·.2)))) (ht : ∀ (s : Shared) (H : Hp) (C : Addr) (cl : List (Str × Addr)) (fp : List Addr), PTs (X.blk s H scope (compEnvC scope cl C X.env) fp) ifs (TB W tt))
    (he : ∀ (s : Shared) (H : Hp) (C : Addr) (cl : List (Str × Addr)) (fp : List Addr), PE (X.blk s H scope (compEnvC scope cl C X.env) fp) elt (T W el)) (hs : ∀ x, foldedSetIterable iter X.env x = pure x := by intro _; rfl) :
    PE X (.ListComp elt [⟨tg, iter, ifs, 0⟩] scope pos) (T W (eLc im g tt el (own.map (·.2)))) := (pe_lc hc hN hi ok hg ht he hs).imp fun _ _ _ => lc_of
end
end My

namespace My
open PySem PySem.Spec PyProof.Rows L2

/-! ### the mirrors of statements -/
def sSkip : SM := fun env st => some (.nx env, st)
def sSeq (a b : SM) : SM := fun env st => match a env st with
  | some (.nx e, s1) => b e s1
  | r => r
def sSet (i : Nat) (m : EM) : SM := fun env st => match m env st with
  | some (d, s1) => some (.nx (env.set i (some d)), s1)
  | none => none
def sAsg (m : EM) (g : GM) : SM := fun env st => match m env st with
  | some (d, s1) => match g d env with
    | some e => some (.nx e, s1)
    | none => none
  | none => none
def sPar (i j : Nat) (a : AM) : SM := fun env st => match a env st with
  | some ([x, y], s1) => some (.nx ((env.set i (some x)).set j (some y)), s1)
  | _ => none
def sPar3 (i j l : Nat) (a : AM) : SM := fun env st => match a env st with
  | some ([x, y, z], s1) => some (.nx (((env.set i (some x)).set j (some y)).set l (some z)), s1)
  | _ => none
def sRet (m : EM) : SM := fun env st => match m env st with
  | some (d, s1) => some (.rt d, s1)
  | none => none
def sDrop (m : EM) : SM := fun env st => match m env st with
  | some (_, s1) => some (.nx env, s1)
  | none => none
def sIf (c : TM) (a b : SM) : SM := fun env st => match c env st with
  | some (true, s1) => a env s1
  | some (false, s1) => b env s1
  | none => none
def sBrk : SM := fun env st => some (.bk env, st)
def sCnt : SM := fun env st => some (.ct env, st)
def sAug (i : Nat) (f : D → D → Store → Option D) (m : EM) : SM := fun env st => match env[i]? with
  | some (some x) => match m env st with
    | some (y, s1) => match f x y s1 with
      | some z => some (.nx (env.set i (some z)), s1)
      | none => none
    | none => none
  | _ => none
/-- o[i] = v: the value, the object, the index -/
def sSub (f : D → D → D → Store → Option Store) (mo mi mv : EM) : SM := fun env st => match mv env st with
  | some (v, s1) => match mo env s1 with
    | some (o, s2) => match mi env s2 with
      | some (i, s3) => match f o i v s3 with
        | some s4 => some (.nx env, s4)
        | none => none
      | none => none
    | none => none
  | none => none
open Classical in
noncomputable def forGo (gd : Store → Prop) (g : GM) (body : SM) : List D → Env → Store → Option (Out × Store)
  | [], env, st => if gd st then some (.nx env, st) else none
  | d :: ds, env, st => if gd st then match g d env with
      | some e1 => match body e1 st with
        | some (.nx e2, s2) => forGo gd g body ds e2 s2
        | some (.ct e2, s2) => forGo gd g body ds e2 s2
        | some (.bk e2, s2) => some (.nx e2, s2)
        | some (.rt d, s2) => some (.rt d, s2)
        | none => none
      | none => none
    else none
noncomputable def sFor (im : IM) (g : GM) (body : SM) : SM := fun env st => match im env st with
  | some (ds, gd, s1) => forGo gd g body ds env s1
  | none => none
def whileGo (c : TM) (body : SM) : Nat → Env → Store → Option (Out × Store)
  | 0, _, _ => none
  | n + 1, env, st => match c env st with
    | some (true, s1) => match body env s1 with
      | some (.nx e2, s2) => whileGo c body n e2 s2
      | some (.ct e2, s2) => whileGo c body n e2 s2
      | some (.bk e2, s2) => some (.nx e2, s2)
      | some (.rt d, s2) => some (.rt d, s2)
      | none => none
    | some (false, s1) => some (.nx env, s1)
    | none => none
def sWhile (fuel : Nat) (c : TM) (body : SM) : SM := whileGo c body fuel
def M3 (W : Wd) (f : D → D → D → Store → Option Store) : TSet := fun o i v H Q => ∃ ι st a b c st', RelH W ι H st ∧ Rep W ι H a o ∧ Rep W ι H b i ∧ Rep W ι H c v ∧ f a b c st = some st' ∧ ∀ ι' H', Grow ι H ι' H' → RelH W ι' H' st' → Q H'

section
variable {X : Cx} {W : Wd} {pos : Pos} {e : Expr} {m : EM} {a b : SM}
theorem TSt.of {m : SM} {σ : L2.St} {H : Hp} {D : Ends} {ι : Lay} {st st' : Store} {env : Env} {o : Out} (r : RelH W ι H st) (n : REnv W ι H env σ) (e : m env st = some (o, st')) (k : OkS W ι H o st' D) : TSt W m D σ H := ⟨ι, st, env, o, st', r, n, e, k⟩
theorem OkN.now {env : Env} {st : Store} {Q : L2.St → Hp → Prop} {ι : Lay} {H : Hp} {σ : L2.St} (k : OkN W ι H env st Q) (r : RelH W ι H st) (n : REnv W ι H env σ) : Q σ H := k σ ι H Grow.refl r n
theorem jb_nil : PSs X [] (TSt W sSkip) := pss_nil.imp fun D σ H ⟨ι, st, env, o, st', r, n, e, k⟩ => by
  cases e
  exact OkN.now (env := env) k r n
theorem seq_of {D : Ends} {σ : L2.St} {H : Hp} (h : TSt W (sSeq a b) D σ H) : tSeq (TSt W a) (TSt W b) D σ H := by
  obtain ⟨ι, st, env, o, st', r, n, e, k⟩ := h
  unfold sSeq at e
  rcases q : a env st with _ | ⟨o1, s1⟩
  · rw [q] at e; cases e
  · rw [q] at e
    cases o1 with
    | nx e1 => exact TSt.of r n q fun σ' ι' H' g r' n' => TSt.of r' n' e (OkS.go k g)
    | rt d => cases e; exact TSt.of r n q k
    | bk e1 => cases e; exact TSt.of r n q k
    | ct e1 => cases e; exact TSt.of r n q k
theorem jb_cons {st : Stmt} {rest : List Stmt} (h1 : PS X st (TSt W a)) (h2 : PSs X rest (TSt W b)) : PSs X (st :: rest) (TSt W (sSeq a b)) := (pss_cons h1 h2).imp fun _ _ _ => seq_of
theorem jb_one {st : Stmt} (h1 : PS X st (TSt W a)) : PSs X [st] (TSt W a) := pss_one h1
theorem js_doc {x j pos pos'} : PS X (.Expr (.Constant (.str x) j pos) pos') (TSt W sSkip) := ps_doc.imp fun D σ H ⟨ι, st, env, o, st', r, n, e, k⟩ => by
  cases e
  exact OkN.now (env := env) k r n
theorem js_pass : PS X (.Pass pos) (TSt W sSkip) := ps_pass.imp fun D σ H ⟨ι, st, env, o, st', r, n, e, k⟩ => by
  cases e
  exact OkN.now (env := env) k r n
theorem js_break : PS X (.Break pos) (TSt W sBrk) := ps_break.imp fun D σ H ⟨ι, st, env, o, st', r, n, e, k⟩ => by
  cases e
  exact OkN.now (env := env) k r n
theorem js_continue : PS X (.Continue pos) (TSt W sCnt) := ps_continue.imp fun D σ H ⟨ι, st, env, o, st', r, n, e, k⟩ => by
  cases e
  exact OkN.now (env := env) k r n
theorem set_of {i : Nat} {D : Ends} {σ : L2.St} {H : Hp} (h : TSt W (sSet i m) D σ H) : tAsg (T W m) (gName i) D σ H := by
  obtain ⟨ι, st, env, o, st', r, n, e, k⟩ := h
  unfold sSet at e
  split at e
  · rename_i d s1 q
    cases e
    exact T.of r n q fun v ι1 H1 g1 r1 p1 => k _ _ _ g1 r1 ((n.grow g1).set i p1)
  · cases e
theorem js_set {i : Nat} {x : Str} {e : Expr} {pos' : Pos} (hN : X.N.Nodup) (hi : X.N[i]? = some x) (hx : Loc X.env.scope x) (he : PE X e (T W m)) (hs : swapsWith e (some (.Name x pos')) pos.line X.env = pure false := by rfl) (hf : X.fn x = true ∨ X.env.scope.names.lookup x = some .local := by first | exact .inl rfl | exact .inr rfl | assumption) :
    PS X (.Assign [.Name x pos'] e pos) (TSt W (sSet i m)) := (ps_set hN hi hx he hs hf).imp fun _ _ _ => set_of
theorem js_setLc {i : Nat} {y : Str} {py : Pos} {elt tg iter : Expr} {ifs : List Expr} {scope : Scope} {own : List (Str × Nat)} {pos spos : Pos} {im : IM} {g : GM} {tt : TM} {el : EM} (hc : X.calm = true) (hN : X.N.Nodup) (hy : X.N[i]? = some y) (hyl : X.env.scope.names.lookup y = some .local)
    (hsw : swapsWith (.ListComp elt [⟨tg, iter, ifs, 0⟩] scope pos) (some (.Name y py)) spos.line X.env = pure true) (hi : PI X tg iter (TIm W im)) (ok : BlkOk X.N X.env.scope scope own)
    (hg : ∀ (s : Shared) (H : Hp) (C : Addr) (cl : List (Str × Addr)) (fp : List Addr), PG (X.blk s H scope (compEnvC scope cl C X.env) fp) tg (TGm W g (own.map (·.2)))) (ht : ∀ (s : Shared) (H : Hp) (C : Addr) (cl : List (Str × Addr)) (fp : List Addr), PTs (X.blk s H scope (compEnvC scope cl C X.env) fp) ifs (TB W tt))
    (he : ∀ (s : Shared) (H : Hp) (C : Addr) (cl : List (Str × Addr)) (fp : List Addr), PE (X.blk s H scope (compEnvC scope cl C X.env) fp) elt (T W el)) (hs : ∀ x, foldedSetIterable iter X.env x = pure x := by intro _; rfl) :
    PS X (.Assign [.Name y py] (.ListComp elt [⟨tg, iter, ifs, 0⟩] scope pos) spos) (TSt W (sSet i (eLc im g tt el (own.map (·.2))))) := (ps_setLc hc hN hy hyl hsw hi ok hg ht he hs).imp fun D σ H h => by
  have h2 : T W (eLc im g tt el (own.map (·.2))) σ H fun x H1 => gName i x σ H1 D.nx := set_of h
  exact lc_of h2
theorem js_asg {tg e : Expr} {g : GM} {vs : List Nat} (he : PE X e (T W m)) (hg : PG X tg (TGm W g vs)) (hs : swapsWithSole [tg] e pos.line X.env = pure false := by rfl) (hw : swappedStores [tg] e X.env = pure none := by rfl)
    (h1 : (assignEach [tg] X.env).map (·.2) = [assign tg X.env] := by rfl) : PS X (.Assign [tg] e pos) (TSt W (sAsg m g)) := (ps_asg he hg hs hw h1).imp fun D σ H ⟨ι, st, env, o, st', r, n, e, k⟩ => by
  unfold sAsg at e
  split at e
  · rename_i d s1 q
    split at e
    · rename_i e1 q1
      cases e
      exact T.of r n q fun v ι1 H1 g1 r1 p1 => ⟨ι1, _, env, d, e1, r1, n.grow g1, p1, q1, fun σ' n' _ => k _ _ _ g1 r1 n'⟩
    · cases e
  · cases e
theorem js_par {i j : Nat} {x y : Str} {a b : Expr} {ma : AM} {px py pt : Pos} {kt k2 pt2} (hc : X.calm = true) (hN : X.N.Nodup) (hi : X.N[i]? = some x) (hj : X.N[j]? = some y) (hij : i ≠ j)
    (hx : X.env.scope.names.lookup x = some .local) (hy : X.env.scope.names.lookup y = some .local) (ha : PA X [a, b] (TAs W ma))
    (hw : swappedStores [.Tuple [.Name x px, .Name y py] kt pt] (.Tuple [a, b] k2 pt2) X.env = pure (some [x, y]))
    (hs : swapsWithSole [.Tuple [.Name x px, .Name y py] kt pt] (.Tuple [a, b] k2 pt2) pos.line X.env = pure false := by rfl) :
    PS X (.Assign [.Tuple [.Name x px, .Name y py] kt pt] (.Tuple [a, b] k2 pt2) pos) (TSt W (sPar i j ma)) := (ps_par hc hN hi hj hij hx hy ha hw hs).imp fun D σ H ⟨ι, st, env, o, st', r, n, e, k⟩ => by
  unfold sPar at e
  split at e
  · rename_i u v s1 q
    cases e
    refine TA.of r n q fun vs ι1 H1 g1 r1 p1 => ?_
    obtain ⟨v1, u1, rfl, h1, h2⟩ := p1.uncons
    obtain ⟨v2, u2, rfl, h3, h4⟩ := h2.uncons
    have e3 := h4.nil_of
    subst e3
    exact ⟨v1, v2, rfl, k _ _ _ g1 r1 (((n.grow g1).set i h1).set j h3)⟩
  · cases e
theorem js_par3 {i j l : Nat} {x y z : Str} {a b c : Expr} {ma : AM} {px py pz pt pos : Pos} {kt k2 pt2} (hc : X.calm = true) (hN : X.N.Nodup) (hi : X.N[i]? = some x) (hj : X.N[j]? = some y) (hl : X.N[l]? = some z) (hij : i ≠ j) (hil : i ≠ l) (hjl : j ≠ l)
    (hx : X.env.scope.names.lookup x = some .local) (hy : X.env.scope.names.lookup y = some .local) (hz : X.env.scope.names.lookup z = some .local) (ha : PA X [a, b, c] (TAs W ma))
    (hw : swappedStores [.Tuple [.Name x px, .Name y py, .Name z pz] kt pt] (.Tuple [a, b, c] k2 pt2) X.env = pure (some [x, y, z]))
    (hs : swapsWithSole [.Tuple [.Name x px, .Name y py, .Name z pz] kt pt] (.Tuple [a, b, c] k2 pt2) pos.line X.env = pure false := by rfl) :
    PS X (.Assign [.Tuple [.Name x px, .Name y py, .Name z pz] kt pt] (.Tuple [a, b, c] k2 pt2) pos) (TSt W (sPar3 i j l ma)) := (ps_par3 hc hN hi hj hl hij hil hjl hx hy hz ha hw hs).imp fun D σ H ⟨ι, st, env, o, st', r, n, e, k⟩ => by
  unfold sPar3 at e
  split at e
  · rename_i u v w s1 q
    cases e
    refine TA.of r n q fun vs ι1 H1 g1 r1 p1 => ?_
    obtain ⟨v1, u1, rfl, h1, h2⟩ := p1.uncons
    obtain ⟨v2, u2, rfl, h3, h4⟩ := h2.uncons
    obtain ⟨v3, u3, rfl, h5, h6⟩ := h4.uncons
    have e3 := h6.nil_of
    subst e3
    exact ⟨v1, v2, v3, rfl, k _ _ _ g1 r1 ((((n.grow g1).set i h1).set j h3).set l h5)⟩
  · cases e
theorem js_ret (he : PE X e (T W m)) : PS X (.Return (some e) pos) (TSt W (sRet m)) := (ps_ret he).imp fun D σ H ⟨ι, st, env, o, st', r, n, e, k⟩ => by
  unfold sRet at e
  split at e
  · rename_i d s1 q
    cases e
    exact T.of r n q k
  · cases e
theorem js_retN : PS X (.Return none pos) (TSt W (sRet (eC .non))) := ps_retN.imp fun D σ H ⟨ι, st, env, o, st', r, n, e, k⟩ => by
  cases e
  exact OkE.now (d := .non) k r (by simp only [Rep])
theorem js_expr (he : PE X e (T W m)) (hs : swapsWith e none pos.line X.env = pure false := by rfl) : PS X (.Expr e pos) (TSt W (sDrop m)) := (ps_expr he hs).imp fun D σ H ⟨ι, st, env, o, st', r, n, e, k⟩ => by
  unfold sDrop at e
  split at e
  · rename_i d s1 q
    cases e
    exact T.of r n q fun v ι1 H1 g1 r1 p1 => k _ _ _ g1 r1 (n.grow g1)
  · cases e
theorem js_if {c : Expr} {ss1 ss2 : List Stmt} {tc : TM} (hc : PT X c (TB W tc)) (ha : PSs X ss1 (TSt W a)) (hb : PSs X ss2 (TSt W b)) : PS X (.If c ss1 ss2 pos) (TSt W (sIf tc a b)) := (ps_if hc ha hb).imp fun D σ H ⟨ι, st, env, o, st', r, n, e, k⟩ => by
  unfold sIf at e
  split at e
  · rename_i s1 q
    exact TB.of r n q fun ι1 H1 g1 r1 => (if_pos rfl).mpr (TSt.of r1 (n.grow g1) e (OkS.go k g1))
  · rename_i s1 q
    exact TB.of r n q fun ι1 H1 g1 r1 => (if_neg Bool.false_ne_true).mpr (TSt.of r1 (n.grow g1) e (OkS.go k g1))
  · cases e
theorem js_aug {i : Nat} {x : Str} {e : Expr} {op : Operator} {f : D → D → Store → Option D} {pos' : Pos} (hN : X.N.Nodup) (hi : X.N[i]? = some x) (hx : Loc X.env.scope x) (he : PE X e (T W m)) (ho : PIp X op (M2 W f)) (hf : X.fn x = true ∨ X.env.scope.names.lookup x = some .local := by first | exact .inl rfl | exact .inr rfl | assumption) :
    PS X (.AugAssign (.Name x pos') op e pos) (TSt W (sAug i f m)) := (ps_aug hN hi hx he ho hf).imp fun D σ H ⟨ι, st, env, o, st', r, n, e, k⟩ => by
  unfold sAug at e
  split at e
  · rename_i x q0
    split at e
    · rename_i y s1 q
      split at e
      · rename_i z q1
        cases e
        obtain ⟨v, h1, h2⟩ := n.get i x q0
        exact ⟨v, h1, T.of r n q fun u ι1 H1 g1 r1 p1 => ⟨ι1, _, x, y, z, r1, Rep.grow g1 _ _ h2, p1, q1, fun w ι2 H2 g2 r2 p2 => k _ _ _ (g1.trans g2) r2 ((n.grow (g1.trans g2)).set i p2)⟩⟩
      · cases e
    · cases e
  · cases e
theorem js_sub {o i value : Expr} {mo mi mv : EM} {f : D → D → D → Store → Option Store} {pos' : Pos} (hv : PE X value (T W mv)) (ho : PE X o (T W mo)) (hi : PE X i (T W mi)) (hs : PSet X (M3 W f))
    (ha : ∀ v, assign (.Subscript o i pos') X.env v = (do
      let ov ← holding [v] (eval o X.env)
      let iv ← holding [v, ov] (eval i X.env)
      standAt pos'
      holding [v, ov, iv] (setItem ov iv v)
      release [v, ov, iv] []) := by intro _; rfl)
    (h1 : swapsWithSole [.Subscript o i pos'] value pos.line X.env = pure false := by rfl) (hw : swappedStores [.Subscript o i pos'] value X.env = pure none := by rfl)
    (h2 : (assignEach [.Subscript o i pos'] X.env).map (·.2) = [assign (.Subscript o i pos') X.env] := by rfl) : PS X (.Assign [.Subscript o i pos'] value pos) (TSt W (sSub f mo mi mv)) :=
  (ps_asg hv (pg_sub ho hi hs ha) h1 hw h2).imp fun D σ H ⟨ι, st, env, o, st', r, n, e, k⟩ => by
  unfold sSub at e
  split at e
  · rename_i v s1 q1
    split at e
    · rename_i o s2 q2
      split at e
      · rename_i i s3 q3
        split at e
        · rename_i s4 q4
          cases e
          exact T.of r n q1 fun x1 ι1 H1 g1 r1 p1 => T.of r1 (n.grow g1) q2 fun x2 ι2 H2 g2 r2 p2 => T.of r2 ((n.grow g1).grow g2) q3 fun x3 ι3 H3 g3 r3 p3 =>
            ⟨ι3, s3, o, i, v, _, r3, Rep.grow g3 _ _ p2, p3, Rep.grow g3 _ _ (Rep.grow g2 _ _ p1), q4, fun ι4 H4 g4 r4 => k _ _ _ (((g1.trans g2).trans g3).trans g4) r4 ((((n.grow g1).grow g2).grow g3).grow g4)⟩
        · cases e
      · cases e
    · cases e
  · cases e

/-! ### loops -/
theorem js_for {tg iter : Expr} {body : List Stmt} {im : IM} {g : GM} {bm : SM} {vs : List Nat} (hp : PassesOwn (model X.prog X.w) X.A X.env X.xe) (hc : X.calm = true) (hi : PI X tg iter (TIm W im)) (hg : PG X tg (TGm W g vs)) (hb : PSs X body (TSt W bm)) (hs : ∀ x, foldedSetIterable iter X.env x = pure x := by intro _; rfl) : PS X (.For tg iter body [] pos) (TSt W (sFor im g bm)) :=
  (ps_for hp hc hi hg hb hs).imp fun D σ H ⟨ι, st, env, o, st', r, n, e, k⟩ => by
  unfold sFor at e
  split at e
  · rename_i ds gd s1 q
    refine ⟨ι, st, env, ds, gd, s1, r, n, q, fun J ι1 H1 g1 r1 ok => ?_⟩
    have k1 := OkS.go k g1
    refine ⟨fun i m σ H => i + m = ds.length ∧ ∃ ι2 s env2, Grow ι1 H1 ι2 H ∧ RelH W ι2 H s ∧ REnv W ι2 H env2 σ ∧ forGo gd g bm (ds.drop i) env2 s = some (o, st'), ⟨ds.length, by omega, ι1, s1, env, Grow.refl, r1, n.grow g1, e⟩, ?_⟩
    rintro i m σ2 H2 ⟨hm, ι2, s, env2, g2, r2, n2, hgo⟩
    by_cases hi : i < ds.length
    · right
      have hd : ds.drop i = ds[i] :: ds.drop (i + 1) := List.drop_eq_getElem_cons hi
      rw [hd] at hgo
      unfold forGo at hgo
      split at hgo
      · rename_i hgd
        obtain ⟨j1, j2⟩ := ok.go i _ H2 s _ g2.gro r2 hgd (List.getElem?_eq_getElem hi)
        refine ⟨j1, fun σ H => ∃ ι2 s env2, Grow ι1 H1 ι2 H ∧ RelH W ι2 H s ∧ REnv W ι2 H env2 σ ∧ forGo gd g bm (ds.drop (i + 1)) env2 s = some (o, st'), fun σ' H' nx => ⟨m - 1, by omega, by omega, nx⟩, fun x H3 hy => ?_⟩
        obtain ⟨g3, r3, p3⟩ := j2 x H3 hy
        split at hgo
        · rename_i e1 q1
          refine ⟨_, s, _, _, e1, r3, n2.grow g3, p3, q1, fun σ4 n4 _ => ?_⟩
          split at hgo
          · rename_i e2 s2 q2
            exact TSt.of r3 n4 q2 fun σ5 ι5 H5 g5 r5 n5 => ⟨ι5, s2, e2, (g2.trans g3).trans g5, r5, n5, hgo⟩
          · rename_i e2 s2 q2
            exact TSt.of r3 n4 q2 fun σ5 ι5 H5 g5 r5 n5 => ⟨ι5, s2, e2, (g2.trans g3).trans g5, r5, n5, hgo⟩
          · rename_i e2 s2 q2
            cases hgo
            exact TSt.of r3 n4 q2 fun σ5 ι5 H5 g5 r5 n5 => k1 _ _ _ ((g2.trans g3).trans g5) r5 n5
          · rename_i d s2 q2
            cases hgo
            exact TSt.of r3 n4 q2 fun v ι5 H5 g5 r5 n5 => k1 _ _ _ ((g2.trans g3).trans g5) r5 n5
          · cases hgo
        · cases hgo
      · cases hgo
    · left
      have hie : i = ds.length := by omega
      subst hie
      rw [List.drop_length] at hgo
      unfold forGo at hgo
      split at hgo
      · rename_i hgd
        cases hgo
        exact ⟨ok.stop _ H2 _ g2.gro r2 hgd, k1 _ _ _ g2 r2 n2⟩
      · cases hgo
  · cases e
theorem js_while {fuel : Nat} {c : Expr} {body : List Stmt} {tc : TM} {bm : SM} (hp : PassesOwn (model X.prog X.w) X.A X.env X.xe) (hc : PT X c (TB W tc)) (hb : PSs X body (TSt W bm)) : PS X (.While c body [] pos) (TSt W (sWhile fuel tc bm)) :=
  (ps_while hp hc hb).imp fun D σ H ⟨ι, st, env, o, st', r, n, e, k⟩ => by
  unfold sWhile at e
  refine ⟨fun m σ H2 => ∃ ι2 s env2, Grow ι H ι2 H2 ∧ RelH W ι2 H2 s ∧ REnv W ι2 H2 env2 σ ∧ whileGo tc bm m env2 s = some (o, st'), ⟨fuel, ι, st, env, Grow.refl, r, n, e⟩, ?_⟩
  rintro m σ2 H2 ⟨ι2, s, env2, g2, r2, n2, hgo⟩
  cases m with
  | zero => cases hgo
  | succ m =>
    unfold whileGo at hgo
    split at hgo
    · rename_i s1 q1
      refine TB.of r2 n2 q1 fun ι3 H3 g3 r3 => ?_
      rw [if_pos rfl]
      refine ⟨fun σ H4 => ∃ ι2 s env2, Grow ι H ι2 H4 ∧ RelH W ι2 H4 s ∧ REnv W ι2 H4 env2 σ ∧ whileGo tc bm m env2 s = some (o, st'), fun σ' H' nx => ⟨m, Nat.lt_succ_self m, nx⟩, ?_⟩
      have n3 := n2.grow g3
      split at hgo
      · rename_i e2 s2 q2
        exact TSt.of r3 n3 q2 fun σ5 ι5 H5 g5 r5 n5 => ⟨ι5, s2, e2, (g2.trans g3).trans g5, r5, n5, hgo⟩
      · rename_i e2 s2 q2
        exact TSt.of r3 n3 q2 fun σ5 ι5 H5 g5 r5 n5 => ⟨ι5, s2, e2, (g2.trans g3).trans g5, r5, n5, hgo⟩
      · rename_i e2 s2 q2
        cases hgo
        exact TSt.of r3 n3 q2 fun σ5 ι5 H5 g5 r5 n5 => k _ _ _ ((g2.trans g3).trans g5) r5 n5
      · rename_i d s2 q2
        cases hgo
        exact TSt.of r3 n3 q2 fun v ι5 H5 g5 r5 n5 => k _ _ _ ((g2.trans g3).trans g5) r5 n5
      · cases hgo
    · rename_i s1 q1
      cases hgo
      refine TB.of r2 n2 q1 fun ι3 H3 g3 r3 => ?_
      rw [if_neg Bool.false_ne_true]
      exact k _ _ _ (g2.trans g3) r3 (n2.grow g3)
    · cases hgo
end

/-! ### defs -/
mutual
def D.blw (n : Nat) : D → Bool
  | .tup ds => D.blws n ds
  | .tpf ds => D.blws n ds
  | .lst ds => D.blws n ds
  | .dk _ ds => D.blws n ds
  | .dt _ ds => D.blws n ds
  | .ins _ _ ds => D.blws n ds
  | .ref i => decide (i < n)
  | _ => true
def D.blws (n : Nat) : List D → Bool
  | [] => true
  | d :: ds => D.blw n d && D.blws n ds
end
section
variable {W : Wd} {ι : Lay} {H : Hp} {st : Store}
mutual
theorem fz_blw {lk : Nat → Option D} {n : Nat} (h : ∀ i, i < n → lk i = some (.ref i)) : ∀ d : D, d.blw n = true → fz lk d = some d
  | .non, _ => by simp only [fz]
  | .bl _, _ => by simp only [fz]
  | .int _, _ => by simp only [fz]
  | .str _, _ => by simp only [fz]
  | .ty _, _ => by simp only [fz]
  | .cls _, _ => by simp only [fz]
  | .scr _, _ => by simp only [fz]
  | .set _, _ => by simp only [fz]
  | .ref i, e => by simp only [D.blw, decide_eq_true_eq] at e; simp only [fz]; exact h i e
  | .tup ds, e => by simp only [D.blw] at e; simp only [fz, fzs_blw h ds e, Option.map_some]
  | .tpf ds, e => by simp only [D.blw] at e; simp only [fz, fzs_blw h ds e, Option.map_some]
  | .lst ds, e => by simp only [D.blw] at e; simp only [fz, fzs_blw h ds e, Option.map_some]
  | .dk _ ds, e => by simp only [D.blw] at e; simp only [fz, fzs_blw h ds e, Option.map_some]
  | .dt _ ds, e => by simp only [D.blw] at e; simp only [fz, fzs_blw h ds e, Option.map_some]
  | .ins _ _ ds, e => by simp only [D.blw] at e; simp only [fz, fzs_blw h ds e, Option.map_some]
theorem fzs_blw {lk : Nat → Option D} {n : Nat} (h : ∀ i, i < n → lk i = some (.ref i)) : ∀ ds : List D, D.blws n ds = true → fzs lk ds = some ds
  | [], _ => by simp only [fzs]
  | d :: ds, e => by
    simp only [D.blws, Bool.and_eq_true] at e
    simp only [fzs, fz_blw h d e.1, fzs_blw h ds e.2, Option.map_some]
end
theorem lkc_lt {n k i : Nat} (h : i < n) : lkc st n k i = some (.ref i) := by
  cases k with
  | zero => simp only [lkc, if_pos h]
  | succ k => simp only [lkc, if_pos h]
mutual
theorem blw_of : ∀ (d : D) (v : V), Rep W ι H d v → d.blw ι.c.length = true
  | .non, _, _ => by simp only [D.blw]
  | .bl _, _, _ => by simp only [D.blw]
  | .int _, _, _ => by simp only [D.blw]
  | .str _, _, _ => by simp only [D.blw]
  | .ty _, _, _ => by simp only [D.blw]
  | .cls _, _, _ => by simp only [D.blw]
  | .scr _, _, _ => by simp only [D.blw]
  | .set _, _, _ => by simp only [D.blw]
  | .ref i, _, h => by
    simp only [Rep] at h
    obtain ⟨a, _, h⟩ := h
    simp only [D.blw, decide_eq_true_eq]
    exact (List.getElem?_eq_some_iff.mp h).1
  | .tup ds, _, h => by simp only [Rep] at h; obtain ⟨a, _, vs, _, h⟩ := h; simp only [D.blw]; exact blws_of ds vs h
  | .tpf ds, _, h => by simp only [Rep] at h; obtain ⟨a, _, o, vs, _, _, h⟩ := h; simp only [D.blw]; exact blws_of ds vs h
  | .lst ds, _, h => by simp only [Rep] at h; obtain ⟨a, _, _, vs, _, h⟩ := h; simp only [D.blw]; exact blws_of ds vs h
  | .dk _ ds, _, h => by simp only [Rep] at h; obtain ⟨a, _, _, vs, _, _, h⟩ := h; simp only [D.blw]; exact blws_of ds vs h
  | .dt _ ds, _, h => by simp only [Rep] at h; obtain ⟨a, _, _, vs, _, _, h⟩ := h; simp only [D.blw]; exact blws_of ds vs h
  | .ins _ _ ds, _, h => by simp only [Rep] at h; obtain ⟨a, _, _, _, vs, _, _, h⟩ := h; simp only [D.blw]; exact blws_of ds vs h
theorem blws_of : ∀ (ds : List D) (vs : List V), Reps W ι H ds vs → D.blws ι.c.length ds = true
  | [], _, _ => by simp only [D.blws]
  | d :: ds, _, h => by
    obtain ⟨v, r, rfl, h1, h2⟩ := h.uncons
    simp only [D.blws, Bool.and_eq_true]
    exact ⟨blw_of d v h1, blws_of ds r h2⟩
end
/-- a cell's content with refs below n -/
def cellBlw (n : Nat) : D → Bool := D.blw n
theorem cell_blw {a : Addr} {c : D} (h : CellOk W ι H a c) : c.blw ι.c.length = true := by
  cases c with
  | lst ds => obtain ⟨vs, _, h⟩ := h; simp only [D.blw]; exact blws_of ds vs h
  | dk ks ds => obtain ⟨vs, _, _, h⟩ := h; simp only [D.blw]; exact blws_of ds vs h
  | dt ks ds => obtain ⟨vs, _, _, h⟩ := h; simp only [D.blw]; exact blws_of ds vs h
  | set ns => simp only [D.blw]
  | ins n fs ds => obtain ⟨dx, vs, _, _, h⟩ := h; simp only [D.blw]; exact blws_of ds vs h
  | _ => exact h.elim
theorem reps_cut (r : RelH W ι H st) (n : Nat) {ds : List D} {vs : List V} (h : Reps W ι H ds vs) (b : D.blws n ds = true) : Reps W (ι.cut n) H ds vs :=
  fzs_ok (fun a (m : (ι.cut n).has a) => (show ι.has a from Or.imp (List.mem_of_mem_take (i := n)) id m)) (fun i a d' => lkc_ok r n 0 i a d') ds ds vs (fzs_blw (fun i hi => lkc_lt hi) ds b) h
theorem cell_cut (r : RelH W ι H st) (n : Nat) {a : Addr} {c : D} (h : CellOk W ι H a c) (b : c.blw n = true) : CellOk W (ι.cut n) H a c := by
  cases c with
  | lst ds => obtain ⟨vs, e, h⟩ := h; simp only [D.blw] at b; exact ⟨vs, e, reps_cut r n h b⟩
  | dk ks ds => obtain ⟨vs, e, l, h⟩ := h; simp only [D.blw] at b; exact ⟨vs, e, l, reps_cut r n h b⟩
  | dt ks ds => obtain ⟨vs, e, l, h⟩ := h; simp only [D.blw] at b; exact ⟨vs, e, l, reps_cut r n h b⟩
  | set ns => exact h
  | ins n fs ds => obtain ⟨dx, vs, e, l, h⟩ := h; simp only [D.blw] at b; exact ⟨dx, vs, e, l, reps_cut r _ h b⟩
  | _ => exact h.elim
end
/-- the caller's cells: as they were, or without a number of the callee's -/
def closeOk (st st1 : Store) : Prop := ∀ i, i < st.length → ∃ c, st1[i]? = some c ∧ (st[i]? = some c ∨ c.blw st.length = true)
open Classical in
/-- the callee's own cells are dropped: what it hands back is told as a tree -/
noncomputable def fin (st : Store) (r : D) (s1 : Store) : Option (D × Store) := match fz (lkc s1 st.length 3) r with
  | some r' => if closeOk st s1 then some (r', s1.take st.length) else none
  | none => none
def enter (N : Nat) (ds : List D) : Env := ds.map some ++ List.replicate (N - ds.length) none
noncomputable def mkF (N : Nat) (body : SM) : FM := fun ds st => match body (enter N ds) st with
  | some (.rt r, s1) => fin st r s1
  | some (.nx _, s1) => fin st .non s1
  | _ => none
/-- the callee's own cells stay -/
def mkK (N : Nat) (body : SM) : FM := fun ds st => match body (enter N ds) st with
  | some (.rt r, s1) => some (r, s1)
  | some (.nx _, s1) => some (.non, s1)
  | _ => none
def spM (W : Wd) (n : Nat) (F : FM) : Sp := fun vs H Q _ => ∃ ι st ds d st', RelH W ι H st ∧ Reps W ι H ds vs ∧ ds.length = n ∧ F ds st = some (d, st') ∧ OkE W ι H d st' Q
section
variable {W : Wd} {ι ι1 : Lay} {H H1 : Hp} {st s1 : Store}
theorem close_ok (r : RelH W ι H st) (g : Grow ι H ι1 H1) (r1 : RelH W ι1 H1 s1) (c : closeOk st s1) : ι1.cut st.length = ι ∧ Grow ι H ι H1 ∧ RelH W ι H1 (s1.take st.length) := by
  have ec : ι1.c.take st.length = ι.c := by
    apply List.ext_getElem?
    intro i
    by_cases hi : i < st.length
    · rw [take_get _ hi]
      have hl : i < ι.c.length := by rw [r.len]; exact hi
      rw [List.getElem?_eq_getElem hl]
      exact g.pre i _ (List.getElem?_eq_getElem hl)
    · rw [List.getElem?_eq_none (by rw [List.length_take]; omega), List.getElem?_eq_none (by rw [r.len]; omega)]
  have e : ι1.cut st.length = ι := by
    cases ι
    simp only [Lay.cut]
    rw [ec, g.hid]
  refine ⟨e, ⟨fun _ _ h => h, g.keep, fun _ m => .inl m, rfl⟩, ?_, r.nd, r.dis, fun a m => r1.hidd a (by rw [g.hid]; exact m), fun i d h => ?_⟩
  · rw [List.length_take, r.len]
    have := r1.len
    have h2 : ι.c.length ≤ ι1.c.length := by rw [← ec, List.length_take]; omega
    rw [r.len] at h2
    omega
  · rw [List.getElem?_take] at h
    split at h
    · rename_i hi
      obtain ⟨c2, h2, h3⟩ := c i hi
      rw [h] at h2
      cases h2
      obtain ⟨a, h4, h5⟩ := r1.cell i d h
      have hb : d.blw st.length = true := by
        rcases h3 with h3 | h3
        · obtain ⟨b, _, h6⟩ := r.cell i d h3
          rw [← r.len]
          exact cell_blw h6
        · exact h3
      have h7 := cell_cut r1 st.length h5 hb
      rw [e] at h7
      refine ⟨a, ?_, h7⟩
      rw [← ec, take_get _ hi]
      exact h4
    · cases h
theorem fin_ok {d r0 : D} {st' : Store} {v : V} {Q : VK} (r : RelH W ι H st) (k : OkE W ι H d st' Q) (e : fin st r0 s1 = some (d, st')) (g : Grow ι H ι1 H1) (r1 : RelH W ι1 H1 s1) (p : Rep W ι1 H1 r0 v) : Q v H1 := by
  unfold fin at e
  split at e
  · rename_i r' q
    split at e
    · rename_i c
      cases e
      obtain ⟨e1, g2, r2⟩ := close_ok r g r1 c
      have p2 := fzn_ok r1 st.length 3 q p
      rw [e1] at p2
      exact k v ι H1 g2 r2 p2
    · cases e
  · cases e
theorem REnv.enter {N : List Str} {ds : List D} {vs : List V} (h : Reps W ι H ds vs) : REnv W ι H (enter N.length ds) (L2.start N vs) := by
  unfold My.enter L2.start
  refine ⟨by simp [h.length], fun i d e => ?_⟩
  by_cases hi : i < ds.length
  · rw [List.getElem?_append_left (by simpa using hi), List.getElem?_map, Option.map_eq_some_iff] at e
    obtain ⟨d', e1, e2⟩ := e
    cases e2
    obtain ⟨v, h1, h2⟩ := h.get e1
    exact ⟨v, by rw [List.getElem?_append_left (by rw [List.length_map, ← h.length]; exact hi), List.getElem?_map, h1]; rfl, h2⟩
  · rw [List.getElem?_append_right (by simpa using hi), List.getElem?_replicate] at e
    split at e <;> cases e
theorem mkF_ok {N : List Str} {n : Nat} {body : SM} {vs : List V} {Q : VK} {E : XK} (h : spM W n (mkF N.length body) vs H Q E) : TSt W body { nx := fun _ H' => Q .non H', rt := Q } (L2.start N vs) H := by
  obtain ⟨ι, st, ds, d, st', r, n, hl, e, k⟩ := h
  unfold mkF at e
  split at e
  · rename_i r0 s1 q
    exact TSt.of r (REnv.enter n) q fun v ι1 H1 g1 r1 p1 => fin_ok r k e g1 r1 p1
  · rename_i e1 s1 q
    exact TSt.of r (REnv.enter n) q fun v ι1 H1 g1 r1 _ => fin_ok r k e g1 r1 (by simp only [Rep])
  · cases e
theorem mkK_ok {N : List Str} {n : Nat} {body : SM} {vs : List V} {Q : VK} {E : XK} (h : spM W n (mkK N.length body) vs H Q E) : TSt W body { nx := fun _ H' => Q .non H', rt := Q } (L2.start N vs) H := by
  obtain ⟨ι, st, ds, d, st', r, n, hl, e, k⟩ := h
  unfold mkK at e
  split at e
  · rename_i r0 s1 q
    cases e
    exact TSt.of r (REnv.enter n) q k
  · rename_i e1 s1 q
    cases e
    exact TSt.of r (REnv.enter n) q fun v ι1 H1 g1 r1 _ => k _ _ _ g1 r1 (by simp only [Rep])
  · cases e
theorem spM_len {n : Nat} {F : FM} {vs : List V} {Q : VK} {E : XK} (h : spM W n F vs H Q E) : vs.length = n := by
  obtain ⟨ι, st, ds, d, st', r, q, hl, e, k⟩ := h
  rw [← q.length]; exact hl
end
section
variable {P : Program} {w : World} {K : PySem.W.Frag} {mg : Str → Option Value} {base : Heap} {W : Wd}
/-- a def by its mirror -/
theorem jd {nm qual : Str} {st : Stmt} {f : Addr} {fd : FuncData} {N ps : List Str} {k : Nat} {body : SM} (F : Fun K nm qual st f fd) (S : FnScope N ps (defScope st))
    (h : ∀ (cdv : Value) (A : Around) (out : List PySem.Env) (s : Shared) (H : Hp) (E : XK), Room k (A.deeper (envOfC qual (defScope st) s.heap.objs.size f cdv)) → PSs (cxOf CX0 P w K mg base N qual (defScope st) f cdv A out s H E).nox (defBody st) (TSt W body)) :
    FnOk P w K mg base CX0 (k + 1) f fd ps (spM W ps.length (mkF N.length body)) :=
  F.ok S (fun vs H Q E h => spM_len h) fun cdv A out s H vs Q E hr q => ⟨_, h cdv A out s H E hr, mkF_ok q⟩
theorem jdK {nm qual : Str} {st : Stmt} {f : Addr} {fd : FuncData} {N ps : List Str} {k : Nat} {body : SM} (F : Fun K nm qual st f fd) (S : FnScope N ps (defScope st))
    (h : ∀ (cdv : Value) (A : Around) (out : List PySem.Env) (s : Shared) (H : Hp) (E : XK), Room k (A.deeper (envOfC qual (defScope st) s.heap.objs.size f cdv)) → PSs (cxOf CX0 P w K mg base N qual (defScope st) f cdv A out s H E).nox (defBody st) (TSt W body)) :
    FnOk P w K mg base CX0 (k + 1) f fd ps (spM W ps.length (mkK N.length body)) :=
  F.ok S (fun vs H Q E h => spM_len h) fun cdv A out s H vs Q E hr q => ⟨_, h cdv A out s H E hr, mkK_ok q⟩
theorem jdG {nm qual : Str} {st : Stmt} {f : Addr} {fd : FuncData} {N ps : List Str} {k : Nat} {body : SM} (F : Fun K nm qual st f fd) (S : FnScope N ps (defScope st))
    (h : ∀ (cdv : Value) (A : Around) (out : List PySem.Env) (s : Shared) (H : Hp), (A.deeper (envOfC qual (defScope st) s.heap.objs.size f cdv)).guards = some [] → Room k (A.deeper (envOfC qual (defScope st) s.heap.objs.size f cdv)) → PSs (cxOf CX0 P w K mg base N qual (defScope st) f cdv A out s H E0).nox (defBody st) (TSt W body)) :
    FnG P w K mg base (k + 1) f fd ps (spM W ps.length (mkF N.length body)) :=
  g_ok F S (fun vs H Q h => spM_len h) fun cdv A out s H vs Q hg hr q => ⟨_, h cdv A out s H hg hr, mkF_ok q⟩
end
section
variable {X : Cx} {W : Wd} {k n : Nat} {f : Addr} {fd : FuncData} {ps ks : List Str} {x : Str} {p pos : Pos} {e : Expr} {es : List Expr} {F : FM} {am : AM} {dvs : List V} {ds : List Value} {dds : List D} {E : XK}
open Classical in
noncomputable def eCallD (n : Nat) (F : FM) (dds : List D) (a : AM) : EM := fun env st => match a env st with
  | some (xs, s1) => if (xs ++ dds).length = n then F (xs ++ dds) s1 else none
  | none => none
theorem tCall_of (hdv : ∀ ι H, Reps W ι H dds dvs) {σ : L2.St} {H : Hp} {Q : VK} (h : T W (eCallD n F dds am) σ H Q) : tCall (spM W n F) dvs E (TAs W am) σ H Q := by
  obtain ⟨ι, st, env, d, st', r, q, e, k⟩ := h
  unfold eCallD at e
  split at e
  · rename_i xs s1 e1
    split at e
    · rename_i hl
      exact TA.of r q e1 fun vs ι1 H1 g1 r1 p1 => ⟨ι1, s1, xs ++ dds, d, st', r1, p1.append (hdv _ _), hl, e, k.go g1⟩
    · cases e
  · cases e
theorem j_call (F0 : FnOk X.prog X.w X.K X.mg X.base CX0 k f fd ps (spM W n F)) (hr : Room k X.A) (hg : Gl X x) (hm : X.mg x = some (.ref f)) (hk : PySem.W.keepIn X.K (.ref f) = true) (hb : Binds X.K fd ps ds) (hd : Vals dvs ds) (hdv : ∀ ι H, Reps W ι H dds dvs) (hx : Passes CX0 X E)
    (ha : PA X (e :: es) (TAs W am)) (hdb : (x == ("__debug__" : Str)) = false := by decide) (he : starEach (e :: es) X.env = (false, eval e X.env) :: starEach es X.env := by rfl) (hpl : (backTo pos (starEach es X.env)).any (·.1) = false := by rfl) :
    PE X (.Call (.Name x p) (e :: es) [] pos) (T W (eCallD n F dds am)) := (pe_call F0 hr hg hm hk hb hd hx ha hdb he hpl).imp fun _ _ _ => tCall_of hdv
theorem j_callG (hgd : X.A.guards = some []) (F0 : FnG X.prog X.w X.K X.mg X.base k f fd ps (spM W n F)) (hr : Room k X.A) (hg : Gl X x) (hm : X.mg x = some (.ref f)) (hk : PySem.W.keepIn X.K (.ref f) = true) (hb : Binds X.K fd ps [])
    (ha : PA X (e :: es) (TAs W am)) (he : starEach (e :: es) X.env = (false, eval e X.env) :: starEach es X.env := by rfl) (hpl : (backTo pos (starEach es X.env)).any (·.1) = false := by rfl)
    (hdb : (x == ("__debug__" : Str)) = false := by decide) : PE X (.Call (.Name x p) (e :: es) [] pos) (T W (eCallD n F [] am)) := (pe_callG hgd F0 hr hg hm hk hb ha he hpl hdb).imp fun _ _ _ => tCall_of fun _ _ => Reps.nil
open Classical in
noncomputable def eCallN (n j m : Nat) (F : FM) (g : List D → List D → List D) (a b : AM) : EM := fun env st => match a env st with
  | some (xs, s1) => match b env s1 with
    | some (zs, s2) => if xs.length = j ∧ zs.length = m ∧ (g xs zs).length = n then F (g xs zs) s2 else none
    | none => none
  | none => none
theorem j_callN {j : Nat} {kws : List Keyword} {km : AM} {g : List Value → List Value → List Value} {gV : List V → List V → List V} {gD : List D → List D → List D} {m : Nat} (F0 : FnOk X.prog X.w X.K X.mg X.base CX0 k f fd ps (spM W n F)) (hr : Room k X.A) (hg : Gl X x) (hm : X.mg x = some (.ref f)) (hk : PySem.W.keepIn X.K (.ref f) = true) (hb : KBn X.K fd ps j ks g gV)
    (hgD : ∀ ι H (xs zs : List D) (vs us : List V), Reps W ι H xs vs → Reps W ι H zs us → Reps W ι H (gD xs zs) (gV vs us)) (hx : Passes CX0 X E)
    (ha : PA X (e :: es) (TAs W am)) (hkw : PK X kws (TAs W km)) (hall : (backToKw pos (keywordEach kws X.env)).all (·.1.isSome) = true := by rfl) (hks : (backToKw pos (keywordEach kws X.env)).filterMap (·.1) = ks := by rfl)
    (hdb : (x == ("__debug__" : Str)) = false := by decide) (he : starEach (e :: es) X.env = (false, eval e X.env) :: starEach es X.env := by rfl)
    (hpl : ((backTo pos (starEach (e :: es) X.env)).any (·.1) || (backToKw pos (keywordEach kws X.env)).any (·.1.isNone)) = false := by rfl) (hmk : ks.length = m := by rfl) :
    PE X (.Call (.Name x p) (e :: es) kws pos) (T W (eCallN n j m F gD am km)) := hmk ▸ (pe_callN F0 hr hg hm hk hb hx ha hkw hall hks hdb he hpl).imp fun σ H Q ⟨ι, st, env, d, st', r, q, e, k⟩ => by
  unfold eCallN at e
  split at e
  · rename_i xs s1 e1
    split at e
    · rename_i zs s2 e2
      split at e
      · rename_i hl
        exact TA.of r q e1 fun vs ι1 H1 g1 r1 p1 => TA.of r1 (q.grow g1) e2 fun us ι2 H2 g2 r2 p2 =>
          ⟨by rw [← p1.length]; exact hl.1, by rw [← p2.length]; exact hl.2.1, ι2, s2, gD xs zs, d, st', r2, hgD _ _ _ _ _ _ (Reps.grow g2 _ _ p1) p2, hl.2.2, e, k.go (g1.trans g2)⟩
      · cases e
    · cases e
  · cases e
theorem jk_nil : PK X [] (TAs W aNil) := ⟨fun pos pins s σ H Q I ⟨ι, st, env, d, st', r, n, e, k⟩ => by
  cases e
  exact pk_nil.run pos pins s σ H Q I (k _ _ _ Grow.refl r Reps.nil)⟩
theorem jk_cons {kws : List Keyword} {nm : Option Str} {kpos : Pos} {ma : EM} {mr : AM} (ha : PE X e (T W ma)) (hr : PK X kws (TAs W mr)) : PK X (⟨nm, e, kpos⟩ :: kws) (TAs W (aCons ma mr)) := ⟨fun pos pins s σ H Q I ⟨ι, st, env, d, st', r, n, e, k⟩ => by
  refine (pk_cons ha hr).run pos pins s σ H Q I ?_
  unfold aCons at e
  split at e
  · rename_i x s1 e1
    split at e
    · rename_i xs s2 e2
      cases e
      exact T.of r n e1 fun v ι1 H1 g1 r1 p1 => TA.of r1 (n.grow g1) e2 fun vs ι2 H2 g2 r2 p2 => k _ _ _ (g1.trans g2) r2 (Reps.cons (Rep.grow g2 _ _ p1) p2)
    · cases e
  · cases e⟩
end
end My

namespace My
open PySem PySem.Spec PyProof.Rows L2

/-! ### scalars, keys -/
def sc : D → Option V
  | .non => some .non
  | .bl b => some (.bl b)
  | .int i => some (.int i)
  | .str x => some (.str x)
  | _ => none
def scs : List D → Option (List V)
  | [] => some []
  | d :: ds => match sc d with
    | some v => (scs ds).map (v :: ·)
    | none => none
def intsOf : List D → Option (List Int)
  | [] => some []
  | .int i :: ds => (intsOf ds).map (i :: ·)
  | _ => none
def bolsOf : List D → Option (List Bool)
  | [] => some []
  | .bl i :: ds => (bolsOf ds).map (i :: ·)
  | _ => none
def keyOf : D → Option Key
  | .int i => some (.inl i)
  | .str x => some (.inr x)
  | _ => none
def keysOf : List D → Option (List Key)
  | [] => some []
  | d :: ds => match keyOf d with
    | some k => (keysOf ds).map (k :: ·)
    | none => none
def tkeyOf : D → Option (List Key)
  | .tup ds => keysOf ds
  | _ => none
theorem intsOf_map (ns : List Int) : intsOf (ns.map D.int) = some ns := by
  induction ns with
  | nil => rfl
  | cons n ns ih => simp only [List.map_cons, intsOf, ih, Option.map_some]
theorem bolsOf_map (ns : List Bool) : bolsOf (ns.map D.bl) = some ns := by
  induction ns with
  | nil => rfl
  | cons n ns ih => simp only [List.map_cons, bolsOf, ih, Option.map_some]
theorem intsOf_eq : ∀ {ds : List D} {ns : List Int}, intsOf ds = some ns → ds = ns.map D.int
  | [], _, h => by cases h; rfl
  | d :: ds, ns, h => by
    cases d with
    | int i =>
      simp only [intsOf, Option.map_eq_some_iff] at h
      obtain ⟨ms, h1, rfl⟩ := h
      rw [intsOf_eq h1]; rfl
    | _ => simp [intsOf] at h
theorem bolsOf_eq : ∀ {ds : List D} {ns : List Bool}, bolsOf ds = some ns → ds = ns.map D.bl
  | [], _, h => by cases h; rfl
  | d :: ds, ns, h => by
    cases d with
    | bl i =>
      simp only [bolsOf, Option.map_eq_some_iff] at h
      obtain ⟨ms, h1, rfl⟩ := h
      rw [bolsOf_eq h1]; rfl
    | _ => simp [bolsOf] at h
section
variable {W : Wd} {ι : Lay} {H : Hp} {st : Store} {d : D} {v : V}
theorem sc_ok {u : V} (e : sc d = some u) (h : Rep W ι H d v) : v = u := by
  cases d <;> simp only [sc] at e <;> cases e <;> simpa only [Rep] using h
theorem scs_ok : ∀ {ds : List D} {us vs : List V}, scs ds = some us → Reps W ι H ds vs → vs = us
  | [], _, _, e, h => by cases e; exact h.nil_of
  | d :: ds, _, _, e, h => by
    obtain ⟨v, r, rfl, h1, h2⟩ := h.uncons
    simp only [scs] at e
    split at e
    · rename_i u q
      rw [Option.map_eq_some_iff] at e
      obtain ⟨us, e1, rfl⟩ := e
      rw [sc_ok q h1, scs_ok e1 h2]
    · cases e
theorem flat_sc {u : V} (e : sc d = some u) : flatV u = true := by
  cases d <;> simp only [sc] at e <;> cases e <;> rfl
theorem flat_scs : ∀ {ds : List D} {us : List V}, scs ds = some us → us.all flatV = true
  | [], _, e => by cases e; rfl
  | d :: ds, _, e => by
    simp only [scs] at e
    split at e
    · rename_i u q
      rw [Option.map_eq_some_iff] at e
      obtain ⟨us, e1, rfl⟩ := e
      rw [List.all_cons, flat_sc q, flat_scs e1]; rfl
    · cases e
theorem keyOf_ok {k : Key} (e : keyOf d = some k) (h : Rep W ι H d v) : v = kV k := by
  cases d <;> simp only [keyOf] at e <;> cases e <;> (simp only [Rep] at h; exact h)
theorem keysOf_ok : ∀ {ds : List D} {ks : List Key} {vs : List V}, keysOf ds = some ks → Reps W ι H ds vs → vs = ks.map kV
  | [], _, _, e, h => by cases e; exact h.nil_of
  | d :: ds, _, _, e, h => by
    obtain ⟨v, r, rfl, h1, h2⟩ := h.uncons
    simp only [keysOf] at e
    split at e
    · rename_i u q
      rw [Option.map_eq_some_iff] at e
      obtain ⟨us, e1, rfl⟩ := e
      rw [keyOf_ok q h1, keysOf_ok e1 h2]; rfl
    · cases e
end

/-! ### dicts as two lists -/
section
variable {κ : Type} [DecidableEq κ]
def kGet (ks : List κ) (vs : List D) (k : κ) : Option D := ((ks.zip vs).find? fun kv => decide (kv.1 = k)).map (·.2)
def kRepl (ks : List κ) (vs : List D) (k : κ) (v : D) : List D := (ks.zip vs).map fun kv => if kv.1 = k then v else kv.2
def kHas (ks : List κ) (k : κ) : Bool := ks.any fun j => decide (j = k)
def kPutK (ks : List κ) (k : κ) : List κ := if kHas ks k = true then ks else ks ++ [k]
def kPutV (ks : List κ) (vs : List D) (k : κ) (v : D) : List D := if kHas ks k = true then kRepl ks vs k v else vs ++ [v]
variable {W : Wd} {ι : Lay} {H : Hp}
theorem kGet_ok {k : κ} : ∀ {ks : List κ} {ds : List D} {us : List V}, Reps W ι H ds us → (∀ d, kGet ks ds k = some d → ∃ u, valV (ks.zip us) k = some u ∧ Rep W ι H d u) ∧ (kGet ks ds k = none → valV (ks.zip us) k = none)
  | [], _, _, _ => ⟨fun d e => by simp [kGet] at e, fun _ => rfl⟩
  | j :: ks, [], us, h => by rw [h.nil_of]; exact ⟨fun d e => by simp [kGet] at e, fun _ => rfl⟩
  | j :: ks, d :: ds, us, h => by
    obtain ⟨u, r, rfl, h1, h2⟩ := h.uncons
    obtain ⟨i1, i2⟩ := kGet_ok (k := k) (ks := ks) h2
    by_cases e : j = k
    · constructor
      · intro x hx
        simp only [kGet, List.zip_cons_cons, List.find?_cons, e, decide_true] at hx
        cases hx
        exact ⟨u, by simp [valV, e], h1⟩
      · intro hx
        simp [kGet, e] at hx
    · have e1 : kGet (j :: ks) (d :: ds) k = kGet ks ds k := by simp [kGet, List.find?_cons, e]
      have e2 : valV ((j :: ks).zip (u :: r)) k = valV (ks.zip r) k := by simp [valV, List.find?_cons, e]
      rw [e1, e2]
      exact ⟨i1, i2⟩
theorem kHas_any {k : κ} : ∀ {ks : List κ} {us : List V}, ks.length = us.length → ((ks.zip us).any fun kv => decide (kv.1 = k)) = kHas ks k
  | [], _, _ => rfl
  | j :: ks, u :: us, h => by
    simp only [List.zip_cons_cons, List.any_cons, kHas]
    rw [kHas_any (ks := ks) (us := us) (by simpa using h)]; rfl
  | _ :: _, [], h => by simp at h
theorem kPut_ok {k : κ} {ks : List κ} {ds : List D} {us : List V} {d : D} {u : V} (h : Reps W ι H ds us) (hl : ks.length = ds.length) (hd : Rep W ι H d u) : ∃ us', putK (ks.zip us) k u = (kPutK ks k).zip us' ∧ (kPutK ks k).length = (kPutV ks ds k d).length ∧ Reps W ι H (kPutV ks ds k d) us' := by
  have hlu : ks.length = us.length := hl.trans h.length
  unfold putK kPutK kPutV
  rw [kHas_any hlu]
  by_cases q : kHas ks k = true
  · rw [if_pos q, if_pos q, if_pos q]
    have main : ∀ (ks : List κ) (ds : List D) (us : List V), Reps W ι H ds us → ks.length = ds.length → ∃ us', (ks.zip us).map (fun kv => if kv.1 = k then (kv.1, u) else kv) = ks.zip us' ∧ ks.length = (kRepl ks ds k d).length ∧ Reps W ι H (kRepl ks ds k d) us' := by
      intro ks
      induction ks with
      | nil =>
        intro ds us h hl
        cases ds with
        | nil => exact ⟨[], rfl, rfl, Reps.nil⟩
        | cons _ _ => simp at hl
      | cons j ks ih =>
        intro ds us h hl
        cases ds with
        | nil => simp at hl
        | cons x ds =>
          obtain ⟨v, r, rfl, h1, h2⟩ := h.uncons
          obtain ⟨us', e1, e2, e3⟩ := ih ds r h2 (by simpa using hl)
          by_cases e : j = k
          · refine ⟨u :: us', ?_, ?_, ?_⟩
            · simp only [List.zip_cons_cons, List.map_cons, e1, if_pos e]
            · simp only [kRepl, List.zip_cons_cons, List.map_cons, List.length_cons] at e2 ⊢; omega
            · simp only [kRepl, List.zip_cons_cons, List.map_cons, if_pos e]; exact Reps.cons hd e3
          · refine ⟨v :: us', ?_, ?_, ?_⟩
            · simp only [List.zip_cons_cons, List.map_cons, e1, if_neg e]
            · simp only [kRepl, List.zip_cons_cons, List.map_cons, List.length_cons] at e2 ⊢; omega
            · simp only [kRepl, List.zip_cons_cons, List.map_cons, if_neg e]; exact Reps.cons h1 e3
    exact main ks ds us h hl
  · rw [if_neg q, if_neg q, if_neg q]
    refine ⟨us ++ [u], ?_, by simp [hl], h.append (Reps.cons hd Reps.nil)⟩
    rw [List.zip_append hlu]; rfl
end

/-! ### operators -/
open Classical in
noncomputable def dAdd (a b : D) (st : Store) : Option D := match a, b with
  | .int i, .int j => some (.int (i + j))
  | .str x, .str y => if x.length + y.length ≤ sizeLine then some (.str (x ++ y)) else none
  | _, _ => match seqL st a, seqL st b with
    | some xs, some ys => if xs.length + ys.length ≤ sizeLine then some (.lst (xs ++ ys)) else none
    | _, _ => match seqT a, seqT b with
      | some xs, some ys => if xs.length + ys.length ≤ sizeLine then some (.tup (xs ++ ys)) else none
      | _, _ => none
def dSub (a b : D) (_ : Store) : Option D := match a, b with
  | .int i, .int j => some (.int (i - j))
  | _, _ => none
open Classical in
noncomputable def dMul (a b : D) (st : Store) : Option D := match a, b with
  | .int i, .int j => if CMulW i j then some (.int (i * j)) else none
  | .tup xs, .int k => if xs ≠ [] ∧ -(2 ^ 63) ≤ k ∧ k ≤ 1000 ∧ xs.length ≤ 1000 then some (.tup (List.replicate k.toNat xs).flatten) else none
  | _, .int k => match seqL st a with
    | some xs => if -(2 ^ 63) ≤ k ∧ k < 2 ^ 63 ∧ xs.length * k.toNat ≤ sizeLine then some (.lst (List.replicate k.toNat xs).flatten) else none
    | none => none
  | _, _ => none
open Classical in
noncomputable def dFdiv (a b : D) (_ : Store) : Option D := match a, b with
  | .int i, .int j => if CDivW i j then some (.int (i / j)) else none
  | _, _ => none
open Classical in
noncomputable def dMod (a b : D) (_ : Store) : Option D := match a, b with
  | .int i, .int j => if 0 < j then some (.int (i % j)) else none
  | _, _ => none
open Classical in
noncomputable def dPow (a b : D) (_ : Store) : Option D := match a, b with
  | .int i, .int j => if CPowW i j then some (.int (i ^ j.toNat)) else none
  | _, _ => none
def dNeg (a : D) (_ : Store) : Option D := match a with
  | .int i => some (.int (-i))
  | _ => none
def dLt (a b : D) (_ : Store) : Option D := match a, b with
  | .int i, .int j => some (.bl (decide (i < j)))
  | _, _ => none
def dLe (a b : D) (_ : Store) : Option D := match a, b with
  | .int i, .int j => some (.bl (decide (i ≤ j)))
  | _, _ => none
def dGt (a b : D) (_ : Store) : Option D := match a, b with
  | .int i, .int j => some (.bl (decide (j < i)))
  | _, _ => none
def dGe (a b : D) (_ : Store) : Option D := match a, b with
  | .int i, .int j => some (.bl (decide (j ≤ i)))
  | _, _ => none
/-- == as a Bool -/
def eqB (a b : D) (st : Store) : Option Bool := match a, b with
  | .int i, .int j => some (decide (i = j))
  | .str i, .str j => some (decide (i = j))
  | .bl i, .bl j => some (decide (i = j))
  | .non, .non => some true
  | .int _, .str _ => some false
  | .str _, .int _ => some false
  | .bl _, .str _ => some false
  | .str _, .bl _ => some false
  | .non, .int _ => some false
  | .int _, .non => some false
  | .non, .bl _ => some false
  | .bl _, .non => some false
  | .non, .str _ => some false
  | .str _, .non => some false
  | _, _ => match pyOf st a, pyOf st b with
    | some p, some q => if SeqAt.shaped p = true ∧ SeqAt.shaped q = true then some (PyData.eqv p q) else none
    | _, _ => none
def dEq (a b : D) (st : Store) : Option D := (eqB a b st).map .bl
def dNe (a b : D) (st : Store) : Option D := (eqB a b st).map fun c => .bl (!c)
def dIs (a b : D) (_ : Store) : Option D := match b with
  | .non => match a with
    | .non => some (.bl true)
    | _ => some (.bl false)
  | .bl j => match a with
    | .bl i => some (.bl (decide (i = j)))
    | _ => none
  | _ => none
def dIsNot (a b : D) (st : Store) : Option D := match dIs a b st with
  | some (.bl c) => some (.bl (!c))
  | _ => none
def inB (a b : D) (st : Store) : Option Bool := match seqA st b with
  | some ys => match sc a, scs ys with
    | some x, some us => some (inV x us)
    | _, _ => none
  | none => match dicK st b with
    | some (ks, vs) => match keyOf a with
      | some k => some (kGet ks vs k).isSome
      | none => none
    | none => match dicT st b with
      | some (ks, vs) => match tkeyOf a with
        | some k => some (kGet ks vs k).isSome
        | none => none
      | none => match a, b with
        | .str x, .str y => some (!(Builtin.Str.occurrences y x 0 y.length 1).isEmpty)
        | _, _ => none
def dIn (a b : D) (st : Store) : Option D := (inB a b st).map .bl
def dNotIn (a b : D) (st : Store) : Option D := (inB a b st).map fun c => .bl (!c)
open Classical in
noncomputable def dIx (a b : D) (st : Store) : Option D := match seqA st a with
  | some xs => match b with
    | .int i => atI xs i
    | _ => none
  | none => match dicK st a with
    | some (ks, vs) => match keyOf b with
      | some k => kGet ks vs k
      | none => none
    | none => match dicT st a with
      | some (ks, vs) => match tkeyOf b with
        | some k => kGet ks vs k
        | none => none
      | none => match a, b with
        | .str z, .int i => if z.length ≤ sizeLine then (atI z.cps.toList i).map fun c => .str ⟨#[c]⟩ else none
        | _, _ => none
section
variable {X : Cx} {W : Wd}
theorem rep_int {ι : Lay} {H : Hp} {i : Int} {v : V} (h : Rep W ι H (.int i) v) : v = .int i := by simpa only [Rep] using h
theorem rep_str {ι : Lay} {H : Hp} {i : Str} {v : V} (h : Rep W ι H (.str i) v) : v = .str i := by simpa only [Rep] using h
theorem rep_bl {ι : Lay} {H : Hp} {i : Bool} {v : V} (h : Rep W ι H (.bl i) v) : v = .bl i := by simpa only [Rep] using h
theorem rep_non {ι : Lay} {H : Hp} {v : V} (h : Rep W ι H .non v) : v = .non := by simpa only [Rep] using h
theorem int_rep {ι : Lay} {H : Hp} {i : Int} : Rep W ι H (.int i) (.int i) := by simp only [Rep]
theorem str_rep {ι : Lay} {H : Hp} {i : Str} : Rep W ι H (.str i) (.str i) := by simp only [Rep]
theorem bl_rep {ι : Lay} {H : Hp} {i : Bool} : Rep W ι H (.bl i) (.bl i) := by simp only [Rep]
theorem non_rep {ι : Lay} {H : Hp} : Rep W ι H .non .non := by simp only [Rep]
theorem jo_add (hK : X.K = W.K) : OpR X (binaryOp .Add) (M2 W dAdd) := by
  intro pins s σ H x y v u Q I rx ry ⟨ι, st, a, b, d, r, ha, hb, e, k⟩
  unfold dAdd at e
  split at e
  · cases e
    cases rep_int ha
    cases rep_int hb
    exact op_add pins s σ H _ _ v u Q I rx ry ⟨_, _, rfl, rfl, k.now r int_rep⟩
  · split at e
    · rename_i hz
      cases e
      cases rep_str ha
      cases rep_str hb
      exact op_add_str pins s σ H _ _ v u Q I rx ry ⟨_, _, rfl, rfl, hz, k.now r str_rep⟩
    · cases e
  · split at e
    · rename_i xs ys q1 q2
      split at e
      · rename_i hz
        cases e
        obtain ⟨p, us, rfl, h1, h2⟩ := seqL_ok r ha q1
        obtain ⟨p', us', rfl, h3, h4⟩ := seqL_ok r hb q2
        exact op_cat pins s σ H _ _ v u Q I rx ry ⟨p, p', us, us', rfl, rfl, h1, h3, by rw [← h2.length, ← h4.length]; exact hz, fun l hl => k.lst r (h2.append h4) hl⟩
      · cases e
    · split at e
      · rename_i xs ys q1 q2
        split at e
        · rename_i hz
          cases e
          obtain ⟨p, us, rfl, h1, h2⟩ := seqT_ok ha q1
          obtain ⟨p', us', rfl, h3, h4⟩ := seqT_ok hb q2
          refine op_catA pins s σ H _ _ v u Q I rx ry ⟨p, p', us, us', rfl, rfl, SqT.of h1, SqT.of h3, by rw [← h2.length, ← h4.length]; exact hz, fun z => ?_, fun _ z => ?_, fun _ _ l hl => k.tup r (h2.append h4) hl⟩
          · have e1 : xs = [] := List.length_eq_zero_iff.mp (by rw [h2.length, z]; rfl)
            refine k.now r ?_
            simp only [Rep, e1, List.nil_append]
            exact ⟨p', rfl, us', h3, h4⟩
          · have e1 : ys = [] := List.length_eq_zero_iff.mp (by rw [h4.length, z]; rfl)
            refine k.now r ?_
            simp only [Rep, e1, List.append_nil]
            exact ⟨p, rfl, us, h1, h2⟩
        · cases e
      · cases e
theorem jo_sub : OpR X (binaryOp .Sub) (M2 W dSub) := by
  intro pins s σ H x y v u Q I rx ry ⟨ι, st, a, b, d, r, ha, hb, e, k⟩
  unfold dSub at e
  split at e
  · cases e
    cases rep_int ha
    cases rep_int hb
    exact op_sub pins s σ H _ _ v u Q I rx ry ⟨_, _, rfl, rfl, k.now r int_rep⟩
  · cases e
theorem jo_mod : OpR X (binaryOp .Mod) (M2 W dMod) := by
  intro pins s σ H x y v u Q I rx ry ⟨ι, st, a, b, d, r, ha, hb, e, k⟩
  unfold dMod at e
  split at e
  · split at e
    · rename_i h
      cases e
      cases rep_int ha
      cases rep_int hb
      exact op_mod pins s σ H _ _ v u Q I rx ry ⟨_, _, rfl, rfl, h, k.now r int_rep⟩
    · cases e
  · cases e
theorem jo_fdiv : OpR X (binaryOp .FloorDiv) (M2 W dFdiv) := by
  intro pins s σ H x y v u Q I rx ry ⟨ι, st, a, b, d, r, ha, hb, e, k⟩
  unfold dFdiv at e
  split at e
  · split at e
    · rename_i h
      cases e
      cases rep_int ha
      cases rep_int hb
      exact op_fdivW pins s σ H _ _ v u Q I rx ry ⟨_, _, rfl, rfl, h, k.now r int_rep⟩
    · cases e
  · cases e
theorem jo_pow : OpR X (binaryOp .Pow) (M2 W dPow) := by
  intro pins s σ H x y v u Q I rx ry ⟨ι, st, a, b, d, r, ha, hb, e, k⟩
  unfold dPow at e
  split at e
  · split at e
    · rename_i h
      cases e
      cases rep_int ha
      cases rep_int hb
      exact op_powW pins s σ H _ _ v u Q I rx ry ⟨_, _, rfl, rfl, h, k.now r int_rep⟩
    · cases e
  · cases e
theorem jo_neg : UnR X (unaryOp .USub) (M1 W dNeg) := by
  intro pins s σ H x v Q I rx ⟨ι, st, a, d, r, ha, e, k⟩
  unfold dNeg at e
  split at e
  · cases e
    cases rep_int ha
    exact un_neg pins s σ H _ v Q I rx ⟨_, rfl, k.now r int_rep⟩
  · cases e
theorem jo_lt : OpR X (compareOp .Lt) (M2 W dLt) := by
  intro pins s σ H x y v u Q I rx ry ⟨ι, st, a, b, d, r, ha, hb, e, k⟩
  unfold dLt at e
  split at e
  · cases e
    cases rep_int ha
    cases rep_int hb
    exact op_lt pins s σ H _ _ v u Q I rx ry ⟨_, _, rfl, rfl, k.now r bl_rep⟩
  · cases e
theorem jo_le : OpR X (compareOp .LtE) (M2 W dLe) := by
  intro pins s σ H x y v u Q I rx ry ⟨ι, st, a, b, d, r, ha, hb, e, k⟩
  unfold dLe at e
  split at e
  · cases e
    cases rep_int ha
    cases rep_int hb
    exact op_le pins s σ H _ _ v u Q I rx ry ⟨_, _, rfl, rfl, k.now r bl_rep⟩
  · cases e
theorem jo_gt : OpR X (compareOp .Gt) (M2 W dGt) := by
  intro pins s σ H x y v u Q I rx ry ⟨ι, st, a, b, d, r, ha, hb, e, k⟩
  unfold dGt at e
  split at e
  · cases e
    cases rep_int ha
    cases rep_int hb
    exact op_gt pins s σ H _ _ v u Q I rx ry ⟨_, _, rfl, rfl, k.now r bl_rep⟩
  · cases e
theorem jo_ge : OpR X (compareOp .GtE) (M2 W dGe) := by
  intro pins s σ H x y v u Q I rx ry ⟨ι, st, a, b, d, r, ha, hb, e, k⟩
  unfold dGe at e
  split at e
  · cases e
    cases rep_int ha
    cases rep_int hb
    exact op_ge pins s σ H _ _ v u Q I rx ry ⟨_, _, rfl, rfl, k.now r bl_rep⟩
  · cases e
/-- what == of two values asks -/
theorem eqB_ok {ι : Lay} {H : Hp} {st : Store} {a b : D} {c : Bool} {x y : V} (r : RelH W ι H st) (ha : Rep W ι H a x) (hb : Rep W ι H b y) (e : eqB a b st = some c) :
    (scal x y = true ∧ decide (x = y) = c) ∨ ∃ p q, Dp W.K H x p ∧ Dp W.K H y q ∧ SeqAt.shaped p = true ∧ SeqAt.shaped q = true ∧ PyData.eqv p q = c := by
  unfold eqB at e
  split at e
  all_goals first
    | (cases e; left; cases rep_int ha; cases rep_int hb; exact ⟨rfl, by simp⟩)
    | (cases e; left; cases rep_str ha; cases rep_str hb; exact ⟨rfl, by simp⟩)
    | (cases e; left; cases rep_bl ha; cases rep_bl hb; exact ⟨rfl, by simp⟩)
    | (cases e; left; cases rep_non ha; cases rep_non hb; exact ⟨rfl, by simp⟩)
    | (cases e; left; cases rep_int ha; cases rep_str hb; exact ⟨rfl, by simp⟩)
    | (cases e; left; cases rep_str ha; cases rep_int hb; exact ⟨rfl, by simp⟩)
    | (cases e; left; cases rep_bl ha; cases rep_str hb; exact ⟨rfl, by simp⟩)
    | (cases e; left; cases rep_str ha; cases rep_bl hb; exact ⟨rfl, by simp⟩)
    | (cases e; left; cases rep_non ha; cases rep_int hb; exact ⟨rfl, by simp⟩)
    | (cases e; left; cases rep_int ha; cases rep_non hb; exact ⟨rfl, by simp⟩)
    | (cases e; left; cases rep_non ha; cases rep_bl hb; exact ⟨rfl, by simp⟩)
    | (cases e; left; cases rep_bl ha; cases rep_non hb; exact ⟨rfl, by simp⟩)
    | (cases e; left; cases rep_non ha; cases rep_str hb; exact ⟨rfl, by simp⟩)
    | (cases e; left; cases rep_str ha; cases rep_non hb; exact ⟨rfl, by simp⟩)
    | skip
  split at e
  · rename_i p q e1 e2
    split at e
    · rename_i hs
      cases e
      exact .inr ⟨p, q, pyOf_ok r e1 ha, pyOf_ok r e2 hb, hs.1, hs.2, rfl⟩
    · cases e
  · cases e
theorem jo_eq (hK : X.K = W.K) (hu : X.A.units + 64 < cLine) : OpR X (compareOp .Eq) (M2 W dEq) := by
  intro pins s σ H x y v u Q I rx ry ⟨ι, st, a, b, d, r, ha, hb, e, k⟩
  unfold dEq at e
  rw [Option.map_eq_some_iff] at e
  obtain ⟨c, e, rfl⟩ := e
  rcases eqB_ok r ha hb e with ⟨h1, h2⟩ | ⟨p, q, h1, h2, h3, h4, h5⟩
  · refine op_eq pins s σ H x y v u Q I rx ry ⟨h1, ?_⟩
    rw [h2]; exact k.now r bl_rep
  · rw [← hK] at h1 h2
    refine op_eqD hu pins s σ H x y v u Q I rx ry ⟨p, q, h1, h2, h3, h4, ?_⟩
    rw [h5]; exact k.now r bl_rep
theorem jo_ne (hK : X.K = W.K) (hu : X.A.units + 64 < cLine) : OpR X (compareOp .NotEq) (M2 W dNe) := by
  intro pins s σ H x y v u Q I rx ry ⟨ι, st, a, b, d, r, ha, hb, e, k⟩
  unfold dNe at e
  rw [Option.map_eq_some_iff] at e
  obtain ⟨c, e, rfl⟩ := e
  rcases eqB_ok r ha hb e with ⟨h1, h2⟩ | ⟨p, q, h1, h2, h3, h4, h5⟩
  · refine op_ne pins s σ H x y v u Q I rx ry ⟨h1, ?_⟩
    rw [h2]; exact k.now r bl_rep
  · rw [← hK] at h1 h2
    refine op_neD hu pins s σ H x y v u Q I rx ry ⟨p, q, h1, h2, h3, h4, ?_⟩
    rw [h5]; exact k.now r bl_rep
theorem rep_nn {ι : Lay} {H : Hp} {a : D} {x : V} (ha : Rep W ι H a x) (h : a ≠ .non) : decide (x = .non) = false := by
  refine decide_eq_false fun z => ?_
  subst z
  cases a with
  | non => exact h rfl
  | _ => simp [Rep] at ha
theorem jo_is : OpR X (compareOp .Is) (M2 W dIs) := by
  intro pins s σ H x y v u Q I rx ry ⟨ι, st, a, b, d, r, ha, hb, e, k⟩
  unfold dIs at e
  split at e
  · cases rep_non hb
    refine op_isN pins s σ H _ _ v u Q I rx ry ⟨rfl, ?_⟩
    split at e
    · cases e
      cases rep_non ha
      exact k.now r bl_rep
    · rename_i hn
      cases e
      rw [rep_nn ha hn]
      exact k.now r bl_rep
  · split at e
    · cases e
      cases rep_bl ha
      cases rep_bl hb
      exact op_isBl pins s σ H _ _ v u Q I rx ry ⟨_, _, rfl, rfl, k.now r bl_rep⟩
    · cases e
  · cases e
theorem jo_isnot : OpR X (compareOp .IsNot) (M2 W dIsNot) := by
  intro pins s σ H x y v u Q I rx ry ⟨ι, st, a, b, d, r, ha, hb, e, k⟩
  unfold dIsNot dIs at e
  split at e
  · rename_i c q
    cases e
    split at q
    · cases rep_non hb
      refine op_notN pins s σ H _ _ v u Q I rx ry ⟨rfl, ?_⟩
      split at q
      · cases q
        cases rep_non ha
        exact k.now r bl_rep
      · rename_i hn
        cases q
        rw [rep_nn ha hn]
        exact k.now r bl_rep
    · split at q
      · cases q
        cases rep_bl ha
        cases rep_bl hb
        exact op_notBl pins s σ H _ _ v u Q I rx ry ⟨_, _, rfl, rfl, k.now r bl_rep⟩
      · cases q
    · cases q
  · cases e
theorem SqE {K K' : PySem.W.Frag} (h : K = K') {H : Hp} {p : Addr} {xs : List V} (q : SqL K' H p xs ∨ SqT K' H p xs) : SqL K H p xs ∨ SqT K H p xs := by subst h; exact q
theorem atI_rep {ι : Lay} {H : Hp} {ds : List D} {vs : List V} {i : Int} {d : D} (h : Reps W ι H ds vs) (e : atI ds i = some d) : ∃ v, atI vs i = some v ∧ Rep W ι H d v := by
  unfold atI at e ⊢
  rw [← h.length]
  rw [Option.bind_eq_some_iff] at e
  obtain ⟨j, h1, h2⟩ := e
  obtain ⟨v, h3, h4⟩ := h.get h2
  exact ⟨v, by rw [h1]; exact h3, h4⟩
/-- d[k] of a dict, by values -/
theorem ix_dget (hu : X.A.units + 1 < cLine) : IxR X (fun x y H Q => ∃ a v, x = .ref a ∧ DGet H a y (some v) ∧ Q v H) := by
  intro value slice pins s σ H x y v u Q I rx ry ⟨a, z, e, g, q⟩ hs
  subst e
  cases rx
  refine tail_any (ops := [.ref a, u]) (dict_typeIs I g) PySem.F.slot_dict_getitem.lookup (d_getItem hu I g ry fun w' s3 I3 rw' => ⟨z, H, I3, rw', q⟩) hs
theorem ji_ix (hK : X.K = W.K) (hu : X.A.units + 1 < cLine) : IxR X (M2 W dIx) := by
  intro value slice pins s σ H x y v u Q I rx ry ⟨ι, st, a, b, d, r, ha, hb, e, k⟩ hs
  unfold dIx at e
  split at e
  · rename_i xs q
    obtain ⟨p, us, rfl, h1, h2⟩ := seqA_ok r ha q
    split at e
    · rename_i i
      cases rep_int hb
      obtain ⟨z, h3, h4⟩ := atI_rep h2 e
      rcases SqE hK h1 with h1 | h1
      · exact ix_list value slice pins s σ H _ _ v u Q I rx ry ⟨p, us, i, z, rfl, rfl, h1, h3, k.now r h4⟩ hs
      · exact ix_tup value slice pins s σ H _ _ v u Q I rx ry ⟨p, us, i, z, rfl, rfl, h1, h3, k.now r h4⟩ hs
    · cases e
  · split at e
    · rename_i ks vs q
      obtain ⟨p, us, rfl, h1, h2, h3⟩ := dicK_ok r ha q
      split at e
      · rename_i kk q2
        obtain ⟨z, h4, h5⟩ := (kGet_ok h3).1 d e
        cases keyOf_ok q2 hb
        have g := DGet.k (k := kk) h1
        rw [h4] at g
        exact ix_dget hu value slice pins s σ H _ _ v u Q I rx ry ⟨p, z, rfl, g, k.now r h5⟩ hs
      · cases e
    · split at e
      · rename_i ks vs q
        obtain ⟨p, us, rfl, h1, h2, h3⟩ := dicT_ok r ha q
        split at e
        · rename_i kk q2
          obtain ⟨z, h4, h5⟩ := (kGet_ok h3).1 d e
          unfold tkeyOf at q2
          split at q2
          · rename_i ds
            obtain ⟨b', ws, rfl, h6, h7⟩ := seqT_ok hb (xs := ds) rfl
            have e7 := keysOf_ok q2 h7
            subst e7
            have g := DGet.t (k := kk) h1 h6
            rw [h4] at g
            exact ix_dget hu value slice pins s σ H _ _ v u Q I rx ry ⟨p, z, rfl, g, k.now r h5⟩ hs
          · cases q2
        · cases e
      · split at e
        · rename_i z i _ _ _
          split at e
          · rename_i hz
            rw [Option.map_eq_some_iff] at e
            obtain ⟨c, e1, rfl⟩ := e
            cases rep_str ha
            cases rep_int hb
            exact ix_str value slice pins s σ H _ _ v u Q I rx ry ⟨z, i, c, rfl, rfl, hz, e1, k.now r str_rep⟩ hs
          · cases e
        · cases e
end
end My

namespace My
open PySem PySem.Spec PyProof.Rows L2

theorem Reps.rep {W : Wd} {ι : Lay} {H : Hp} {ds : List D} {vs : List V} (h : Reps W ι H ds vs) : ∀ k : Nat, Reps W ι H (List.replicate k ds).flatten (List.replicate k vs).flatten
  | 0 => by simpa using Reps.nil
  | k + 1 => by
    rw [List.replicate_succ, List.replicate_succ, List.flatten_cons, List.flatten_cons]
    exact Reps.append h (Reps.rep h k)
section
variable {X : Cx} {W : Wd}
theorem Grow.same {ι : Lay} {H H' : Hp} (s : Same H H') : Grow ι H ι H' := ⟨fun _ _ h => h, fun a o _ h => s a o h, fun _ m => .inl m, rfl⟩
theorem RelH.same {ι : Lay} {H H' : Hp} {st : Store} (r : RelH W ι H st) (s : Same H H') : RelH W ι H' st :=
  ⟨r.len, r.nd, r.dis, fun a m => by
    obtain ⟨o, e⟩ := r.hidd a m
    exact ⟨o, s _ _ e⟩, fun i c e => by
    obtain ⟨a, h1, h2⟩ := r.cell i c e
    exact ⟨a, h1, h2.move (Grow.same s).gro fun o q => s _ _ q⟩⟩
theorem jo_mul (hK : X.K = W.K) : OpR X (binaryOp .Mult) (M2 W dMul) := by
  intro pins s σ H x y v u Q I rx ry ⟨ι, st, a, b, d, r, ha, hb, e, k⟩
  unfold dMul at e
  split at e
  · split at e
    · rename_i h
      cases e
      cases rep_int ha
      cases rep_int hb
      exact op_mulW pins s σ H _ _ v u Q I rx ry ⟨_, _, rfl, rfl, h, k.now r int_rep⟩
    · cases e
  · split at e
    · rename_i xs n h
      cases e
      cases rep_int hb
      obtain ⟨p, us, rfl, h1, h2⟩ := seqT_ok ha (xs := xs) rfl
      refine op_repA pins s σ H _ _ v u Q I rx ry ⟨p, n, us, rfl, rfl, h1, fun z => h.1 (List.length_eq_zero_iff.mp (by rw [h2.length, z]; rfl)), h.2.1, h.2.2.1, by rw [← h2.length]; exact h.2.2.2, fun q H' sm hq => ?_⟩
      refine k _ ι H' (Grow.same sm) (r.same sm) ?_
      simp only [Rep]
      exact ⟨q, rfl, _, hq, Reps.grow (Grow.same sm) _ _ (h2.rep _)⟩
    · cases e
  · split at e
    · rename_i xs q
      split at e
      · rename_i h
        cases e
        cases rep_int hb
        obtain ⟨p, us, rfl, h1, h2⟩ := seqL_ok r ha q
        exact op_rep pins s σ H _ _ v u Q I rx ry ⟨p, _, us, rfl, rfl, h1, h.1, h.2.1, by rw [← h2.length]; exact h.2.2, fun l hl => k.lst r (h2.rep _) hl⟩
      · cases e
    · cases e
  · cases e
theorem d_inR (hu : X.A.units + 1 < cLine) : OpR X (compareOp .In) (fun x y H Q => ∃ a o, y = .ref a ∧ DGet H a x o ∧ Q (.bl o.isSome) H) := by
  intro pins s σ H x y v u Q I rx ry ⟨a, o, e, g, q⟩
  subst e
  cases ry
  exact d_in hu I g rx fun s3 I3 => ⟨.bl o.isSome, H, I3, rfl, q⟩
theorem d_notInR (hu : X.A.units + 1 < cLine) : OpR X (compareOp .NotIn) (fun x y H Q => ∃ a o, y = .ref a ∧ DGet H a x o ∧ Q (.bl (!o.isSome)) H) := by
  intro pins s σ H x y v u Q I rx ry ⟨a, o, e, g, q⟩
  subst e
  cases ry
  exact d_notIn hu I g rx fun s3 I3 => ⟨.bl (!o.isSome), H, I3, rfl, q⟩
theorem inB_ok {ι : Lay} {H : Hp} {st : Store} {a b : D} {c : Bool} {x y : V} (r : RelH W ι H st) (ha : Rep W ι H a x) (hb : Rep W ι H b y) (e : inB a b st = some c) :
    (∃ p xs, y = .ref p ∧ (SqL W.K H p xs ∨ SqT W.K H p xs) ∧ flatV x = true ∧ xs.all flatV = true ∧ inV x xs = c) ∨ (∃ p o, y = .ref p ∧ DGet H p x o ∧ o.isSome = c) ∨
      ∃ i j, x = .str i ∧ y = .str j ∧ (!(Builtin.Str.occurrences j i 0 j.length 1).isEmpty) = c := by
  unfold inB at e
  split at e
  · rename_i ys q
    obtain ⟨p, us, rfl, h1, h2⟩ := seqA_ok r hb q
    split at e
    · rename_i x' us' q1 q2
      cases e
      cases sc_ok q1 ha
      cases scs_ok q2 h2
      exact .inl ⟨p, _, rfl, h1, flat_sc q1, flat_scs q2, rfl⟩
    · cases e
  · split at e
    · rename_i ks vs q
      obtain ⟨p, us, rfl, h1, h2, h3⟩ := dicK_ok r hb q
      split at e
      · rename_i kk q2
        cases e
        cases keyOf_ok q2 ha
        refine .inr (.inl ⟨p, _, rfl, DGet.k (k := kk) h1, ?_⟩)
        cases hq : kGet ks vs kk with
        | none => rw [(kGet_ok h3).2 hq]; rfl
        | some d =>
          obtain ⟨z, h4, _⟩ := (kGet_ok h3).1 d hq
          rw [h4]; rfl
      · cases e
    · split at e
      · rename_i ks vs q
        obtain ⟨p, us, rfl, h1, h2, h3⟩ := dicT_ok r hb q
        split at e
        · rename_i kk q2
          cases e
          unfold tkeyOf at q2
          split at q2
          · rename_i ds
            obtain ⟨b', ws, rfl, h6, h7⟩ := seqT_ok ha (xs := ds) rfl
            have e7 := keysOf_ok q2 h7
            subst e7
            refine .inr (.inl ⟨p, _, rfl, DGet.t (k := kk) h1 h6, ?_⟩)
            cases hq : kGet ks vs kk with
            | none => rw [(kGet_ok h3).2 hq]; rfl
            | some d =>
              obtain ⟨z, h4, _⟩ := (kGet_ok h3).1 d hq
              rw [h4]; rfl
          · cases q2
        · cases e
      · split at e
        · cases e
          cases rep_str ha
          cases rep_str hb
          exact .inr (.inr ⟨_, _, rfl, rfl, rfl⟩)
        · cases e
theorem jo_in (hK : X.K = W.K) (hu : X.A.units + 1 < cLine) : OpR X (compareOp .In) (M2 W dIn) := by
  intro pins s σ H x y v u Q I rx ry ⟨ι, st, a, b, d, r, ha, hb, e, k⟩
  unfold dIn at e
  rw [Option.map_eq_some_iff] at e
  obtain ⟨c, e, rfl⟩ := e
  rcases inB_ok r ha hb e with ⟨p, xs, rfl, h1, h2, h3, rfl⟩ | ⟨p, o, rfl, h1, rfl⟩ | ⟨i, j, rfl, rfl, rfl⟩
  · exact op_in_seq pins s σ H _ _ v u Q I rx ry ⟨p, xs, rfl, SqE hK h1, h2, h3, k.now r bl_rep⟩
  · exact d_inR hu pins s σ H _ _ v u Q I rx ry ⟨p, o, rfl, h1, k.now r bl_rep⟩
  · exact op_in_str pins s σ H _ _ v u Q I rx ry ⟨i, j, rfl, rfl, k.now r bl_rep⟩
theorem jo_notin (hK : X.K = W.K) (hu : X.A.units + 1 < cLine) : OpR X (compareOp .NotIn) (M2 W dNotIn) := by
  intro pins s σ H x y v u Q I rx ry ⟨ι, st, a, b, d, r, ha, hb, e, k⟩
  unfold dNotIn at e
  rw [Option.map_eq_some_iff] at e
  obtain ⟨c, e, rfl⟩ := e
  rcases inB_ok r ha hb e with ⟨p, xs, rfl, h1, h2, h3, rfl⟩ | ⟨p, o, rfl, h1, rfl⟩ | ⟨i, j, rfl, rfl, rfl⟩
  · exact op_notIn_seq pins s σ H _ _ v u Q I rx ry ⟨p, xs, rfl, SqE hK h1, h2, h3, k.now r bl_rep⟩
  · exact d_notInR hu pins s σ H _ _ v u Q I rx ry ⟨p, o, rfl, h1, k.now r bl_rep⟩
  · exact op_notIn_str pins s σ H _ _ v u Q I rx ry ⟨i, j, rfl, rfl, k.now r bl_rep⟩
def dAddI (a b : D) (_ : Store) : Option D := match a, b with
  | .int i, .int j => some (.int (i + j))
  | _, _ => none
theorem ji_add : PIp X .Add (M2 W dAddI) := by
  intro pins s σ H x y v u Q I rx ry ⟨ι, st, a, b, d, r, ha, hb, e, k⟩
  unfold dAddI at e
  split at e
  · cases e
    cases rep_int ha
    cases rep_int hb
    exact ip_add pins s σ H _ _ v u Q I rx ry ⟨_, _, rfl, rfl, k.now r int_rep⟩
  · cases e
theorem ji_sub : PIp X .Sub (M2 W dSub) := by
  intro pins s σ H x y v u Q I rx ry ⟨ι, st, a, b, d, r, ha, hb, e, k⟩
  unfold dSub at e
  split at e
  · cases e
    cases rep_int ha
    cases rep_int hb
    exact ip_sub pins s σ H _ _ v u Q I rx ry ⟨_, _, rfl, rfl, k.now r int_rep⟩
  · cases e

/-! ### slices -/
def cutD (xs : List D) (lo hi : Option Int) : List D := (xs.drop (HT.sIx xs.length 0 lo)).take (HT.sIx xs.length xs.length hi - HT.sIx xs.length 0 lo)
open Classical in
noncomputable def dSl (x : D) (lo hi : Option Int) (st : Store) : Option D := match x with
  | .tup xs => some (.tup (cutD xs lo hi))
  | .tpf xs => some (.tpf (cutD xs lo hi))
  | .str z => if z.length ≤ sizeLine then some (.str (cutS z lo hi)) else none
  | .scr ns => some (.lst (cutD (ns.map .int) lo hi))
  | _ => (seqL st x).map fun xs => .lst (cutD xs lo hi)
abbrev OM := Env → Store → Option (Option Int × Store)
def oNone : OM := fun _ st => some (none, st)
def oSome (m : EM) : OM := fun env st => match m env st with
  | some (.int i, s1) => some (some i, s1)
  | _ => none
noncomputable def eSl (mx : EM) (ml mh : OM) : EM := fun env st => match mx env st with
  | some (x, s1) => match ml env s1 with
    | some (lo, s2) => match mh env s2 with
      | some (hi, s3) => (dSl x lo hi s3).map (·, s3)
      | none => none
    | none => none
  | none => none
def TOm (W : Wd) (m : OM) : TO := fun σ H Q => ∃ ι st env o st', RelH W ι H st ∧ REnv W ι H env σ ∧ m env st = some (o, st') ∧ ∀ ι' H', Grow ι H ι' H' → RelH W ι' H' st' → Q o H'
def MSl (W : Wd) : V → Option Int → Option Int → Hp → VK → Prop := fun x lo hi H Q => ∃ ι st a d, RelH W ι H st ∧ Rep W ι H a x ∧ dSl a lo hi st = some d ∧ OkE W ι H d st Q
/-- a slice of a tuple: itself, or a new one that is known to the object -/
def rSlF (K : PySem.W.Frag) : V → Option Int → Option Int → Hp → VK → Prop := fun x lo hi H Q => ∃ a xs, x = .ref a ∧ SqT K H a xs ∧
  (HT.sIx xs.length 0 lo = 0 ∧ HT.sIx xs.length xs.length hi = xs.length → Q (.ref a) H) ∧
  (¬ (HT.sIx xs.length 0 lo = 0 ∧ HT.sIx xs.length xs.length hi = xs.length) → ∀ p, H p = none → ∀ o : Obj, o.cls = .type "tuple" ∧ o.dict = none → Q (.ref p) (upd H p (.frz o (.tup (cutV xs lo hi)))))
theorem sl_tpf {X : Cx} : SlR X (rSlF X.K) := by
  intro pins s σ H x v vl vu lo hi sl Q I rx hs pl pu h
  obtain ⟨a, xs, rfl, hx, q1, q2⟩ := h
  by_cases hw : HT.sIx xs.length 0 lo = 0 ∧ HT.sIx xs.length xs.length hi = xs.length
  · exact sl_tupA pins s σ H _ v vl vu lo hi sl Q I rx hs pl pu ⟨a, xs, rfl, hx, q1, fun n => absurd hw n⟩
  · cases rx
    obtain ⟨its, r, ht, hz⟩ := I.tuple hx
    have hlen : its.toArray.size = xs.length := by rw [List.size_toArray]; exact r.length.symm
    refine ⟨"tuple", _, PyProof.Rows.slot_tuple_getitem.lookup, ht.typeIs, ?_⟩
    refine HT.getItem_tuple_cut ht hs pl pu (by rw [hlen]; exact hw) ?_ (by rw [hlen]; exact hz)
    rw [hlen]
    refine ⟨.ref s.heap.objs.size, _, I.laid (t' := s.toks) (o := .frz { cls := .type "tuple", data := .seq ((its.toArray.toList.drop (HT.sIx xs.length 0 lo)).take (HT.sIx xs.length xs.length hi - HT.sIx xs.length 0 lo)).toArray } (.tup (cutV xs lo hi))) (fun b ob q => Heap.get?_push_of_some _ q) (Nat.le_refl _) ?_, rfl, q2 hw _ (I.hok.fresh (Nat.le_refl _)) _ ⟨rfl, rfl⟩⟩
    exact ⟨Heap.get?_push_size _ rfl, Nat.le_trans (cutV_length xs lo hi) hz, _, (r.drop (HT.sIx xs.length 0 lo)).take (HT.sIx xs.length xs.length hi - HT.sIx xs.length 0 lo), IsTup.new _ _⟩
theorem cutD_rep {ι : Lay} {H : Hp} {xs : List D} {vs : List V} (h : Reps W ι H xs vs) (lo hi : Option Int) : Reps W ι H (cutD xs lo hi) (cutV vs lo hi) := by
  unfold cutD cutV
  rw [h.length]
  exact (h.drop _).take _
theorem j_sl (hK : X.K = W.K) : SlR X (MSl W) := by
  intro pins s σ H x v vl vu lo hi sl Q I rx hs pl pu ⟨ι, st, a, d, r, ha, e, k⟩
  unfold dSl at e
  split at e
  · rename_i xs
    cases e
    obtain ⟨p, us, rfl, h1, h2⟩ := seqT_ok ha (xs := xs) rfl
    refine sl_tupA pins s σ H _ v vl vu lo hi sl Q I rx hs pl pu ⟨p, us, rfl, SqT.of h1, fun z => k.now r ?_, fun _ q hq => k.tup r (cutD_rep h2 lo hi) hq⟩
    have e1 : cutD xs lo hi = xs := by
      unfold cutD
      rw [h2.length, z.1, z.2, List.drop_zero, Nat.sub_zero, ← h2.length, List.take_length]
    simp only [Rep, e1]
    exact ⟨p, rfl, us, h1, h2⟩
  · rename_i xs
    cases e
    obtain ⟨p, o, us, rfl, h0, h1, hq, h2⟩ := tpf_ok ha
    refine sl_tpf pins s σ H _ v vl vu lo hi sl Q I rx hs pl pu ⟨p, us, rfl, hK ▸ hq, fun z => k.now r ?_, fun _ q hq o ho => k.tpf r (cutD_rep h2 lo hi) hq ho⟩
    have e1 : cutD xs lo hi = xs := by
      unfold cutD
      rw [h2.length, z.1, z.2, List.drop_zero, Nat.sub_zero, ← h2.length, List.take_length]
    simp only [Rep, e1]
    exact ⟨p, rfl, o, us, h0, h1, h2⟩
  · split at e
    · rename_i hz
      cases e
      cases rep_str ha
      exact sl_str pins s σ H _ v vl vu lo hi sl Q I rx hs pl pu ⟨_, rfl, hz, k.now r str_rep⟩
    · cases e
  · rename_i ns
    cases e
    simp only [Rep] at ha
    obtain ⟨p, rfl, h1⟩ := ha
    refine sl_list pins s σ H _ v vl vu lo hi sl Q I rx hs pl pu ⟨p, _, rfl, hK ▸ h1.sq, fun q hq => k.lst r (cutD_rep (Reps.map (g := V.int) fun x _ => int_rep) lo hi) hq⟩
  · rw [Option.map_eq_some_iff] at e
    obtain ⟨xs, e1, rfl⟩ := e
    obtain ⟨p, us, rfl, h1, h2⟩ := seqL_ok r ha e1
    exact sl_list pins s σ H _ v vl vu lo hi sl Q I rx hs pl pu ⟨p, us, rfl, SqL.of h1, fun q hq => k.lst r (cutD_rep h2 lo hi) hq⟩
theorem jp_none : PO X none (TOm W oNone) := ⟨fun pins s σ H Q I ⟨ι, st, env, o, st', r, n, e, k⟩ => by
  cases e
  exact po_none.run pins s σ H Q I (k _ _ Grow.refl r)⟩
theorem jp_some {e : Expr} {m : EM} (h : PE X e (T W m)) : PO X (some e) (TOm W (oSome m)) := ⟨fun pins s σ H Q I ⟨ι, st, env, o, st', r, n, e, k⟩ => by
  refine (po_some h).run pins s σ H Q I ?_
  unfold oSome at e
  split at e
  · rename_i i s1 q
    cases e
    exact T.of r n q fun v ι1 H1 g1 r1 p1 => ⟨i, rep_int p1, k _ _ g1 r1⟩
  · cases e⟩
theorem j_slice {e : Expr} {lo hi : Option Expr} {p2 pos : Pos} {m : EM} {ml mh : OM} (hK : X.K = W.K) (he : PE X e (T W m)) (hl : PO X lo (TOm W ml)) (hh : PO X hi (TOm W mh)) : PE X (.Subscript e (.Slice lo hi none p2) pos) (T W (eSl m ml mh)) :=
  (pe_slice (j_sl (W := W) hK) he hl hh).imp fun σ H Q ⟨ι, st, env, d, st', r, n, e, k⟩ => by
    unfold eSl at e
    split at e
    · rename_i x s1 q1
      split at e
      · rename_i o1 s2 q2
        split at e
        · rename_i o2 s3 q3
          rw [Option.map_eq_some_iff] at e
          obtain ⟨d', e1, e2⟩ := e
          cases e2
          exact T.of r n q1 fun v ι1 H1 g1 r1 p1 => ⟨ι1, s1, env, o1, s2, r1, n.grow g1, q2, fun ι2 H2 g2 r2 => ⟨ι2, s2, env, o2, _, r2, (n.grow g1).grow g2, q3, fun ι3 H3 g3 r3 => ⟨ι3, _, x, d, r3, Rep.grow g3 _ _ (Rep.grow g2 _ _ p1), e1, k.go ((g1.trans g2).trans g3)⟩⟩⟩
        · cases e
      · cases e
    · cases e

/-! ### o[i] = v -/
open Classical in
noncomputable def dPut (o i v : D) (st : Store) : Option Store := match o with
  | .ref n => match st[n]? with
    | some (.lst xs) => match i with
      | .int k => match ixN xs.length k with
        | some j => some (st.set n (.lst (xs.set j v)))
        | none => none
      | _ => none
    | some (.dk ks vs) => match keyOf i with
      | some k => if ks.length < sizeLine then some (st.set n (.dk (kPutK ks k) (kPutV ks vs k v))) else none
      | none => match ks, vs, tkeyOf i with
        | [], [], some k => none
        | _, _, _ => none
    | some (.dt ks vs) => match tkeyOf i with
      | some k => if ks.length < sizeLine then some (st.set n (.dt (kPutK ks k) (kPutV ks vs k v))) else none
      | none => none
    | _ => none
  | _ => none
theorem set_dict (hu : X.A.units + 1 < cLine) : PSet X (fun o i v H Q => ∃ a H', o = .ref a ∧ DPut H a i v H' ∧ Q H') := by
  intro pins s σ H o i v ov iv u Q I ro ri rv ⟨a, H', e, g, q⟩
  subst e
  cases ro
  exact d_setItem hu I g ri rv fun s' I' => ⟨H', I', q⟩
theorem jp_set (hu : X.A.units + 1 < cLine) : PSet X (M3 W dPut) := by
  intro pins s σ H o i v ov iv u Q I ro ri rv ⟨ι, st, a, b, c, st', r, ha, hb, hc, e, k⟩
  unfold dPut at e
  split at e
  · rename_i n
    obtain ⟨p, cc, rfl, h1, h2, h3⟩ := rep_ref r ha
    rw [h2] at e
    obtain ⟨w, hw, mw⟩ := h3.there
    have g : ∀ o', Grow ι H ι (upd H p o') := fun o' => Grow.put h1 hw mw
    split at e
    · rename_i xs q
      cases q
      obtain ⟨us, h4, h5⟩ := h3
      split at e
      · rename_i kk
        split at e
        · rename_i j q
          cases e
          cases rep_int hb
          refine set_list pins s σ H _ _ _ ov iv u Q I ro ri rv ⟨p, us, kk, j, rfl, rfl, h4, by rw [← h5.length]; exact q, ?_⟩
          exact k _ _ (g _) (r.put h1 ⟨_, upd_same, Reps.grow (g _) _ _ (h5.set hc j)⟩)
        · cases e
      · cases e
    · rename_i ks vs q
      cases q
      obtain ⟨us, h4, h5, h6⟩ := h3
      split at e
      · rename_i kk q
        split at e
        · rename_i hz
          cases e
          cases keyOf_ok q hb
          obtain ⟨us', e1, e2, e3⟩ := kPut_ok (k := kk) h6 h5 hc
          refine set_dict hu pins s σ H _ _ _ ov iv u Q I ro ri rv ⟨p, _, rfl, DPut.k (k := kk) h4 (by rw [List.length_zip, ← h6.length, ← h5]; omega), ?_⟩
          rw [e1]
          exact k _ _ (g _) (r.put h1 ⟨us', upd_same, e2, Reps.grow (g _) _ _ e3⟩)
        · cases e
      · split at e <;> cases e
    · rename_i ks vs q
      cases q
      obtain ⟨us, h4, h5, h6⟩ := h3
      split at e
      · rename_i kk q
        split at e
        · rename_i hz
          cases e
          unfold tkeyOf at q
          split at q
          · rename_i ds
            obtain ⟨b', ws, rfl, h7, h8⟩ := seqT_ok hb (xs := ds) rfl
            have e7 := keysOf_ok q h8
            subst e7
            obtain ⟨us', e1, e2, e3⟩ := kPut_ok (k := kk) h6 h5 hc
            refine set_dict hu pins s σ H _ _ _ ov iv u Q I ro ri rv ⟨p, _, rfl, DPut.t (k := kk) h4 h7 (by rw [List.length_zip, ← h6.length, ← h5]; omega), ?_⟩
            rw [e1]
            exact k _ _ (g _) (r.put h1 ⟨us', upd_same, e2, Reps.grow (g _) _ _ e3⟩)
          · cases q
        · cases e
      · cases e
    · cases e
  · cases e
/-- {} that will be written -/
def eDkM : EM := fun _ st => some (.ref st.length, st ++ [.dk [] []])
def eDtM : EM := fun _ st => some (.ref st.length, st ++ [.dt [] []])
theorem OkE.cellM {ι : Lay} {H : Hp} {c : D} {o : HO} {st : Store} {Q : VK} {p : Addr} (k : OkE W ι H (.ref st.length) (st ++ [c]) Q) (r : RelH W ι H st) (hp : H p = none) (ok : CellOk W (ι.add p) (upd H p o) p c) : Q (.ref p) (upd H p o) :=
  k _ (ι.add p) _ (Grow.cell hp) (r.new hp ok) (by simp only [Rep]; exact ⟨p, rfl, by rw [← r.len]; show (ι.c ++ [p])[_]? = _; simp⟩)
theorem j_dkM {pos : Pos} : PE X (.Dict [] [] pos) (T W eDkM) := pe_dnewK.imp fun σ H Q ⟨ι, st, env, d, st', r, n, e, k⟩ => by
  cases e
  exact fun p hp => k.cellM r hp ⟨[], upd_same, rfl, Reps.nil⟩
theorem j_dtM {pos : Pos} : PE X (.Dict [] [] pos) (T W eDtM) := pe_dnewT.imp fun σ H Q ⟨ι, st, env, d, st', r, n, e, k⟩ => by
  cases e
  exact fun p hp => k.cellM r hp ⟨[], upd_same, rfl, Reps.nil⟩
end

/-! ### builtin functions -/
open Classical in
noncomputable def fLen : FM := ro fun ds st => match ds with
  | [d] => match seqA st d with
    | some xs => some (.int xs.length)
    | none => match dicK st d with
      | some (ks, _) => some (.int ks.length)
      | none => match dicT st d with
        | some (ks, _) => some (.int ks.length)
        | none => match d with
          | .str z => if z.length ≤ sizeLine then some (.int z.length) else none
          | _ => none
  | _ => none
def fAbs : FM := ro fun ds _ => match ds with
  | [.int i] => some (.int (if i < 0 then -i else i))
  | _ => none
def fInt : FM := ro fun ds _ => match ds with
  | [.int i] => some (.int i)
  | [.bl b] => some (.int (if b then 1 else 0))
  | _ => none
def fMax : FM := ro fun ds st => match ds with
  | [.int i, .int j] => some (.int (if j > i then j else i))
  | [d] => match seqL st d with
    | some xs => match intsOf xs with
      | some ns => ns.max?.map .int
      | none => none
    | none => none
  | _ => none
def fMin : FM := ro fun ds st => match ds with
  | [.int i, .int j] => some (.int (if j < i then j else i))
  | [d] => match seqL st d with
    | some xs => match intsOf xs with
      | some ns => ns.min?.map .int
      | none => none
    | none => none
  | _ => none
def fSum : FM := ro fun ds st => match ds with
  | [.tup xs] => (intsOf xs).map fun ns => .int ns.sum
  | [d] => match seqL st d with
    | some xs => (intsOf xs).map fun ns => .int ns.sum
    | none => none
  | _ => none
def fAll : FM := ro fun ds st => match ds with
  | [d] => match seqL st d with
    | some xs => (bolsOf xs).map fun ns => .bl (ns.all id)
    | none => none
  | _ => none
def fAny : FM := ro fun ds st => match ds with
  | [d] => match seqL st d with
    | some xs => (bolsOf xs).map fun ns => .bl (ns.any id)
    | none => none
  | _ => none
def isort (ns : List Int) : List Int := ns.mergeSort fun a b => decide (a ≤ b)
def fSortedL : FM := ro fun ds st => match ds with
  | [d] => match seqL st d with
    | some xs => (intsOf xs).map fun ns => .lst ((isort ns).map .int)
    | none => none
  | _ => none
/-- sorted of a dict of ints -/
def lKeys : List Key → Option (List Int)
  | [] => some []
  | .inl i :: ks => (lKeys ks).map (i :: ·)
  | _ => none
open Classical in
noncomputable def fSortedD : FM := ro fun ds st => match ds with
  | [d] => match dicK st d with
    | some (ks, _) => match lKeys ks with
      | some ns => if ns.length < 64 then some (.lst ((isort ns).map .int)) else none
      | none => none
    | none => none
  | _ => none
def fTuple : FM := ro fun ds st => match ds with
  | [.tpf xs] => some (.tpf xs)
  | [d] => (seqA st d).map .tup
  | _ => none
def fList : FM := ro fun ds st => match ds with
  | [d] => (seqA st d).map .lst
  | _ => none
/-- list(xs) that will be written -/
def fListM : FM := fun ds st => match ds with
  | [d] => match seqA st d with
    | some xs => some (.ref st.length, st ++ [.lst xs])
    | none => none
  | _ => none
open Classical in
noncomputable def fRepr : FM := ro fun ds st => match ds with
  | [d] => match pyOf st d with
    | some p => if Tx 16777216 60 p then some (.str p.shown) else none
    | none => none
  | _ => none
def tyName : D → Option String
  | .non => some "NoneType"
  | .bl _ => some "bool"
  | .int _ => some "int"
  | .str _ => some "str"
  | .tup _ => some "tuple"
  | .tpf _ => some "tuple"
  | .lst _ => some "list"
  | .dk _ _ => some "dict"
  | .dt _ _ => some "dict"
  | _ => none
def tyNameS (st : Store) : D → Option String
  | .ref i => match st[i]? with
    | some (.lst _) => some "list"
    | some (.dk _ _) => some "dict"
    | some (.dt _ _) => some "dict"
    | _ => none
  | d => tyName d
def fIsi : FM := ro fun ds st => match ds with
  | [d, .ty n] => match tyNameS st d with
    | some m => (kitB m n).map .bl
    | none => none
  | _ => none
open Classical in
noncomputable def fStr : FM := ro fun ds _ => match ds with
  | [.int i] => if i.natAbs.log2 < 1920 then some (.str (toString i)) else none
  | [.str z] => some (.str z)
  | _ => none
section
variable {X : Cx} {W : Wd}
theorem ro_ok {f : List D → Store → Option D} {ds : List D} {st st' : Store} {d : D} (h : ro f ds st = some (d, st')) : f ds st = some d ∧ st' = st := by
  unfold ro at h
  rw [Option.map_eq_some_iff] at h
  obtain ⟨x, h1, h2⟩ := h
  cases h2
  exact ⟨h1, rfl⟩
theorem reps1 {ι : Lay} {H : Hp} {d : D} {vs : List V} (h : Reps W ι H [d] vs) : ∃ v, vs = [v] ∧ Rep W ι H d v := by
  obtain ⟨v, r, rfl, h1, h2⟩ := h.uncons
  rw [h2.nil_of]
  exact ⟨v, rfl, h1⟩
theorem reps2 {ι : Lay} {H : Hp} {d e : D} {vs : List V} (h : Reps W ι H [d, e] vs) : ∃ v u, vs = [v, u] ∧ Rep W ι H d v ∧ Rep W ι H e u := by
  obtain ⟨v, r, rfl, h1, h2⟩ := h.uncons
  obtain ⟨u, rfl, h3⟩ := reps1 h2
  exact ⟨v, u, rfl, h1, h3⟩
theorem jc_len (hK : X.K = W.K) : CallR X (.builtin "len") (MA W fLen) := by
  intro pins s σ H xs us Q I rx ⟨ι, st, ds, d, st', r, h, e, k⟩
  replace e := ro_ok e
  obtain ⟨e, rfl⟩ := e
  split at e
  · rename_i x
    obtain ⟨v, rfl, hv⟩ := reps1 h
    split at e
    · rename_i ys q
      cases e
      obtain ⟨p, ws, rfl, h1, h2⟩ := seqA_ok r hv q
      refine call_len_seq pins s σ H _ us Q I rx ⟨p, ws, rfl, SqE hK h1, ?_⟩
      rw [← h2.length]
      exact k.now r int_rep
    · split at e
      · rename_i ks vs q
        cases e
        obtain ⟨p, ws, rfl, h1, h2, h3⟩ := dicK_ok r hv q
        refine call_lenD pins s σ H _ us Q I rx ⟨p, _, rfl, h1, ?_⟩
        have e1 : (ks.zip ws).length = ks.length := by rw [List.length_zip, ← h3.length, ← h2]; omega
        rw [e1]
        exact k.now r int_rep
      · split at e
        · rename_i ks vs q
          cases e
          obtain ⟨p, ws, rfl, h1, h2, h3⟩ := dicT_ok r hv q
          refine call_len_dT pins s σ H _ us Q I rx ⟨p, _, rfl, h1, ?_⟩
          have e1 : (ks.zip ws).length = ks.length := by rw [List.length_zip, ← h3.length, ← h2]; omega
          rw [e1]
          exact k.now r int_rep
        · split at e
          · split at e
            · rename_i hz
              cases e
              cases rep_str hv
              exact call_len_str pins s σ H _ us Q I rx ⟨_, rfl, hz, k.now r int_rep⟩
            · cases e
          · cases e
  · cases e
theorem jc_abs : CallR X (.builtin "abs") (MA W fAbs) := by
  intro pins s σ H xs us Q I rx ⟨ι, st, ds, d, st', r, h, e, k⟩
  replace e := ro_ok e
  obtain ⟨e, rfl⟩ := e
  split at e
  · cases e
    obtain ⟨v, rfl, hv⟩ := reps1 h
    cases rep_int hv
    exact call_abs pins s σ H _ us Q I rx ⟨_, rfl, k.now r int_rep⟩
  · cases e
theorem jc_int : CallR X (.type "int") (MA W fInt) := by
  intro pins s σ H xs us Q I rx ⟨ι, st, ds, d, st', r, h, e, k⟩
  replace e := ro_ok e
  obtain ⟨e, rfl⟩ := e
  split at e
  · cases e
    obtain ⟨v, rfl, hv⟩ := reps1 h
    cases rep_int hv
    exact call_int1 pins s σ H _ us Q I rx (.inl ⟨_, rfl, k.now r int_rep⟩)
  · cases e
    obtain ⟨v, rfl, hv⟩ := reps1 h
    cases rep_bl hv
    exact call_int1 pins s σ H _ us Q I rx (.inr ⟨_, rfl, k.now r int_rep⟩)
  · cases e
theorem list_ints {ι : Lay} {H : Hp} {st : Store} {d : D} {v : V} {ys : List D} {ns : List Int} (r : RelH W ι H st) (h : Rep W ι H d v) (e : seqL st d = some ys) (e2 : intsOf ys = some ns) : ∃ p, v = .ref p ∧ SqL W.K H p (ns.map V.int) := by
  obtain ⟨p, ws, rfl, h1, h2⟩ := seqL_ok r h e
  rw [intsOf_eq e2] at h2
  rw [h2.ints] at h1
  exact ⟨p, rfl, SqL.of h1⟩
theorem list_bols {ι : Lay} {H : Hp} {st : Store} {d : D} {v : V} {ys : List D} {ns : List Bool} (r : RelH W ι H st) (h : Rep W ι H d v) (e : seqL st d = some ys) (e2 : bolsOf ys = some ns) : ∃ p, v = .ref p ∧ SqL W.K H p (ns.map V.bl) := by
  obtain ⟨p, ws, rfl, h1, h2⟩ := seqL_ok r h e
  rw [bolsOf_eq e2] at h2
  have : ws = ns.map V.bl := by
    clear h1 e e2
    induction ns generalizing ws with
    | nil => exact h2.nil_of
    | cons n ns ih =>
      obtain ⟨u, q, rfl, h3, h4⟩ := h2.uncons
      rw [rep_bl h3, ih _ h4]; rfl
  rw [this] at h1
  exact ⟨p, rfl, SqL.of h1⟩
theorem jc_max (hK : X.K = W.K) (hc : X.calm = true) : CallR X (.builtin "max") (MA W fMax) := by
  intro pins s σ H xs us Q I rx ⟨ι, st, ds, d, st', r, h, e, k⟩
  replace e := ro_ok e
  obtain ⟨e, rfl⟩ := e
  split at e
  · cases e
    obtain ⟨v, u, rfl, hv, hu⟩ := reps2 h
    cases rep_int hv
    cases rep_int hu
    exact call_max2 hc pins s σ H _ us Q I rx ⟨_, _, rfl, k.now r int_rep⟩
  · obtain ⟨v, rfl, hv⟩ := reps1 h
    split at e
    · rename_i ys q
      split at e
      · rename_i ns q2
        rw [Option.map_eq_some_iff] at e
        obtain ⟨m, e1, rfl⟩ := e
        obtain ⟨p, rfl, h1⟩ := list_ints r hv q q2
        rw [List.max?_eq_some_iff] at e1
        refine cr_max hc pins s σ H _ us Q I rx ⟨p, ns, rfl, hK ▸ h1, List.length_pos_of_mem e1.1, fun m' h2 h3 => ?_⟩
        have : m' = m := Int.le_antisymm (e1.2 m' h2) (h3 m e1.1)
        rw [this]
        exact k.now r int_rep
      · cases e
    · cases e
  · cases e
theorem jc_min (hK : X.K = W.K) (hc : X.calm = true) : CallR X (.builtin "min") (MA W fMin) := by
  intro pins s σ H xs us Q I rx ⟨ι, st, ds, d, st', r, h, e, k⟩
  replace e := ro_ok e
  obtain ⟨e, rfl⟩ := e
  split at e
  · cases e
    obtain ⟨v, u, rfl, hv, hu⟩ := reps2 h
    cases rep_int hv
    cases rep_int hu
    exact call_min2 hc pins s σ H _ us Q I rx ⟨_, _, rfl, k.now r int_rep⟩
  · obtain ⟨v, rfl, hv⟩ := reps1 h
    split at e
    · rename_i ys q
      split at e
      · rename_i ns q2
        rw [Option.map_eq_some_iff] at e
        obtain ⟨m, e1, rfl⟩ := e
        obtain ⟨p, rfl, h1⟩ := list_ints r hv q q2
        rw [List.min?_eq_some_iff] at e1
        refine cr_min hc pins s σ H _ us Q I rx ⟨p, ns, rfl, hK ▸ h1, List.length_pos_of_mem e1.1, fun m' h2 h3 => ?_⟩
        have : m' = m := Int.le_antisymm (h3 m e1.1) (e1.2 m' h2)
        rw [this]
        exact k.now r int_rep
      · cases e
    · cases e
  · cases e
theorem jc_sum (hK : X.K = W.K) (hc : X.calm = true) : CallR X (.builtin "sum") (MA W fSum) := by
  intro pins s σ H xs us Q I rx ⟨ι, st, ds, d, st', r, h, e, k⟩
  replace e := ro_ok e
  obtain ⟨e, rfl⟩ := e
  split at e
  · rename_i ys
    rw [Option.map_eq_some_iff] at e
    obtain ⟨ns, e1, rfl⟩ := e
    obtain ⟨v, rfl, hv⟩ := reps1 h
    obtain ⟨p, ws, rfl, h1, h2⟩ := seqT_ok hv (xs := ys) rfl
    rw [intsOf_eq e1] at h2
    rw [h2.ints] at h1
    exact cr_sumT hc pins s σ H _ us Q I rx ⟨p, ns, rfl, SqT.of h1, k.now r int_rep⟩
  · obtain ⟨v, rfl, hv⟩ := reps1 h
    split at e
    · rename_i ys q
      rw [Option.map_eq_some_iff] at e
      obtain ⟨ns, e1, rfl⟩ := e
      obtain ⟨p, rfl, h1⟩ := list_ints r hv q e1
      exact cr_sum hc pins s σ H _ us Q I rx ⟨p, ns, rfl, hK ▸ h1, k.now r int_rep⟩
    · cases e
  · cases e
theorem jc_all (hK : X.K = W.K) (hc : X.calm = true) : CallR X (.builtin "all") (MA W fAll) := by
  intro pins s σ H xs us Q I rx ⟨ι, st, ds, d, st', r, h, e, k⟩
  replace e := ro_ok e
  obtain ⟨e, rfl⟩ := e
  split at e
  · obtain ⟨v, rfl, hv⟩ := reps1 h
    split at e
    · rename_i ys q
      rw [Option.map_eq_some_iff] at e
      obtain ⟨ns, e1, rfl⟩ := e
      obtain ⟨p, rfl, h1⟩ := list_bols r hv q e1
      exact cr_all hc pins s σ H _ us Q I rx ⟨p, ns, rfl, hK ▸ h1, k.now r bl_rep⟩
    · cases e
  · cases e
theorem jc_any (hK : X.K = W.K) (hc : X.calm = true) : CallR X (.builtin "any") (MA W fAny) := by
  intro pins s σ H xs us Q I rx ⟨ι, st, ds, d, st', r, h, e, k⟩
  replace e := ro_ok e
  obtain ⟨e, rfl⟩ := e
  split at e
  · obtain ⟨v, rfl, hv⟩ := reps1 h
    split at e
    · rename_i ys q
      rw [Option.map_eq_some_iff] at e
      obtain ⟨ns, e1, rfl⟩ := e
      obtain ⟨p, rfl, h1⟩ := list_bols r hv q e1
      exact cr_any hc pins s σ H _ us Q I rx ⟨p, ns, rfl, hK ▸ h1, k.now r bl_rep⟩
    · cases e
  · cases e
theorem isort_eq {ns ms : List Int} (p : ms.Perm ns) (w : ms.Pairwise (· ≤ ·)) : ms = isort ns := by
  have p2 : (isort ns).Perm ns := List.mergeSort_perm _ _
  have w2 : (isort ns).Pairwise (· ≤ ·) := by
    have := List.pairwise_mergeSort (le := fun a b : Int => decide (a ≤ b)) (fun a b c h1 h2 => by simp at *; omega) (fun a b => by simp; omega) ns
    exact this.imp fun h => by simpa using h
  exact (p.trans p2.symm).eq_of_pairwise (fun a b _ _ h1 h2 => Int.le_antisymm h1 h2) w w2
theorem jc_sortedL (hK : X.K = W.K) : CallR X (.builtin "sorted") (MA W fSortedL) := by
  intro pins s σ H xs us Q I rx ⟨ι, st, ds, d, st', r, h, e, k⟩
  replace e := ro_ok e
  obtain ⟨e, rfl⟩ := e
  split at e
  · obtain ⟨v, rfl, hv⟩ := reps1 h
    split at e
    · rename_i ys q
      rw [Option.map_eq_some_iff] at e
      obtain ⟨ns, e1, rfl⟩ := e
      obtain ⟨p, rfl, h1⟩ := list_ints r hv q e1
      refine cr_sortedI pins s σ H _ us Q I rx ⟨p, ns, rfl, hK ▸ h1, fun ms l pm w hl => ?_⟩
      rw [isort_eq pm w]
      exact k.lst r (Reps.map fun x _ => int_rep) hl
    · cases e
  · cases e
theorem lKeys_eq : ∀ {ks : List Key} {ns : List Int}, lKeys ks = some ns → ks = ns.map Sum.inl
  | [], _, h => by cases h; rfl
  | k :: ks, ns, h => by
    cases k with
    | inl i =>
      simp only [lKeys, Option.map_eq_some_iff] at h
      obtain ⟨ms, h1, rfl⟩ := h
      rw [lKeys_eq h1]; rfl
    | inr x => simp [lKeys] at h
theorem jc_sortedD (hc : X.calm = true) : CallR X (.builtin "sorted") (MA W fSortedD) := by
  intro pins s σ H xs us Q I rx ⟨ι, st, ds, d, st', r, h, e, k⟩
  replace e := ro_ok e
  obtain ⟨e, rfl⟩ := e
  split at e
  · obtain ⟨v, rfl, hv⟩ := reps1 h
    split at e
    · rename_i ks vs q
      split at e
      · rename_i ns q2
        split at e
        · rename_i hz
          cases e
          obtain ⟨p, ws, rfl, h1, h2, h3⟩ := dicK_ok r hv q
          refine call_sortedDI hc pins s σ H _ us Q I rx ⟨p, _, ns, rfl, .inl h1, ?_, hz, fun ms l pm w hl => ?_⟩
          · rw [← lKeys_eq q2]
            exact List.map_fst_zip (by rw [← h3.length, ← h2]; exact Nat.le_refl _)
          · rw [isort_eq pm w]
            exact k.lst r (Reps.map fun x _ => int_rep) hl
        · cases e
      · cases e
    · cases e
  · cases e
noncomputable def fSorted : FM := fun ds st => match fSortedL ds st with
  | some r => some r
  | none => fSortedD ds st
theorem jc_sorted (hK : X.K = W.K) (hc : X.calm = true) : CallR X (.builtin "sorted") (MA W fSorted) := by
  intro pins s σ H xs us Q I rx ⟨ι, st, ds, d, st', r, h, e, k⟩
  unfold fSorted at e
  split at e
  · rename_i r2 q
    cases e
    exact jc_sortedL (W := W) hK pins s σ H xs us Q I rx ⟨ι, st, ds, d, st', r, h, q, k⟩
  · exact jc_sortedD (W := W) hc pins s σ H xs us Q I rx ⟨ι, st, ds, d, st', r, h, e, k⟩
theorem jc_tuple (hK : X.K = W.K) : CallR X (.type "tuple") (MA W fTuple) := by
  intro pins s σ H xs us Q I rx ⟨ι, st, ds, d, st', r, h, e, k⟩
  replace e := ro_ok e
  obtain ⟨e, rfl⟩ := e
  split at e
  · rename_i zs
    obtain ⟨v, rfl, hv⟩ := reps1 h
    cases e
    obtain ⟨p, o, ws, rfl, _, _, h1, h2⟩ := tpf_ok hv
    exact call_tuple_of pins s σ H _ us Q I rx ⟨p, ws, rfl, .inr ⟨hK ▸ h1, k.now r hv⟩⟩
  · rename_i x nx
    obtain ⟨v, rfl, hv⟩ := reps1 h
    rw [Option.map_eq_some_iff] at e
    obtain ⟨ys, e1, rfl⟩ := e
    cases hT : seqT x with
    | none =>
      cases hF : isTpf x with
      | true =>
        cases x <;> simp only [isTpf] at hF <;> first | exact (nx _ rfl).elim | cases hF
      | false =>
      obtain ⟨p, ws, rfl, h1, h2⟩ := seqA_list r hv e1 hT hF
      exact call_tuple_of pins s σ H _ us Q I rx ⟨p, ws, rfl, .inl ⟨hK ▸ h1, fun l hl => k.tup r h2 hl⟩⟩
    | some zs =>
      cases x with
      | tup as =>
        cases e1
        obtain ⟨p, ws, rfl, h1, h2⟩ := seqT_ok hv (xs := ys) rfl
        exact call_tuple_of pins s σ H _ us Q I rx ⟨p, ws, rfl, .inr ⟨SqT.of h1, k.now r hv⟩⟩
      | _ => cases hT
  · cases e
theorem jc_list (hK : X.K = W.K) : CallR X (.type "list") (MA W fList) := by
  intro pins s σ H xs us Q I rx ⟨ι, st, ds, d, st', r, h, e, k⟩
  replace e := ro_ok e
  obtain ⟨e, rfl⟩ := e
  split at e
  · obtain ⟨v, rfl, hv⟩ := reps1 h
    rw [Option.map_eq_some_iff] at e
    obtain ⟨ys, e1, rfl⟩ := e
    obtain ⟨p, ws, rfl, h1, h2⟩ := seqA_ok r hv e1
    exact call_list_of pins s σ H _ us Q I rx ⟨p, ws, rfl, SqE hK h1, fun l hl => k.lst r h2 hl⟩
  · cases e
theorem jc_listM (hK : X.K = W.K) : CallR X (.type "list") (MA W fListM) := by
  intro pins s σ H xs us Q I rx ⟨ι, st, ds, d, st', r, h, e, k⟩
  unfold fListM at e
  split at e
  · obtain ⟨v, rfl, hv⟩ := reps1 h
    split at e
    · rename_i ys q
      cases e
      obtain ⟨p, ws, rfl, h1, h2⟩ := seqA_ok r hv q
      exact call_list_of pins s σ H _ us Q I rx ⟨p, ws, rfl, SqE hK h1, fun l hl => k.lstM r h2 hl⟩
    · cases e
  · cases e
theorem jc_repr {n : Nat} (hK : X.K = W.K) (hg : X.A.guards = some []) (hr : Room n X.A) : CallR X (.builtin "repr") (MA W fRepr) := by
  intro pins s σ H xs us Q I rx ⟨ι, st, ds, d, st', r, h, e, k⟩
  replace e := ro_ok e
  obtain ⟨e, rfl⟩ := e
  split at e
  · obtain ⟨v, rfl, hv⟩ := reps1 h
    split at e
    · rename_i p q
      split at e
      · rename_i tx
        cases e
        exact call_repr hg hr pins s σ H _ us Q I rx ⟨v, p, rfl, hK ▸ pyOf_ok r q hv, tx, k.now r str_rep⟩
      · cases e
    · cases e
  · cases e
theorem tyName_ok {ι : Lay} {H : Hp} {st : Store} {d : D} {v : V} {m : String} (r : RelH W ι H st) (h : Rep W ι H d v) (e : tyNameS st d = some m) : TyX W.K H v (.type m) := by
  cases d with
  | non => cases e; cases rep_non h; exact .base .non
  | bl b => cases e; cases rep_bl h; exact .base (.bl b)
  | int b => cases e; cases rep_int h; exact .base (.int b)
  | str b => cases e; cases rep_str h; exact .base (.str b)
  | tup ds => cases e; simp only [Rep] at h; obtain ⟨a, rfl, vs, h1, _⟩ := h; exact .base (.tup h1)
  | tpf ds => cases e; obtain ⟨a, o, vs, rfl, _, h1, _⟩ := tpf_ok h; exact .fTuple h1
  | lst ds => cases e; simp only [Rep] at h; obtain ⟨a, rfl, _, vs, h1, _⟩ := h; exact .base (.lst h1)
  | dk ks ds => cases e; simp only [Rep] at h; obtain ⟨a, rfl, _, vs, h1, _⟩ := h; exact .base (.dK h1)
  | dt ks ds => cases e; simp only [Rep] at h; obtain ⟨a, rfl, _, vs, h1, _⟩ := h; exact .base (.dT h1)
  | ref i =>
    obtain ⟨a, c, rfl, _, h2, h3⟩ := rep_ref r h
    simp only [tyNameS, h2] at e
    cases c with
    | lst ds => cases e; obtain ⟨vs, h1, _⟩ := h3; exact .base (.lst h1)
    | dk ks ds => cases e; obtain ⟨vs, h1, _⟩ := h3; exact .base (.dK h1)
    | dt ks ds => cases e; obtain ⟨vs, h1, _⟩ := h3; exact .base (.dT h1)
    | _ => cases e
  | _ => cases e
theorem jc_isi (hK : X.K = W.K) : CallR X (.builtin "isinstance") (MA W fIsi) := by
  intro pins s σ H xs us Q I rx ⟨ι, st, ds, d, st', r, h, e, k⟩
  replace e := ro_ok e
  obtain ⟨e, rfl⟩ := e
  split at e
  · rename_i x n
    obtain ⟨v, u, rfl, hv, hu⟩ := reps2 h
    have : u = .ty n := by simpa only [Rep] using hu
    subst this
    split at e
    · rename_i m q
      rw [Option.map_eq_some_iff] at e
      obtain ⟨b, e1, rfl⟩ := e
      have ty := tyName_ok r hv q
      rw [← hK] at ty
      exact call_isi pins s σ H _ us Q I rx ⟨v, _, _, _, b, rfl, .ty n, ty, kit_ty e1, k.now r bl_rep⟩
    · cases e
  · cases e
theorem jc_str : CallR X (.type "str") (MA W fStr) := by
  intro pins s σ H xs us Q I rx ⟨ι, st, ds, d, st', r, h, e, k⟩
  replace e := ro_ok e
  obtain ⟨e, rfl⟩ := e
  split at e
  · split at e
    · rename_i hz
      cases e
      obtain ⟨v, rfl, hv⟩ := reps1 h
      cases rep_int hv
      exact call_str_int pins s σ H _ us Q I rx ⟨_, rfl, hz, k.now r str_rep⟩
    · cases e
  · cases e
    obtain ⟨v, rfl, hv⟩ := reps1 h
    cases rep_str hv
    exact SkE.call_str_str pins s σ H _ us Q I rx ⟨_, rfl, k.now r str_rep⟩
  · cases e
end
/-! ### methods of builtin types -/
abbrev MM := D → List D → Store → Option (D × Store)
def MMt (W : Wd) (F : MM) : V → List V → Hp → VK → Prop := fun x vs H Q => ∃ ι st o as d st', RelH W ι H st ∧ Rep W ι H o x ∧ Reps W ι H as vs ∧ F o as st = some (d, st') ∧ OkE W ι H d st' Q
def tyD (T : String) (st : Store) (o : D) : Prop := tyNameS st o = some T ∧ T ≠ "tuple" ∧ T ≠ "NoneType" ∧ T ≠ "bool"
open Classical in
noncomputable def eBM (T : String) (F : MM) (mo : EM) (ma : AM) : EM := fun env st => match mo env st with
  | some (o, s1) => if tyD T s1 o then match ma env s1 with
    | some (xs, s2) => F o xs s2
    | none => none
    else none
  | none => none
def mAppend : MM := fun o as st => match o, as with
  | .ref n, [y] => match st[n]? with
    | some (.lst xs) => if xs.length < sizeLine then some (.non, st.set n (.lst (xs ++ [y]))) else none
    | _ => none
  | _, _ => none
def mExtend : MM := fun o as st => match o, as with
  | .ref n, [y] => match st[n]?, seqL st y with
    | some (.lst xs), some ys => if xs.length + ys.length ≤ sizeLine then some (.non, st.set n (.lst (xs ++ ys))) else none
    | _, _ => none
  | _, _ => none
def mPop : MM := fun o as st => match o, as with
  | .ref n, [] => match st[n]? with
    | some (.lst xs) => match xs[xs.length - 1]? with
      | some y => some (y, st.set n (.lst xs.dropLast))
      | none => none
    | _ => none
  | .ref n, [.int i] => match st[n]? with
    | some (.lst xs) => if -(2 ^ 63) ≤ i ∧ i < 2 ^ 63 then match seqIndex? i xs.length with
      | some k => match xs[k]? with
        | some y => some (y, st.set n (.lst (xs.eraseIdx k)))
        | none => none
      | none => none
      else none
    | _ => none
  | _, _ => none
section
variable {X : Cx} {W : Wd} {o e : Expr} {es : List Expr} {mo : EM} {ma : AM} {F : MM} {name : Str} {apos cpos : Pos} {Ty id : String}
theorem tyD_ok {ι : Lay} {H : Hp} {st : Store} {d : D} {v : V} {T : String} (r : RelH W ι H st) (h : Rep W ι H d v) (e : tyD T st d) : tyV W.K T v H := by
  obtain ⟨e, n1, n2, n3⟩ := e
  cases d with
  | non => cases e; exact absurd rfl n2
  | bl b => cases e; exact absurd rfl n3
  | int b => cases e; cases rep_int h; exact rfl
  | str b => cases e; cases rep_str h; exact rfl
  | tup ds => cases e; exact absurd rfl n1
  | tpf ds => cases e; exact absurd rfl n1
  | lst ds => cases e; simp only [Rep] at h; obtain ⟨a, rfl, _, vs, h1, _⟩ := h; exact .inl ⟨rfl, vs, SqL.of h1⟩
  | dk ks ds => cases e; simp only [Rep] at h; obtain ⟨a, rfl, _, vs, h1, _⟩ := h; exact .inr (.inr (.inl ⟨rfl, .inl ⟨_, h1⟩⟩))
  | dt ks ds => cases e; simp only [Rep] at h; obtain ⟨a, rfl, _, vs, h1, _⟩ := h; exact .inr (.inr (.inl ⟨rfl, .inr ⟨_, h1⟩⟩))
  | ref i =>
    obtain ⟨a, c, rfl, _, h2, h3⟩ := rep_ref r h
    simp only [tyNameS, h2] at e
    cases c with
    | lst ds => cases e; obtain ⟨vs, h1, _⟩ := h3; exact .inl ⟨rfl, vs, SqL.of h1⟩
    | dk ks ds => cases e; obtain ⟨vs, h1, _⟩ := h3; exact .inr (.inr (.inl ⟨rfl, .inl ⟨_, h1⟩⟩))
    | dt ks ds => cases e; obtain ⟨vs, h1, _⟩ := h3; exact .inr (.inr (.inl ⟨rfl, .inr ⟨_, h1⟩⟩))
    | _ => cases e
  | _ => cases e
theorem j_bm (hK : X.K = W.K) (pa : PlainAttrs Ty) (slot : Slot Ty name id) (hty : typeOf (.builtin id) = pure (.type "method_descriptor")) (hm : MtR X id (MMt W F)) (ho : PE X o (T W mo)) (ha : PA X (e :: es) (TAs W ma))
    (hbase : attributeBase o name X.env (eval o X.env) = eval o X.env := by rfl)
    (hfew : ((backTo cpos (starEach (e :: es) X.env)).all (fun x => !x.1) && (backToKw cpos (keywordEach [] X.env)).all (fun x => x.1.isSome)
      && decide ((e :: es).length + ([] : List Keyword).length + (if ([] : List Keyword).isEmpty then 0 else 1) < 30)) = true := by rfl)
    (hline : (apos.endLine == cpos.line) = true := by rfl) (hs : starEach (e :: es) X.env = (false, eval e X.env) :: starEach es X.env := by rfl) (hplain : (backTo cpos (starEach es X.env)).any (·.1) = false := by rfl) :
    PE X (.Call (.Attribute o name apos) (e :: es) [] cpos) (T W (eBM Ty F mo ma)) := (pe_bm pa slot hty hm ho ha hbase hfew hline hs hplain).imp fun σ H Q ⟨ι, st, env, d, st', r, n, e, k⟩ => by
  unfold eBM at e
  split at e
  · rename_i x s1 e1
    split at e
    · rename_i ht
      split at e
      · rename_i xs s2 e2
        exact T.of r n e1 fun v ι1 H1 g1 r1 p1 => ⟨hK ▸ tyD_ok r1 p1 ht, TA.of r1 (n.grow g1) e2 fun vs ι2 H2 g2 r2 p2 => ⟨ι2, s2, x, xs, d, st', r2, Rep.grow g2 _ _ p1, p2, e, k.go (g1.trans g2)⟩⟩
      · cases e
    · cases e
  · cases e
theorem j_bm0 (hK : X.K = W.K) (pa : PlainAttrs Ty) (slot : Slot Ty name id) (hty : typeOf (.builtin id) = pure (.type "method_descriptor")) (hm : MtR X id (MMt W F)) (ho : PE X o (T W mo))
    (hbase : attributeBase o name X.env (eval o X.env) = eval o X.env := by rfl) (hline : (apos.endLine == cpos.line) = true := by rfl) : PE X (.Call (.Attribute o name apos) [] [] cpos) (T W (eBM Ty F mo aNil)) := (pe_bm0 pa slot hty hm ho hbase hline).imp fun σ H Q ⟨ι, st, env, d, st', r, n, e, k⟩ => by
  unfold eBM at e
  split at e
  · rename_i x s1 e1
    split at e
    · rename_i ht
      split at e
      · rename_i xs s2 e2
        cases e2
        exact T.of r n e1 fun v ι1 H1 g1 r1 p1 => ⟨hK ▸ tyD_ok r1 p1 ht, ⟨ι1, s1, x, [], d, st', r1, p1, Reps.nil, e, k.go g1⟩⟩
      · cases e
    · cases e
  · cases e
theorem jm_append : MtR X "list.append" (MMt W mAppend) := by
  intro pins s σ H x xs v us Q I rx rxs ⟨ι, st, o, as, d, st', r, ho, ha, e, k⟩
  unfold mAppend at e
  split at e
  · rename_i n y
    obtain ⟨p, c, rfl, h1, h2, h3⟩ := rep_ref r ho
    obtain ⟨w, rfl, hw⟩ := reps1 ha
    rw [h2] at e
    obtain ⟨z, hz, mz⟩ := h3.there
    split at e
    · rename_i ys q
      cases q
      split at e
      · rename_i hl
        cases e
        obtain ⟨vs, h4, h5⟩ := h3
        refine mt_append pins s σ H _ _ v us Q I rx rxs ⟨p, vs, w, rfl, rfl, h4, by rw [← h5.length]; exact hl, ?_⟩
        have g : Grow ι H ι (upd H p (.lst (vs ++ [w]))) := Grow.put h1 hz mz
        exact k _ _ _ g (r.put h1 ⟨_, upd_same, Reps.grow g _ _ (h5.append (Reps.cons hw Reps.nil))⟩) non_rep
      · cases e
    · cases e
  · cases e
theorem jm_extend : MtR X "list.extend" (MMt W mExtend) := by
  intro pins s σ H x xs v us Q I rx rxs ⟨ι, st, o, as, d, st', r, ho, ha, e, k⟩
  unfold mExtend at e
  split at e
  · rename_i n y
    obtain ⟨p, c, rfl, h1, h2, h3⟩ := rep_ref r ho
    obtain ⟨w, rfl, hw⟩ := reps1 ha
    rw [h2] at e
    obtain ⟨z, hz, mz⟩ := h3.there
    split at e
    · rename_i ys zs q q2
      cases q
      split at e
      · rename_i hl
        cases e
        obtain ⟨vs, h4, h5⟩ := h3
        obtain ⟨p2, vs2, rfl, h6, h7⟩ := seqL_ok r hw q2
        refine mt_extend pins s σ H _ _ v us Q I rx rxs ⟨p, p2, vs, vs2, rfl, rfl, h4, h6, by rw [← h5.length, ← h7.length]; exact hl, ?_⟩
        have g : Grow ι H ι (upd H p (.lst (vs ++ vs2))) := Grow.put h1 hz mz
        exact k _ _ _ g (r.put h1 ⟨_, upd_same, Reps.grow g _ _ (h5.append h7)⟩) non_rep
      · cases e
    · cases e
  · cases e
theorem Reps.dropLast {ι : Lay} {H : Hp} {ds : List D} {vs : List V} (h : Reps W ι H ds vs) : Reps W ι H ds.dropLast vs.dropLast := by
  rw [List.dropLast_eq_take, List.dropLast_eq_take, h.length]
  exact h.take _
theorem Reps.eraseIdx {ι : Lay} {H : Hp} {ds : List D} {vs : List V} (i : Nat) (h : Reps W ι H ds vs) : Reps W ι H (ds.eraseIdx i) (vs.eraseIdx i) := by
  rw [List.eraseIdx_eq_take_drop_succ, List.eraseIdx_eq_take_drop_succ]
  exact (h.take i).append (h.drop (i + 1))
theorem jm_pop : MtR X "list.pop" (MMt W mPop) := by
  intro pins s σ H x xs v us Q I rx rxs ⟨ι, st, o, as, d, st', r, ho, ha, e, k⟩
  unfold mPop at e
  split at e
  · rename_i n
    obtain ⟨p, c, rfl, h1, h2, h3⟩ := rep_ref r ho
    have := ha.nil_of
    subst this
    rw [h2] at e
    obtain ⟨z, hz, mz⟩ := h3.there
    split at e
    · rename_i ys q
      cases q
      split at e
      · rename_i y q
        cases e
        obtain ⟨vs, h4, h5⟩ := h3
        obtain ⟨w, h6, h7⟩ := h5.get q
        refine mt_pop pins s σ H _ _ v us Q I rx rxs ⟨p, vs, w, rfl, rfl, h4, by rw [← h5.length]; exact h6, ?_⟩
        have g : Grow ι H ι (upd H p (.lst vs.dropLast)) := Grow.put h1 hz mz
        exact k _ _ _ g (r.put h1 ⟨_, upd_same, Reps.grow g _ _ h5.dropLast⟩) (Rep.grow g _ _ h7)
      · cases e
    · cases e
  · rename_i n i
    obtain ⟨p, c, rfl, h1, h2, h3⟩ := rep_ref r ho
    obtain ⟨w, rfl, hw⟩ := reps1 ha
    cases rep_int hw
    rw [h2] at e
    obtain ⟨z, hz, mz⟩ := h3.there
    split at e
    · rename_i ys q
      cases q
      split at e
      · rename_i hb
        split at e
        · rename_i j q
          split at e
          · rename_i y q1
            cases e
            obtain ⟨vs, h4, h5⟩ := h3
            obtain ⟨w, h6, h7⟩ := h5.get q1
            refine mt_popAt pins s σ H _ _ v us Q I rx rxs ⟨p, vs, i, j, w, rfl, rfl, h4, hb.1, hb.2, by rw [← h5.length]; exact q, h6, ?_⟩
            have g : Grow ι H ι (upd H p (.lst (vs.eraseIdx j))) := Grow.put h1 hz mz
            exact k _ _ _ g (r.put h1 ⟨_, upd_same, Reps.grow g _ _ (h5.eraseIdx j)⟩) (Rep.grow g _ _ h7)
          · cases e
        · cases e
      · cases e
    · cases e
  · cases e
end
end My

namespace My
open PySem PySem.Spec PyProof.Rows L2

/-! ### mirrors by what is wanted of them -/
def EvE (m : EM) (env : Env) (st : Store) (Q : D → Store → Prop) : Prop := ∃ d st', m env st = some (d, st') ∧ Q d st'
def EvB (m : TM) (env : Env) (st : Store) (Q : Bool → Store → Prop) : Prop := ∃ d st', m env st = some (d, st') ∧ Q d st'
def EvA (m : AM) (env : Env) (st : Store) (Q : List D → Store → Prop) : Prop := ∃ d st', m env st = some (d, st') ∧ Q d st'
def EvS (m : SM) (env : Env) (st : Store) (Q : Out → Store → Prop) : Prop := ∃ d st', m env st = some (d, st') ∧ Q d st'
def EvF (F : FM) (ds : List D) (st : Store) (Q : D → Store → Prop) : Prop := ∃ d st', F ds st = some (d, st') ∧ Q d st'
def EvO (m : OM) (env : Env) (st : Store) (Q : Option Int → Store → Prop) : Prop := ∃ d st', m env st = some (d, st') ∧ Q d st'
def EvI (m : IM) (env : Env) (st : Store) (Q : List D → (Store → Prop) → Store → Prop) : Prop := ∃ ds gd st', m env st = some (ds, gd, st') ∧ Q ds gd st'
def EvW (r : Option (Out × Store)) (Q : Out → Store → Prop) : Prop := ∃ o st', r = some (o, st') ∧ Q o st'
def EvL (r : Option (List D × Store)) (Q : List D → Store → Prop) : Prop := ∃ o st', r = some (o, st') ∧ Q o st'
section
variable {env : Env} {st : Store} {Q : D → Store → Prop} {QB : Bool → Store → Prop} {QA : List D → Store → Prop} {QS : Out → Store → Prop}
theorem EvF.mono {F : FM} {ds : List D} {Q' : D → Store → Prop} (h : EvF F ds st Q) (k : ∀ d s, Q d s → Q' d s) : EvF F ds st Q' := by
  obtain ⟨d, s, e, q⟩ := h
  exact ⟨d, s, e, k d s q⟩
theorem EvS.mono {m : SM} {Q' : Out → Store → Prop} (h : EvS m env st QS) (k : ∀ d s, QS d s → Q' d s) : EvS m env st Q' := by
  obtain ⟨d, s, e, q⟩ := h
  exact ⟨d, s, e, k d s q⟩
theorem EvE.mono {m : EM} {Q' : D → Store → Prop} (h : EvE m env st Q) (k : ∀ d s, Q d s → Q' d s) : EvE m env st Q' := by
  obtain ⟨d, s, e, q⟩ := h
  exact ⟨d, s, e, k d s q⟩
theorem ev_var {i : Nat} : EvE (eVar i) env st Q ↔ ∃ d, env[i]? = some (some d) ∧ Q d st := by
  unfold EvE eVar
  constructor
  · rintro ⟨d, s, e, q⟩
    split at e
    · rename_i d' h
      cases e
      exact ⟨_, h, q⟩
    · cases e
  · rintro ⟨d, e, q⟩
    exact ⟨d, st, by rw [e], q⟩
theorem ev_c {d : D} : EvE (eC d) env st Q ↔ Q d st := by
  unfold EvE eC
  constructor
  · rintro ⟨d, s, e, q⟩
    cases e
    exact q
  · exact fun q => ⟨_, _, rfl, q⟩
theorem ev_un {f : D → Store → Option D} {a : EM} : EvE (eUn f a) env st Q ↔ EvE a env st fun x s1 => ∃ z, f x s1 = some z ∧ Q z s1 := by
  unfold EvE eUn
  constructor
  · rintro ⟨d, s, e, q⟩
    split at e
    · rename_i x s1 h
      rw [Option.map_eq_some_iff] at e
      obtain ⟨z, e1, e2⟩ := e
      cases e2
      exact ⟨x, _, h, _, e1, q⟩
    · cases e
  · rintro ⟨x, s1, h, z, e, q⟩
    exact ⟨z, s1, by rw [h]; simp only [e, Option.map_some], q⟩
theorem ev_op {f : D → D → Store → Option D} {a b : EM} : EvE (eOp f a b) env st Q ↔ EvE a env st fun x s1 => EvE b env s1 fun y s2 => ∃ z, f x y s2 = some z ∧ Q z s2 := by
  unfold EvE eOp
  constructor
  · rintro ⟨d, s, e, q⟩
    split at e
    · rename_i x s1 h
      split at e
      · rename_i y s2 h2
        rw [Option.map_eq_some_iff] at e
        obtain ⟨z, e1, e2⟩ := e
        cases e2
        exact ⟨x, s1, h, y, _, h2, _, e1, q⟩
      · cases e
    · cases e
  · rintro ⟨x, s1, h, y, s2, h2, z, e, q⟩
    exact ⟨z, s2, by rw [h]; simp only [h2, e, Option.map_some], q⟩
theorem ev_nil : EvA aNil env st QA ↔ QA [] st := by
  unfold EvA aNil
  constructor
  · rintro ⟨d, s, e, q⟩
    cases e
    exact q
  · exact fun q => ⟨_, _, rfl, q⟩
theorem ev_cons {a : EM} {r : AM} : EvA (aCons a r) env st QA ↔ EvE a env st fun x s1 => EvA r env s1 fun xs s2 => QA (x :: xs) s2 := by
  unfold EvA EvE aCons
  constructor
  · rintro ⟨d, s, e, q⟩
    split at e
    · rename_i x s1 h
      split at e
      · rename_i y s2 h2
        cases e
        exact ⟨x, s1, h, y, _, h2, q⟩
      · cases e
    · cases e
  · rintro ⟨x, s1, h, y, s2, h2, q⟩
    exact ⟨_, s2, by rw [h]; simp only [h2], q⟩
theorem ev_call {F : FM} {a : AM} : EvE (eCall F a) env st Q ↔ EvA a env st fun xs s1 => EvF F xs s1 Q := by
  unfold EvE EvA EvF eCall
  constructor
  · rintro ⟨d, s, e, q⟩
    split at e
    · rename_i x s1 h
      exact ⟨x, s1, h, d, s, e, q⟩
    · cases e
  · rintro ⟨x, s1, h, d, s, e, q⟩
    exact ⟨d, s, by rw [h]; exact e, q⟩
theorem ev_callD {n : Nat} {F : FM} {dds : List D} {a : AM} : EvE (eCallD n F dds a) env st Q ↔ EvA a env st fun xs s1 => (xs ++ dds).length = n ∧ EvF F (xs ++ dds) s1 Q := by
  unfold EvE EvA EvF eCallD
  constructor
  · rintro ⟨d, s, e, q⟩
    split at e
    · rename_i x s1 h
      split at e
      · rename_i hl
        exact ⟨x, s1, h, hl, d, s, e, q⟩
      · cases e
    · cases e
  · rintro ⟨x, s1, h, hl, d, s, e, q⟩
    exact ⟨d, s, by rw [h]; simp only [if_pos hl]; exact e, q⟩
theorem ev_callN {n j m : Nat} {F : FM} {g : List D → List D → List D} {a b : AM} : EvE (eCallN n j m F g a b) env st Q ↔ EvA a env st fun xs s1 => EvA b env s1 fun zs s2 => (xs.length = j ∧ zs.length = m ∧ (g xs zs).length = n) ∧ EvF F (g xs zs) s2 Q := by
  unfold EvE EvA EvF eCallN
  constructor
  · rintro ⟨d, s, e, q⟩
    split at e
    · rename_i x s1 h
      split at e
      · rename_i y s2 h2
        split at e
        · rename_i hl
          exact ⟨x, s1, h, y, s2, h2, hl, d, s, e, q⟩
        · cases e
      · cases e
    · cases e
  · rintro ⟨x, s1, h, y, s2, h2, hl, d, s, e, q⟩
    exact ⟨d, s, by rw [h]; simp only [h2, if_pos hl]; exact e, q⟩
theorem ev_tup {a : AM} : EvE (eTup a) env st Q ↔ EvA a env st fun xs s1 => xs.length ≤ sizeLine ∧ Q (.tup xs) s1 := by
  unfold EvE EvA eTup
  constructor
  · rintro ⟨d, s, e, q⟩
    split at e
    · rename_i x s1 h
      split at e
      · rename_i hl
        cases e
        exact ⟨x, _, h, hl, q⟩
      · cases e
    · cases e
  · rintro ⟨x, s1, h, hl, q⟩
    exact ⟨_, _, by rw [h]; simp only [if_pos hl], q⟩
theorem ev_lst {a : AM} : EvE (eLst a) env st Q ↔ EvA a env st fun xs s1 => xs.length ≤ sizeLine ∧ Q (.lst xs) s1 := by
  unfold EvE EvA eLst
  constructor
  · rintro ⟨d, s, e, q⟩
    split at e
    · rename_i x s1 h
      split at e
      · rename_i hl
        cases e
        exact ⟨x, _, h, hl, q⟩
      · cases e
    · cases e
  · rintro ⟨x, s1, h, hl, q⟩
    exact ⟨_, _, by rw [h]; simp only [if_pos hl], q⟩
theorem ev_lstM {a : AM} : EvE (eLstM a) env st Q ↔ EvA a env st fun xs s1 => xs.length ≤ sizeLine ∧ Q (.ref s1.length) (s1 ++ [.lst xs]) := by
  unfold EvE EvA eLstM
  constructor
  · rintro ⟨d, s, e, q⟩
    split at e
    · rename_i x s1 h
      split at e
      · rename_i hl
        cases e
        exact ⟨x, s1, h, hl, q⟩
      · cases e
    · cases e
  · rintro ⟨x, s1, h, hl, q⟩
    exact ⟨_, _, by rw [h]; simp only [if_pos hl], q⟩
theorem ev_dkM : EvE eDkM env st Q ↔ Q (.ref st.length) (st ++ [.dk [] []]) := by
  unfold EvE eDkM
  constructor
  · rintro ⟨d, s, e, q⟩
    cases e
    exact q
  · exact fun q => ⟨_, _, rfl, q⟩
theorem ev_dtM : EvE eDtM env st Q ↔ Q (.ref st.length) (st ++ [.dt [] []]) := by
  unfold EvE eDtM
  constructor
  · rintro ⟨d, s, e, q⟩
    cases e
    exact q
  · exact fun q => ⟨_, _, rfl, q⟩
theorem ev_bE {a : EM} : EvB (bE a) env st QB ↔ EvE a env st fun x s1 => ∃ b, x = .bl b ∧ QB b s1 := by
  unfold EvB EvE bE
  constructor
  · rintro ⟨d, s, e, q⟩
    split at e
    · rename_i x s1 h
      cases e
      exact ⟨_, _, h, _, rfl, q⟩
    · cases e
  · rintro ⟨x, s1, h, b, rfl, q⟩
    exact ⟨b, s1, by rw [h], q⟩
theorem ev_bAnd {a b : TM} : EvB (bAnd a b) env st QB ↔ EvB a env st fun c s1 => if c = true then EvB b env s1 QB else QB false s1 := by
  unfold EvB bAnd
  constructor
  · rintro ⟨d, s, e, q⟩
    rcases h : a env st with _ | ⟨c, s1⟩
    · rw [h] at e; cases e
    · rw [h] at e
      cases c with
      | true => exact ⟨true, s1, rfl, (if_pos rfl).mpr ⟨d, s, e, q⟩⟩
      | false => cases e; exact ⟨false, s, rfl, (if_neg Bool.false_ne_true).mpr q⟩
  · rintro ⟨c, s1, h, q⟩
    rw [h]
    cases c with
    | true => rw [if_pos rfl] at q; exact q
    | false => rw [if_neg Bool.false_ne_true] at q; exact ⟨false, s1, rfl, q⟩
theorem ev_bOr {a b : TM} : EvB (bOr a b) env st QB ↔ EvB a env st fun c s1 => if c = true then QB true s1 else EvB b env s1 QB := by
  unfold EvB bOr
  constructor
  · rintro ⟨d, s, e, q⟩
    rcases h : a env st with _ | ⟨c, s1⟩
    · rw [h] at e; cases e
    · rw [h] at e
      cases c with
      | false => exact ⟨false, s1, rfl, (if_neg Bool.false_ne_true).mpr ⟨d, s, e, q⟩⟩
      | true => cases e; exact ⟨true, s, rfl, (if_pos rfl).mpr q⟩
  · rintro ⟨c, s1, h, q⟩
    rw [h]
    cases c with
    | false => rw [if_neg Bool.false_ne_true] at q; exact q
    | true => rw [if_pos rfl] at q; exact ⟨true, s1, rfl, q⟩
theorem ev_bNot {a : TM} : EvB (bNot a) env st QB ↔ EvB a env st fun c s1 => QB (!c) s1 := by
  unfold EvB bNot
  constructor
  · rintro ⟨d, s, e, q⟩
    split at e
    · rename_i x s1 h
      cases e
      exact ⟨_, _, h, q⟩
    · cases e
  · rintro ⟨c, s1, h, q⟩
    exact ⟨_, s1, by rw [h], q⟩
theorem ev_bYes : EvB bYes env st QB ↔ QB true st := by
  unfold EvB bYes
  constructor
  · rintro ⟨d, s, e, q⟩
    cases e
    exact q
  · exact fun q => ⟨_, _, rfl, q⟩
theorem ev_eAnd {a b : EM} : EvE (eAnd a b) env st Q ↔ EvE a env st fun x s1 => ∃ c, x = .bl c ∧ if c = true then EvE b env s1 Q else Q (.bl false) s1 := by
  unfold EvE eAnd
  constructor
  · rintro ⟨d, s, e, q⟩
    split at e
    · rename_i s1 h
      exact ⟨_, s1, h, true, rfl, (if_pos rfl).mpr ⟨d, s, e, q⟩⟩
    · rename_i s1 h
      cases e
      exact ⟨_, _, h, false, rfl, (if_neg Bool.false_ne_true).mpr q⟩
    · cases e
  · rintro ⟨x, s1, h, c, rfl, q⟩
    rw [h]
    cases c with
    | true => rw [if_pos rfl] at q; exact q
    | false => rw [if_neg Bool.false_ne_true] at q; exact ⟨_, s1, rfl, q⟩
theorem ev_eOr {a b : EM} : EvE (eOr a b) env st Q ↔ EvE a env st fun x s1 => ∃ c, x = .bl c ∧ if c = true then Q (.bl true) s1 else EvE b env s1 Q := by
  unfold EvE eOr
  constructor
  · rintro ⟨d, s, e, q⟩
    split at e
    · rename_i s1 h
      exact ⟨_, s1, h, false, rfl, (if_neg Bool.false_ne_true).mpr ⟨d, s, e, q⟩⟩
    · rename_i s1 h
      cases e
      exact ⟨_, _, h, true, rfl, (if_pos rfl).mpr q⟩
    · cases e
  · rintro ⟨x, s1, h, c, rfl, q⟩
    rw [h]
    cases c with
    | false => rw [if_neg Bool.false_ne_true] at q; exact q
    | true => rw [if_pos rfl] at q; exact ⟨_, s1, rfl, q⟩
theorem ev_eNot {a : EM} : EvE (eNot a) env st Q ↔ EvE a env st fun x s1 => ∃ c, x = .bl c ∧ Q (.bl (!c)) s1 := by
  unfold EvE eNot
  constructor
  · rintro ⟨d, s, e, q⟩
    split at e
    · rename_i b s1 h
      cases e
      exact ⟨_, _, h, b, rfl, q⟩
    · cases e
  · rintro ⟨x, s1, h, c, rfl, q⟩
    exact ⟨_, s1, by rw [h], q⟩
theorem ev_if {c : TM} {a b : EM} : EvE (eIf c a b) env st Q ↔ EvB c env st fun x s1 => if x = true then EvE a env s1 Q else EvE b env s1 Q := by
  unfold EvE EvB eIf
  constructor
  · rintro ⟨d, s, e, q⟩
    split at e
    · rename_i s1 h
      exact ⟨_, s1, h, (if_pos rfl).mpr ⟨d, s, e, q⟩⟩
    · rename_i s1 h
      exact ⟨_, s1, h, (if_neg Bool.false_ne_true).mpr ⟨d, s, e, q⟩⟩
    · cases e
  · rintro ⟨x, s1, h, q⟩
    rw [h]
    cases x with
    | true => rw [if_pos rfl] at q; exact q
    | false => rw [if_neg Bool.false_ne_true] at q; exact q
theorem ev_chain {f g : D → D → Store → Option D} {a b c : EM} : EvE (eChain f g a b c) env st Q ↔ EvE a env st fun x s1 => EvE b env s1 fun y s2 => ∃ t, f x y s2 = some (.bl t) ∧ if t = true then EvE c env s2 fun z s3 => ∃ r, g y z s3 = some r ∧ Q r s3 else Q (.bl false) s2 := by
  unfold EvE eChain
  constructor
  · rintro ⟨d, s, e, q⟩
    split at e
    · rename_i x s1 h1
      split at e
      · rename_i y s2 h2
        refine ⟨x, s1, h1, y, s2, h2, ?_⟩
        split at e
        · rename_i h3
          refine ⟨true, h3, (if_pos rfl).mpr ?_⟩
          split at e
          · rename_i z s3 h4
            rw [Option.map_eq_some_iff] at e
            obtain ⟨r, e1, e2⟩ := e
            cases e2
            exact ⟨z, _, h4, _, e1, q⟩
          · cases e
        · rename_i h3
          cases e
          exact ⟨false, h3, (if_neg Bool.false_ne_true).mpr q⟩
        · cases e
      · cases e
    · cases e
  · rintro ⟨x, s1, h1, y, s2, h2, t, h3, q⟩
    rw [h1]
    dsimp only
    rw [h2]
    dsimp only
    rw [h3]
    cases t with
    | true =>
      rw [if_pos rfl] at q
      obtain ⟨z, s3, h4, r, e, q⟩ := q
      exact ⟨r, s3, by simp only [h4, e, Option.map_some], q⟩
    | false =>
      rw [if_neg Bool.false_ne_true] at q
      exact ⟨_, s2, rfl, q⟩
theorem ev_oNone {Q : Option Int → Store → Prop} : EvO oNone env st Q ↔ Q none st := by
  unfold EvO oNone
  constructor
  · rintro ⟨d, s, e, q⟩
    cases e
    exact q
  · exact fun q => ⟨_, _, rfl, q⟩
theorem ev_oSome {a : EM} {Q : Option Int → Store → Prop} : EvO (oSome a) env st Q ↔ EvE a env st fun x s1 => ∃ i, x = .int i ∧ Q (some i) s1 := by
  unfold EvO EvE oSome
  constructor
  · rintro ⟨d, s, e, q⟩
    split at e
    · rename_i x s1 h
      cases e
      exact ⟨_, _, h, _, rfl, q⟩
    · cases e
  · rintro ⟨x, s1, h, b, rfl, q⟩
    exact ⟨_, s1, by rw [h], q⟩
theorem ev_sl {a : EM} {l u : OM} : EvE (eSl a l u) env st Q ↔ EvE a env st fun x s1 => EvO l env s1 fun lo s2 => EvO u env s2 fun hi s3 => ∃ z, dSl x lo hi s3 = some z ∧ Q z s3 := by
  unfold EvE EvO eSl
  constructor
  · rintro ⟨d, s, e, q⟩
    split at e
    · rename_i x s1 h
      split at e
      · rename_i y s2 h2
        split at e
        · rename_i w s3 h3
          rw [Option.map_eq_some_iff] at e
          obtain ⟨z, e1, e2⟩ := e
          cases e2
          exact ⟨x, s1, h, y, s2, h2, w, _, h3, _, e1, q⟩
        · cases e
      · cases e
    · cases e
  · rintro ⟨x, s1, h, y, s2, h2, w, s3, h3, z, e, q⟩
    exact ⟨z, s3, by rw [h]; simp only [h2, h3, e, Option.map_some], q⟩
theorem ev_bm {Ty : String} {F : MM} {a : EM} {r : AM} : EvE (eBM Ty F a r) env st Q ↔ EvE a env st fun x s1 => tyD Ty s1 x ∧ EvA r env s1 fun xs s2 => ∃ d s3, F x xs s2 = some (d, s3) ∧ Q d s3 := by
  unfold EvE EvA eBM
  constructor
  · rintro ⟨d, s, e, q⟩
    split at e
    · rename_i x s1 h
      split at e
      · rename_i ht
        split at e
        · rename_i xs s2 h2
          exact ⟨x, s1, h, ht, xs, s2, h2, d, s, e, q⟩
        · cases e
      · cases e
    · cases e
  · rintro ⟨x, s1, h, ht, xs, s2, h2, d, s3, e, q⟩
    exact ⟨d, s3, by rw [h]; simp only [if_pos ht, h2]; exact e, q⟩

/-! statements -/
theorem ev_skip : EvS sSkip env st QS ↔ QS (.nx env) st := by
  unfold EvS sSkip
  constructor
  · rintro ⟨d, s, e, q⟩
    cases e
    exact q
  · exact fun q => ⟨_, _, rfl, q⟩
theorem ev_brk : EvS sBrk env st QS ↔ QS (.bk env) st := by
  unfold EvS sBrk
  constructor
  · rintro ⟨d, s, e, q⟩
    cases e
    exact q
  · exact fun q => ⟨_, _, rfl, q⟩
theorem ev_cnt : EvS sCnt env st QS ↔ QS (.ct env) st := by
  unfold EvS sCnt
  constructor
  · rintro ⟨d, s, e, q⟩
    cases e
    exact q
  · exact fun q => ⟨_, _, rfl, q⟩
def thenS (b : SM) (Q : Out → Store → Prop) : Out → Store → Prop := fun o s => match o with
  | .nx e => EvS b e s Q
  | o => Q o s
theorem ev_seq {a b : SM} : EvS (sSeq a b) env st QS ↔ EvS a env st (thenS b QS) := by
  unfold EvS sSeq
  constructor
  · rintro ⟨d, s, e, q⟩
    rcases h : a env st with _ | ⟨o, s1⟩
    · rw [h] at e; cases e
    · rw [h] at e
      refine ⟨o, s1, rfl, ?_⟩
      cases o with
      | nx e1 => exact ⟨d, s, e, q⟩
      | rt _ => cases e; exact q
      | bk _ => cases e; exact q
      | ct _ => cases e; exact q
  · rintro ⟨o, s1, h, q⟩
    rw [h]
    cases o with
    | nx e1 => exact q
    | rt _ => exact ⟨_, _, rfl, q⟩
    | bk _ => exact ⟨_, _, rfl, q⟩
    | ct _ => exact ⟨_, _, rfl, q⟩
theorem then_nx {b : SM} {e : Env} {s : Store} : thenS b QS (.nx e) s ↔ EvS b e s QS := Iff.rfl
theorem then_rt {b : SM} {d : D} {s : Store} : thenS b QS (.rt d) s ↔ QS (.rt d) s := Iff.rfl
theorem then_bk {b : SM} {e : Env} {s : Store} : thenS b QS (.bk e) s ↔ QS (.bk e) s := Iff.rfl
theorem then_ct {b : SM} {e : Env} {s : Store} : thenS b QS (.ct e) s ↔ QS (.ct e) s := Iff.rfl
theorem ev_set {i : Nat} {m : EM} : EvS (sSet i m) env st QS ↔ EvE m env st fun d s => QS (.nx (env.set i (some d))) s := by
  unfold EvS EvE sSet
  constructor
  · rintro ⟨d, s, e, q⟩
    split at e
    · rename_i x s1 h
      cases e
      exact ⟨_, _, h, q⟩
    · cases e
  · rintro ⟨x, s1, h, q⟩
    exact ⟨_, s1, by rw [h], q⟩
theorem ev_asg {m : EM} {g : GM} : EvS (sAsg m g) env st QS ↔ EvE m env st fun d s => ∃ e, g d env = some e ∧ QS (.nx e) s := by
  unfold EvS EvE sAsg
  constructor
  · rintro ⟨d, s, e, q⟩
    split at e
    · rename_i x s1 h
      split at e
      · rename_i e1 h2
        cases e
        exact ⟨_, _, h, _, h2, q⟩
      · cases e
    · cases e
  · rintro ⟨x, s1, h, e, h2, q⟩
    exact ⟨_, s1, by rw [h]; simp only [h2], q⟩
theorem ev_par {i j : Nat} {a : AM} : EvS (sPar i j a) env st QS ↔ EvA a env st fun ds s => ∃ x y, ds = [x, y] ∧ QS (.nx ((env.set i (some x)).set j (some y))) s := by
  unfold EvS EvA sPar
  constructor
  · rintro ⟨d, s, e, q⟩
    split at e
    · rename_i x y s1 h
      cases e
      exact ⟨_, _, h, x, y, rfl, q⟩
    · cases e
  · rintro ⟨ds, s1, h, x, y, rfl, q⟩
    exact ⟨_, s1, by rw [h], q⟩
theorem ev_par3 {i j l : Nat} {a : AM} : EvS (sPar3 i j l a) env st QS ↔ EvA a env st fun ds s => ∃ x y z, ds = [x, y, z] ∧ QS (.nx (((env.set i (some x)).set j (some y)).set l (some z))) s := by
  unfold EvS EvA sPar3
  constructor
  · rintro ⟨d, s, e, q⟩
    split at e
    · rename_i x y z s1 h
      cases e
      exact ⟨_, _, h, x, y, z, rfl, q⟩
    · cases e
  · rintro ⟨ds, s1, h, x, y, z, rfl, q⟩
    exact ⟨_, s1, by rw [h], q⟩
theorem ev_ret {m : EM} : EvS (sRet m) env st QS ↔ EvE m env st fun d s => QS (.rt d) s := by
  unfold EvS EvE sRet
  constructor
  · rintro ⟨d, s, e, q⟩
    split at e
    · rename_i x s1 h
      cases e
      exact ⟨_, _, h, q⟩
    · cases e
  · rintro ⟨x, s1, h, q⟩
    exact ⟨_, s1, by rw [h], q⟩
theorem ev_drop {m : EM} : EvS (sDrop m) env st QS ↔ EvE m env st fun d s => QS (.nx env) s := by
  unfold EvS EvE sDrop
  constructor
  · rintro ⟨d, s, e, q⟩
    split at e
    · rename_i x s1 h
      cases e
      exact ⟨_, _, h, q⟩
    · cases e
  · rintro ⟨x, s1, h, q⟩
    exact ⟨_, s1, by rw [h], q⟩
theorem ev_sIf {c : TM} {a b : SM} : EvS (sIf c a b) env st QS ↔ EvB c env st fun x s1 => if x = true then EvS a env s1 QS else EvS b env s1 QS := by
  unfold EvS EvB sIf
  constructor
  · rintro ⟨d, s, e, q⟩
    split at e
    · rename_i s1 h
      exact ⟨_, s1, h, (if_pos rfl).mpr ⟨d, s, e, q⟩⟩
    · rename_i s1 h
      exact ⟨_, s1, h, (if_neg Bool.false_ne_true).mpr ⟨d, s, e, q⟩⟩
    · cases e
  · rintro ⟨x, s1, h, q⟩
    rw [h]
    cases x with
    | true => rw [if_pos rfl] at q; exact q
    | false => rw [if_neg Bool.false_ne_true] at q; exact q
theorem ev_aug {i : Nat} {f : D → D → Store → Option D} {m : EM} : EvS (sAug i f m) env st QS ↔ ∃ x, env[i]? = some (some x) ∧ EvE m env st fun y s => ∃ z, f x y s = some z ∧ QS (.nx (env.set i (some z))) s := by
  unfold EvS EvE sAug
  constructor
  · rintro ⟨d, s, e, q⟩
    split at e
    · rename_i x h0
      refine ⟨x, h0, ?_⟩
      split at e
      · rename_i y s1 h
        split at e
        · rename_i z h2
          cases e
          exact ⟨_, _, h, _, h2, q⟩
        · cases e
      · cases e
    · cases e
  · rintro ⟨x, h0, y, s1, h, z, h2, q⟩
    exact ⟨_, s1, by rw [h0]; simp only [h, h2], q⟩
theorem ev_sub {f : D → D → D → Store → Option Store} {mo mi mv : EM} : EvS (sSub f mo mi mv) env st QS ↔ EvE mv env st fun v s1 => EvE mo env s1 fun o s2 => EvE mi env s2 fun i s3 => ∃ s4, f o i v s3 = some s4 ∧ QS (.nx env) s4 := by
  unfold EvS EvE sSub
  constructor
  · rintro ⟨d, s, e, q⟩
    split at e
    · rename_i v s1 h1
      split at e
      · rename_i o s2 h2
        split at e
        · rename_i i s3 h3
          split at e
          · rename_i s4 h4
            cases e
            exact ⟨_, _, h1, _, _, h2, _, _, h3, _, h4, q⟩
          · cases e
        · cases e
      · cases e
    · cases e
  · rintro ⟨v, s1, h1, o, s2, h2, i, s3, h3, s4, h4, q⟩
    exact ⟨_, s4, by rw [h1]; simp only [h2, h3, h4], q⟩
theorem ev_seqI {m : EM} {QI : List D → (Store → Prop) → Store → Prop} : EvI (iSeq m) env st QI ↔ EvE m env st fun x s1 => match x with
    | .tup xs => QI xs always s1
    | .tpf xs => QI xs always s1
    | .lst xs => QI xs always s1
    | .scr ns => QI (ns.map .int) always s1
    | .ref i => ∃ xs, s1[i]? = some (.lst xs) ∧ QI xs (fun s => s[i]? = some (.lst xs)) s1
    | _ => False := by
  unfold EvI EvE iSeq
  constructor
  · rintro ⟨ds, gd, s, e, q⟩
    split at e
    · rename_i xs s1 h
      cases e
      exact ⟨_, _, h, q⟩
    · rename_i xs s1 h
      cases e
      exact ⟨_, _, h, q⟩
    · rename_i xs s1 h
      cases e
      exact ⟨_, _, h, q⟩
    · rename_i xs s1 h
      cases e
      exact ⟨_, _, h, q⟩
    · rename_i i s1 h
      split at e
      · rename_i xs h2
        cases e
        exact ⟨_, _, h, _, h2, q⟩
      · cases e
    · cases e
  · rintro ⟨x, s1, h, q⟩
    rw [h]
    cases x with
    | tup xs => exact ⟨_, _, _, rfl, q⟩
    | tpf xs => exact ⟨_, _, _, rfl, q⟩
    | lst xs => exact ⟨_, _, _, rfl, q⟩
    | scr ns => exact ⟨_, _, _, rfl, q⟩
    | ref i =>
      obtain ⟨xs, h2, q⟩ := q
      exact ⟨xs, _, s1, by simp only [h2], q⟩
    | _ => exact q.elim
theorem ev_range1 {a : EM} {QI : List D → (Store → Prop) → Store → Prop} : EvI (iRange1 a) env st QI ↔ EvE a env st fun x s1 => ∃ j, x = .int j ∧ (-(2 ^ 62) ≤ j ∧ j < 2 ^ 62) ∧ QI (intsTo 0 j.toNat) always s1 := by
  unfold EvI EvE iRange1
  constructor
  · rintro ⟨ds, gd, s, e, q⟩
    split at e
    · rename_i j s1 h
      split at e
      · rename_i hz
        cases e
        exact ⟨_, _, h, j, rfl, hz, q⟩
      · cases e
    · cases e
  · rintro ⟨x, s1, h, j, rfl, hz, q⟩
    exact ⟨_, _, s1, by rw [h]; simp only [if_pos hz], q⟩
theorem ev_range2 {a b : EM} {QI : List D → (Store → Prop) → Store → Prop} : EvI (iRange2 a b) env st QI ↔ EvE a env st fun x s1 => EvE b env s1 fun y s2 => ∃ i j, x = .int i ∧ y = .int j ∧ ((-(2 ^ 62) ≤ i ∧ i < 2 ^ 62) ∧ (-(2 ^ 62) ≤ j ∧ j < 2 ^ 62)) ∧ QI (intsTo i (j - i).toNat) always s2 := by
  unfold EvI EvE iRange2
  constructor
  · rintro ⟨ds, gd, s, e, q⟩
    split at e
    · rename_i i s1 h
      split at e
      · rename_i j s2 h2
        split at e
        · rename_i hz
          cases e
          exact ⟨_, _, h, _, _, h2, i, j, rfl, rfl, hz, q⟩
        · cases e
      · cases e
    · cases e
  · rintro ⟨x, s1, h, y, s2, h2, i, j, rfl, rfl, hz, q⟩
    exact ⟨_, _, s2, by rw [h]; simp only [h2, if_pos hz], q⟩
theorem ev_for {im : IM} {g : GM} {body : SM} : EvS (sFor im g body) env st QS ↔ EvI im env st fun ds gd s1 => EvW (forGo gd g body ds env s1) QS := by
  unfold EvS EvI EvW sFor
  constructor
  · rintro ⟨d, s, e, q⟩
    split at e
    · rename_i ds gd s1 h
      exact ⟨_, _, _, h, d, s, e, q⟩
    · cases e
  · rintro ⟨ds, gd, s1, h, d, s, e, q⟩
    exact ⟨d, s, by rw [h]; exact e, q⟩
theorem ev_lc {im : IM} {g : GM} {tt : TM} {el : EM} {vs : List Nat} : EvE (eLc im g tt el vs) env st Q ↔ EvI im env st fun ds gd s1 => EvL (lcGo gd g tt el (wipeE env vs) ds s1) fun ys s2 => ys.length ≤ sizeLine ∧ Q (.lst ys) s2 := by
  unfold EvE EvI EvL eLc
  constructor
  · rintro ⟨d, s, e, q⟩
    split at e
    · rename_i ds gd s1 h
      split at e
      · rename_i ys s2 h2
        split at e
        · rename_i hz
          cases e
          exact ⟨_, _, _, h, ys, _, h2, hz, q⟩
        · cases e
      · cases e
    · cases e
  · rintro ⟨ds, gd, s1, h, ys, s2, h2, hz, q⟩
    exact ⟨_, s2, by rw [h]; simp only [h2, if_pos hz], q⟩
/-- a for by an invariant over the turn -/
theorem for_inv {gd : Store → Prop} {g : GM} {body : SM} {ds : List D} (I : Nat → Env → Store → Prop) (h0 : I 0 env st) (hg : ∀ i env st, i ≤ ds.length → I i env st → gd st)
    (step : ∀ i (hi : i < ds.length) env st, I i env st → ∃ e1, g ds[i] env = some e1 ∧ EvS body e1 st fun o s => match o with
      | .nx e => I (i + 1) e s
      | .ct e => I (i + 1) e s
      | .bk e => QS (.nx e) s
      | .rt d => QS (.rt d) s) (done : ∀ env st, I ds.length env st → QS (.nx env) st) : EvW (forGo gd g body ds env st) QS := by
  have main : ∀ (n i : Nat) (env : Env) (st : Store), i + n = ds.length → I i env st → EvW (forGo gd g body (ds.drop i) env st) QS := by
    intro n
    induction n with
    | zero =>
      intro i env st hi h
      have e : i = ds.length := by omega
      subst e
      rw [List.drop_length]
      unfold forGo
      rw [if_pos (hg _ _ _ (Nat.le_refl _) h)]
      exact ⟨_, _, rfl, done _ _ h⟩
    | succ n ih =>
      intro i env st hi h
      have hlt : i < ds.length := by omega
      rw [List.drop_eq_getElem_cons hlt]
      unfold forGo
      rw [if_pos (hg _ _ _ (Nat.le_of_lt hlt) h)]
      obtain ⟨e1, h1, o, s, h2, q⟩ := step i hlt env st h
      rw [h1]
      dsimp only
      rw [h2]
      cases o with
      | nx e => exact ih (i + 1) e s (by omega) q
      | ct e => exact ih (i + 1) e s (by omega) q
      | bk e => exact ⟨_, _, rfl, q⟩
      | rt d => exact ⟨_, _, rfl, q⟩
  have := main ds.length 0 env st (by omega) h0
  simpa using this
theorem while_inv {c : TM} {body : SM} {fuel : Nat} (I : Nat → Env → Store → Prop) (hf : ∃ n, n < fuel ∧ I n env st)
    (step : ∀ n env st, I n env st → EvB c env st fun b s1 => if b = true then EvS body env s1 fun o s => match o with
      | .nx e => ∃ m, m < n ∧ I m e s
      | .ct e => ∃ m, m < n ∧ I m e s
      | .bk e => QS (.nx e) s
      | .rt d => QS (.rt d) s
      else QS (.nx env) s1) : EvS (sWhile fuel c body) env st QS := by
  have main : ∀ (fuel n : Nat) (env : Env) (st : Store), n < fuel → I n env st → EvS (whileGo c body fuel) env st QS := by
    intro fuel
    induction fuel with
    | zero => intro n env st h; omega
    | succ fuel ih =>
      intro n env st hn h
      unfold EvS whileGo
      obtain ⟨b, s1, h1, q⟩ := step n env st h
      rw [h1]
      cases b with
      | true =>
        rw [if_pos rfl] at q
        obtain ⟨o, s, h2, q⟩ := q
        dsimp only
        rw [h2]
        cases o with
        | nx e => obtain ⟨m, hm, q⟩ := q; exact ih m e s (by omega) q
        | ct e => obtain ⟨m, hm, q⟩ := q; exact ih m e s (by omega) q
        | bk e => exact ⟨_, _, rfl, q⟩
        | rt d => exact ⟨_, _, rfl, q⟩
      | false =>
        rw [if_neg Bool.false_ne_true] at q
        exact ⟨_, _, rfl, q⟩
  obtain ⟨n, hn, h⟩ := hf
  exact main fuel n env st hn h
/-- a comprehension by an invariant over the turn, the list so far and the cells -/
theorem lc_inv {gd : Store → Prop} {g : GM} {tt : TM} {el : EM} {env : Env} {ds : List D} {QL : List D → Store → Prop} (I : Nat → List D → Store → Prop) (h0 : I 0 [] st) (hg : ∀ i ys st, i ≤ ds.length → I i ys st → gd st)
    (step : ∀ i (hi : i < ds.length) ys st, I i ys st → ∃ e1, g ds[i] env = some e1 ∧ EvB tt e1 st fun b s1 => if b = true then EvE el e1 s1 fun y s2 => I (i + 1) (ys ++ [y]) s2 else I (i + 1) ys s1)
    (done : ∀ ys st, I ds.length ys st → QL ys st) : EvL (lcGo gd g tt el env ds st) QL := by
  have main : ∀ (n i : Nat) (ys : List D) (st : Store), i + n = ds.length → I i ys st → ∃ zs s, lcGo gd g tt el env (ds.drop i) st = some (zs, s) ∧ QL (ys ++ zs) s := by
    intro n
    induction n with
    | zero =>
      intro i ys st hi h
      have e : i = ds.length := by omega
      subst e
      rw [List.drop_length]
      unfold lcGo
      rw [if_pos (hg _ _ _ (Nat.le_refl _) h)]
      exact ⟨_, _, rfl, by rw [List.append_nil]; exact done _ _ h⟩
    | succ n ih =>
      intro i ys st hi h
      have hlt : i < ds.length := by omega
      rw [List.drop_eq_getElem_cons hlt]
      unfold lcGo
      rw [if_pos (hg _ _ _ (Nat.le_of_lt hlt) h)]
      obtain ⟨e1, h1, b, s1, h2, q⟩ := step i hlt ys st h
      rw [h1]
      dsimp only
      rw [h2]
      cases b with
      | true =>
        rw [if_pos rfl] at q
        obtain ⟨y, s2, h3, q⟩ := q
        obtain ⟨zs, s3, h4, q⟩ := ih (i + 1) _ s2 (by omega) q
        dsimp only
        rw [h3]
        dsimp only
        rw [h4]
        exact ⟨_, _, rfl, by rw [List.append_assoc] at q; exact q⟩
      | false =>
        rw [if_neg Bool.false_ne_true] at q
        exact ih (i + 1) _ s1 (by omega) q
  obtain ⟨zs, s, h, q⟩ := main ds.length 0 [] st (by omega) h0
  exact ⟨zs, s, by simpa using h, by simpa using q⟩
/-- a comprehension that changes no cell -/
theorem lc_map {gd : Store → Prop} {g : GM} {tt : TM} {el : EM} {env : Env} {ds : List D} {QL : List D → Store → Prop} (p : D → Bool) (f : D → D) (hg : gd st)
    (step : ∀ d ∈ ds, ∃ e1, g d env = some e1 ∧ EvB tt e1 st fun b s1 => s1 = st ∧ b = p d ∧ (b = true → EvE el e1 st fun y s2 => s2 = st ∧ y = f d)) (done : QL ((ds.filter p).map f) st) : EvL (lcGo gd g tt el env ds st) QL := by
  refine lc_inv (fun i ys s => s = st ∧ ys = ((ds.take i).filter p).map f) ⟨rfl, by simp⟩ (fun i ys s _ h => h.1 ▸ hg) (fun i hi ys s ⟨h1, h2⟩ => ?_) (fun ys s ⟨h1, h2⟩ => ?_)
  · subst h1
    obtain ⟨e1, h3, b, s1, h4, rfl, h5, h6⟩ := step ds[i] (List.getElem_mem hi)
    refine ⟨e1, h3, b, s1, h4, ?_⟩
    have tk : ds.take (i + 1) = ds.take i ++ [ds[i]] := by rw [List.take_add_one, List.getElem?_eq_getElem hi]; rfl
    cases b with
    | true =>
      show ite _ _ _
      rw [if_pos rfl]
      obtain ⟨y, s2, h7, rfl, rfl⟩ := h6 rfl
      refine ⟨_, _, h7, rfl, ?_⟩
      rw [tk, List.filter_append, List.filter_cons_of_pos h5.symm, List.map_append, h2]
      rfl
    | false =>
      show ite _ _ _
      rw [if_neg Bool.false_ne_true]
      refine ⟨rfl, ?_⟩
      rw [tk, List.filter_append, List.filter_cons_of_neg (by rw [← h5]; exact Bool.false_ne_true), h2]
      simp
  · subst h1
    rw [List.take_length] at h2
    rw [h2]
    exact done
end

/-! defs -/
def outF (st : Store) (Q : D → Store → Prop) : Out → Store → Prop := fun o s1 => match o with
  | .rt r => EvF (fun _ s => fin st r s) [] s1 Q
  | .nx _ => EvF (fun _ s => fin st .non s) [] s1 Q
  | _ => False
def outK (Q : D → Store → Prop) : Out → Store → Prop := fun o s1 => match o with
  | .rt r => Q r s1
  | .nx _ => Q .non s1
  | _ => False
theorem ev_mkF {N : Nat} {body : SM} {ds : List D} {st : Store} {Q : D → Store → Prop} : EvF (mkF N body) ds st Q ↔ EvS body (enter N ds) st (outF st Q) := by
  unfold EvF EvS mkF
  constructor
  · rintro ⟨d, s, e, q⟩
    split at e
    · rename_i r s1 h
      exact ⟨_, _, h, d, s, e, q⟩
    · rename_i r s1 h
      exact ⟨_, _, h, d, s, e, q⟩
    · cases e
  · rintro ⟨o, s1, h, q⟩
    cases o with
    | rt r => obtain ⟨d, s, e, q⟩ := q; exact ⟨d, s, by rw [h]; exact e, q⟩
    | nx r => obtain ⟨d, s, e, q⟩ := q; exact ⟨d, s, by rw [h]; exact e, q⟩
    | bk r => exact q.elim
    | ct r => exact q.elim
theorem ev_mkK {N : Nat} {body : SM} {ds : List D} {st : Store} {Q : D → Store → Prop} : EvF (mkK N body) ds st Q ↔ EvS body (enter N ds) st (outK Q) := by
  unfold EvF EvS mkK
  constructor
  · rintro ⟨d, s, e, q⟩
    split at e
    · rename_i r s1 h
      cases e
      exact ⟨_, _, h, q⟩
    · rename_i r s1 h
      cases e
      exact ⟨_, _, h, q⟩
    · cases e
  · rintro ⟨o, s1, h, q⟩
    cases o with
    | rt r => exact ⟨_, _, by rw [h], q⟩
    | nx r => exact ⟨_, _, by rw [h], q⟩
    | bk r => exact q.elim
    | ct r => exact q.elim
/-- what is handed back is a tree, the caller's cells stand but for plain ones -/
theorem fin_tree {st s1 : Store} {r : D} {Q : D → Store → Prop} (h : r.blw 0 = true) (c : closeOk st s1) (q : Q r (s1.take st.length)) : EvF (fun _ s => fin st r s) [] s1 Q := by
  refine ⟨r, s1.take st.length, ?_, q⟩
  show fin st r s1 = _
  unfold fin
  rw [fz_blw (n := 0) (fun i hi => absurd hi (Nat.not_lt_zero _)) r h]
  dsimp only
  rw [if_pos c]
theorem closeOk_refl (st : Store) : closeOk st st := fun i hi => ⟨st[i], List.getElem?_eq_getElem hi, .inl (List.getElem?_eq_getElem hi)⟩
theorem closeOk_app (st l : Store) : closeOk st (st ++ l) := fun i hi => ⟨st[i], by rw [List.getElem?_append_left hi]; exact List.getElem?_eq_getElem hi, .inl (List.getElem?_eq_getElem hi)⟩
theorem closeOk_set (st l : Store) (b : Nat) (c : D) (h : c.blw 0 = true) : closeOk st (st.set b c ++ l) := fun i hi => by
  have hl : i < (st.set b c).length := by simpa using hi
  rw [List.getElem?_append_left hl]
  by_cases e : b = i
  · subst e
    refine ⟨c, by rw [List.getElem?_set_self hi], .inr ?_⟩
    have h2 : ∀ n, c.blw n = true := fun n => blw_mono n h
    exact h2 _
  · refine ⟨st[i], by rw [List.getElem?_set_ne e]; exact List.getElem?_eq_getElem hi, .inl (List.getElem?_eq_getElem hi)⟩
where
  blw_mono (n : Nat) {c : D} (h : c.blw 0 = true) : c.blw n = true := go n c h
  go (n : Nat) : ∀ c : D, c.blw 0 = true → c.blw n = true := by
    intro c
    exact (blw_mono_both n).1 c
  blw_mono_both (n : Nat) : (∀ c : D, c.blw 0 = true → c.blw n = true) ∧ ∀ cs : List D, D.blws 0 cs = true → D.blws n cs = true := by
    constructor
    · intro c
      exact D.rec (motive_1 := fun c => c.blw 0 = true → c.blw n = true) (motive_2 := fun cs => D.blws 0 cs = true → D.blws n cs = true)
        (by simp [D.blw]) (by simp [D.blw]) (by simp [D.blw]) (by simp [D.blw]) (by simp [D.blw]) (by simp [D.blw]) (by intro xs ih; simpa [D.blw] using ih) (by intro xs ih; simpa [D.blw] using ih) (by intro xs ih; simpa [D.blw] using ih) (by simp [D.blw]) (by intro ks xs ih; simpa [D.blw] using ih) (by intro ks xs ih; simpa [D.blw] using ih) (by simp [D.blw]) (by intro m fs xs ih; simpa [D.blw] using ih) (by intro i; simp [D.blw])
        (by simp [D.blws]) (by intro c cs h1 h2 h; simp only [D.blws, Bool.and_eq_true] at h ⊢; exact ⟨h1 h.1, h2 h.2⟩) c
    · intro cs
      exact D.rec_1 (motive_1 := fun c => c.blw 0 = true → c.blw n = true) (motive_2 := fun cs => D.blws 0 cs = true → D.blws n cs = true)
        (by simp [D.blw]) (by simp [D.blw]) (by simp [D.blw]) (by simp [D.blw]) (by simp [D.blw]) (by simp [D.blw]) (by intro xs ih; simpa [D.blw] using ih) (by intro xs ih; simpa [D.blw] using ih) (by intro xs ih; simpa [D.blw] using ih) (by simp [D.blw]) (by intro ks xs ih; simpa [D.blw] using ih) (by intro ks xs ih; simpa [D.blw] using ih) (by simp [D.blw]) (by intro m fs xs ih; simpa [D.blw] using ih) (by intro i; simp [D.blw])
        (by simp [D.blws]) (by intro c cs h1 h2 h; simp only [D.blws, Bool.and_eq_true] at h ⊢; exact ⟨h1 h.1, h2 h.2⟩) cs
theorem blws_map {α : Type} {f : α → D} {n : Nat} (h : ∀ x, (f x).blw n = true) : ∀ xs : List α, D.blws n (xs.map f) = true
  | [] => by simp [D.blws]
  | x :: xs => by simp [D.blws, h x, blws_map h xs]
/-! cells by their place -/
section
variable {st l : Store} {b : Nat} {c c' x y z : D}
theorem cell_b (h : b < st.length) : (st.set b c ++ l)[b]? = some c := by
  rw [List.getElem?_append_left (by simpa using h), List.getElem?_set_self h]
theorem cell_b0 (h : b < st.length) : (st.set b c)[b]? = some c := List.getElem?_set_self h
theorem cell_n : (st.set b c ++ x :: l)[st.length]? = some x := by
  rw [List.getElem?_append_right (by simp)]; simp
theorem cell_n0 : (st ++ x :: l)[st.length]? = some x := by
  rw [List.getElem?_append_right (by simp)]; simp
theorem cell_m : (st.set b c ++ x :: y :: l)[st.length + 1]? = some y := by
  rw [List.getElem?_append_right (by simp)]; simp
theorem cell_m0 : (st ++ x :: y :: l)[st.length + 1]? = some y := by
  rw [List.getElem?_append_right (by simp)]; simp
theorem put_b (h : b < st.length) : (st.set b c ++ l).set b c' = st.set b c' ++ l := by
  rw [List.set_append_left _ _ (by simpa using h), List.set_set]
theorem put_b0 : (st.set b c).set b c' = st.set b c' := List.set_set ..
theorem put_n : (st.set b c ++ x :: l).set st.length y = st.set b c ++ y :: l := by
  rw [List.set_append_right _ _ (by simp)]; simp
theorem put_n0 : (st ++ x :: l).set st.length y = st ++ y :: l := by
  rw [List.set_append_right _ _ (by simp)]; simp
theorem put_m : (st.set b c ++ x :: y :: l).set (st.length + 1) z = st.set b c ++ x :: z :: l := by
  rw [List.set_append_right _ _ (by simp)]; simp
theorem put_m0 : (st ++ x :: y :: l).set (st.length + 1) z = st ++ x :: z :: l := by
  rw [List.set_append_right _ _ (by simp)]; simp
theorem cut_b : (st.set b c ++ l).take st.length = st.set b c := by
  rw [List.take_append_of_le_length (by simp)]; exact List.take_of_length_le (by simp)
theorem cut_0 : (st ++ l).take st.length = st := by simp
theorem cut_b0 : (st.set b c).take st.length = st.set b c := List.take_of_length_le (by simp)
end
end My

namespace My
open PySem PySem.Spec PyProof.Rows L2

/-! ### operations on known values -/
section
variable {i j : Int} {x y : Str} {st : Store} {a b : D} {xs ys : List D} {c e : Bool}
theorem add_int : dAdd (.int i) (.int j) st = some (.int (i + j)) := rfl
theorem addI_int : dAddI (.int i) (.int j) st = some (.int (i + j)) := rfl
theorem sub_int : dSub (.int i) (.int j) st = some (.int (i - j)) := rfl
theorem mul_int (h : CMulW i j) : dMul (.int i) (.int j) st = some (.int (i * j)) := if_pos h
theorem mod_int (h : 0 < j) : dMod (.int i) (.int j) st = some (.int (i % j)) := if_pos h
theorem fdiv_int (h : CDivW i j) : dFdiv (.int i) (.int j) st = some (.int (i / j)) := if_pos h
theorem neg_int : dNeg (.int i) st = some (.int (-i)) := rfl
theorem lt_int : dLt (.int i) (.int j) st = some (.bl (decide (i < j))) := rfl
theorem le_int : dLe (.int i) (.int j) st = some (.bl (decide (i ≤ j))) := rfl
theorem gt_int : dGt (.int i) (.int j) st = some (.bl (decide (j < i))) := rfl
theorem ge_int : dGe (.int i) (.int j) st = some (.bl (decide (j ≤ i))) := rfl
theorem eq_int : dEq (.int i) (.int j) st = some (.bl (decide (i = j))) := rfl
theorem ne_int : dNe (.int i) (.int j) st = some (.bl (!decide (i = j))) := rfl
theorem eq_str : dEq (.str x) (.str y) st = some (.bl (decide (x = y))) := rfl
theorem ne_str : dNe (.str x) (.str y) st = some (.bl (!decide (x = y))) := rfl
theorem eq_bl : dEq (.bl c) (.bl e) st = some (.bl (decide (c = e))) := rfl
theorem ne_bl : dNe (.bl c) (.bl e) st = some (.bl (!decide (c = e))) := rfl
theorem eq_is : dEq (.int i) (.str y) st = some (.bl false) := rfl
theorem eq_si : dEq (.str x) (.int j) st = some (.bl false) := rfl
theorem ne_is : dNe (.int i) (.str y) st = some (.bl true) := rfl
theorem ne_si : dNe (.str x) (.int j) st = some (.bl true) := rfl
theorem is_nn : dIs .non .non st = some (.bl true) := rfl
theorem cat_lst (h : xs.length + ys.length ≤ sizeLine) : dAdd (.lst xs) (.lst ys) st = some (.lst (xs ++ ys)) := if_pos h
theorem cat_tup (h : xs.length + ys.length ≤ sizeLine) : dAdd (.tup xs) (.tup ys) st = some (.tup (xs ++ ys)) := if_pos h
theorem ix_tup : dIx (.tup xs) (.int i) st = atI xs i := rfl
theorem ix_lst : dIx (.lst xs) (.int i) st = atI xs i := rfl
theorem ix_scr {ns : List Int} : dIx (.scr ns) (.int i) st = atI (ns.map .int) i := rfl
theorem seqL_cell {n : Nat} (h : st[n]? = some (.lst xs)) : seqL st (.ref n) = some xs := by simp only [seqL, h]
theorem seqA_cell {n : Nat} (h : st[n]? = some (.lst xs)) : seqA st (.ref n) = some xs := by simp only [seqA, seqL, h]
theorem ix_cell {n : Nat} (h : st[n]? = some (.lst xs)) : dIx (.ref n) (.int i) st = atI xs i := by
  unfold dIx
  rw [seqA_cell h]
theorem at_0 {α : Type} {z : α} {zs : List α} : atI (z :: zs) 0 = some z := atI_nat (j := 0) rfl
theorem at_1 {α : Type} {z w : α} {zs : List α} : atI (z :: w :: zs) 1 = some w := atI_nat (j := 1) rfl
theorem at_2 {α : Type} {z w u : α} {zs : List α} : atI (z :: w :: u :: zs) 2 = some u := atI_nat (j := 2) rfl
theorem at_3 {α : Type} {z w u t : α} {zs : List α} : atI (z :: w :: u :: t :: zs) 3 = some t := atI_nat (j := 3) rfl
theorem ixn_ok {n : Nat} {i : Int} (h0 : 0 ≤ i) (h1 : i < n) : ixN n i = some i.toNat := by
  unfold ixN
  rw [if_pos h0, if_pos h1]
theorem put_cell {n : Nat} {v : D} (h : st[n]? = some (.lst xs)) (h0 : 0 ≤ i) (h1 : i < xs.length) : dPut (.ref n) (.int i) v st = some (st.set n (.lst (xs.set i.toNat v))) := by
  simp only [dPut, h, ixn_ok h0 h1]
theorem len_tup : fLen [.tup xs] st = some (.int xs.length, st) := rfl
theorem len_tpf : fLen [.tpf xs] st = some (.int xs.length, st) := rfl
theorem ix_tpf : dIx (.tpf xs) (.int i) st = atI xs i := rfl
theorem len_lst : fLen [.lst xs] st = some (.int xs.length, st) := rfl
theorem len_scr {ns : List Int} : fLen [.scr ns] st = some (.int ns.length, st) := by
  show some _ = _
  rw [List.length_map]
theorem len_cell {n : Nat} (h : st[n]? = some (.lst xs)) : fLen [.ref n] st = some (.int xs.length, st) := by
  unfold fLen ro
  dsimp only
  rw [seqA_cell h]; rfl
theorem app_cell {n : Nat} (h : st[n]? = some (.lst xs)) (hz : xs.length < sizeLine) : mAppend (.ref n) [a] st = some (.non, st.set n (.lst (xs ++ [a]))) := by
  simp only [mAppend, h, if_pos hz]
theorem tyD_cell {n : Nat} (h : st[n]? = some (.lst xs)) : tyD "list" st (.ref n) := by
  refine ⟨?_, by decide, by decide, by decide⟩
  simp only [tyNameS, h]
theorem EvF_of {F : FM} {ds : List D} {st st' : Store} {d : D} {Q : D → Store → Prop} (h : F ds st = some (d, st')) (q : Q d st') : EvF F ds st Q := ⟨d, st', h, q⟩
end
theorem cmul {i j : Int} (a b : Nat) (ha : i.natAbs < 2 ^ a) (hb : j.natAbs < 2 ^ b) (h0 : 0 < a := by decide) (h1 : 0 < b := by decide) (h : a + b ≤ 1000000 := by decide) : CMulW i j := wide_mul ha hb h0 h1 h
theorem cdiv {i j : Int} (b : Nat) (h : 0 < j) (hb : j.natAbs < 2 ^ b) (h0 : 0 < b := by decide) (h9 : b ≤ 9000 := by decide) : CDivW i j := wide_div h hb h0 h9
theorem mul_lst {xs : List D} {k : Int} {st : Store} (h1 : -(2 ^ 63) ≤ k) (h2 : k < 2 ^ 63) (h3 : xs.length * k.toNat ≤ sizeLine) : dMul (.lst xs) (.int k) st = some (.lst (List.replicate k.toNat xs).flatten) := by
  simp only [dMul, seqL]
  exact if_pos ⟨h1, h2, h3⟩
theorem put_dk {n : Nat} {ks : List Key} {vs : List D} {i v : D} {k : Key} {st : Store} (h : st[n]? = some (.dk ks vs)) (hk : keyOf i = some k) (hz : ks.length < sizeLine) : dPut (.ref n) i v st = some (st.set n (.dk (kPutK ks k) (kPutV ks vs k v))) := by
  simp only [dPut, h, hk, if_pos hz]
theorem evF_some {F : FM} {ds : List D} {st st' : Store} {d : D} {Q : D → Store → Prop} (h : F ds st = some (d, st')) : EvF F ds st Q ↔ Q d st' :=
  ⟨fun ⟨x, s, e, q⟩ => by
    rw [h] at e
    cases e
    exact q, fun q => ⟨d, st', h, q⟩⟩
section
variable {i j : Int} {b : Bool} {xs : List D} {ns : List Int} {bs : List Bool} {x : Str} {st : Store} {Q : D → Store → Prop}
theorem ev_len_tup : EvF fLen [.tup xs] st Q ↔ Q (.int xs.length) st := evF_some len_tup
theorem ev_len_tpf : EvF fLen [.tpf xs] st Q ↔ Q (.int xs.length) st := evF_some len_tpf
theorem ev_len_lst : EvF fLen [.lst xs] st Q ↔ Q (.int xs.length) st := evF_some len_lst
theorem ev_len_scr : EvF fLen [.scr ns] st Q ↔ Q (.int ns.length) st := evF_some len_scr
theorem ev_len_cell {n : Nat} (h : st[n]? = some (.lst xs)) : EvF fLen [.ref n] st Q ↔ Q (.int xs.length) st := evF_some (len_cell h)
theorem ev_abs : EvF fAbs [.int i] st Q ↔ Q (.int (if i < 0 then -i else i)) st := evF_some rfl
theorem ev_int : EvF fInt [.int i] st Q ↔ Q (.int i) st := evF_some rfl
theorem ev_intb : EvF fInt [.bl b] st Q ↔ Q (.int (if b = true then 1 else 0)) st := evF_some rfl
theorem ev_max2 : EvF fMax [.int i, .int j] st Q ↔ Q (.int (if j > i then j else i)) st := evF_some rfl
theorem ev_min2 : EvF fMin [.int i, .int j] st Q ↔ Q (.int (if j < i then j else i)) st := evF_some rfl
theorem ev_tuple_lst : EvF fTuple [.lst xs] st Q ↔ Q (.tup xs) st := evF_some rfl
theorem ev_tuple_tpf : EvF fTuple [.tpf xs] st Q ↔ Q (.tpf xs) st := evF_some rfl
theorem ev_list_tpf : EvF fList [.tpf xs] st Q ↔ Q (.lst xs) st := evF_some rfl
theorem ev_tuple_tup : EvF fTuple [.tup xs] st Q ↔ Q (.tup xs) st := evF_some rfl
theorem ev_tuple_cell {n : Nat} (h : st[n]? = some (.lst xs)) : EvF fTuple [.ref n] st Q ↔ Q (.tup xs) st := evF_some (by simp only [fTuple, ro, seqA_cell h, Option.map_some])
theorem ev_list_lst : EvF fList [.lst xs] st Q ↔ Q (.lst xs) st := evF_some rfl
theorem ev_list_tup : EvF fList [.tup xs] st Q ↔ Q (.lst xs) st := evF_some rfl
theorem ev_list_cell {n : Nat} (h : st[n]? = some (.lst xs)) : EvF fList [.ref n] st Q ↔ Q (.lst xs) st := evF_some (by simp only [fList, ro, seqA_cell h, Option.map_some])
theorem ev_all : EvF fAll [.lst (bs.map D.bl)] st Q ↔ Q (.bl (bs.all id)) st := evF_some (by simp only [fAll, ro, seqL, bolsOf_map, Option.map_some])
theorem ev_any : EvF fAny [.lst (bs.map D.bl)] st Q ↔ Q (.bl (bs.any id)) st := evF_some (by simp only [fAny, ro, seqL, bolsOf_map, Option.map_some])
theorem ev_sum_lst : EvF fSum [.lst (ns.map D.int)] st Q ↔ Q (.int ns.sum) st := evF_some (by simp only [fSum, ro, seqL, intsOf_map, Option.map_some])
theorem ev_sum_tup : EvF fSum [.tup (ns.map D.int)] st Q ↔ Q (.int ns.sum) st := evF_some (by simp only [fSum, ro, intsOf_map, Option.map_some])
theorem ev_sorted_lst : EvF fSorted [.lst (ns.map D.int)] st Q ↔ Q (.lst ((isort ns).map D.int)) st := evF_some (by simp only [fSorted, fSortedL, ro, seqL, intsOf_map, Option.map_some])
theorem lKeys_map (ns : List Int) : lKeys (ns.map Sum.inl) = some ns := by
  induction ns with
  | nil => rfl
  | cons n ns ih => simp only [List.map_cons, lKeys, ih, Option.map_some]
theorem ev_sorted_dk {n : Nat} {vs : List D} (h : st[n]? = some (.dk (ns.map Sum.inl) vs)) (hl : ns.length < 64) : EvF fSorted [.ref n] st Q ↔ Q (.lst ((isort ns).map D.int)) st := evF_some (by
  have e1 : fSortedL [.ref n] st = none := by simp only [fSortedL, ro, seqL, h, Option.map_none]
  simp only [fSorted, e1, fSortedD, ro, dicK, h, lKeys_map, if_pos hl, Option.map_some])
theorem isort_perm (ns : List Int) : (isort ns).Perm ns := List.mergeSort_perm _ _
theorem isort_sorted (ns : List Int) : (isort ns).Pairwise (· ≤ ·) := by
  have := List.pairwise_mergeSort (le := fun a b : Int => decide (a ≤ b)) (fun a b c h1 h2 => by simp at *; omega) (fun a b => by simp; omega) ns
  exact this.imp fun h => by simpa using h
end
/-! trees have no cells -/
section
variable {i : Int} {b : Bool} {x : Str} {xs : List D} {d : D}
theorem blw_int : (D.int i).blw 0 = true := by simp only [D.blw]
theorem blw_bl : (D.bl b).blw 0 = true := by simp only [D.blw]
theorem blw_str : (D.str x).blw 0 = true := by simp only [D.blw]
theorem blw_non : D.non.blw 0 = true := by simp only [D.blw]
theorem blw_tpf (h : D.blws 0 xs = true) : (D.tpf xs).blw 0 = true := by simpa only [D.blw] using h
theorem blw_tup (h : D.blws 0 xs = true) : (D.tup xs).blw 0 = true := by simpa only [D.blw] using h
theorem blw_lst (h : D.blws 0 xs = true) : (D.lst xs).blw 0 = true := by simpa only [D.blw] using h
theorem blws_nil : D.blws 0 [] = true := by simp only [D.blws]
theorem blws_cons (h : d.blw 0 = true) (t : D.blws 0 xs = true) : D.blws 0 (d :: xs) = true := by simp only [D.blws, h, t, Bool.and_true]
theorem blws_ints {ns : List Int} : D.blws 0 (ns.map D.int) = true := blws_map (fun _ => blw_int) ns
theorem blws_all {xs : List D} (h : ∀ d ∈ xs, d.blw 0 = true) : D.blws 0 xs = true := by
  induction xs with
  | nil => exact blws_nil
  | cons d xs ih => exact blws_cons (h d List.mem_cons_self) (ih fun x hx => h x (List.mem_cons_of_mem _ hx))
theorem blws_mem {xs : List D} (h : D.blws 0 xs = true) : ∀ d ∈ xs, d.blw 0 = true := by
  induction xs with
  | nil => intro d hd; cases hd
  | cons d xs ih =>
    simp only [D.blws, Bool.and_eq_true] at h
    intro y hy
    rcases List.mem_cons.mp hy with rfl | hy
    · exact h.1
    · exact ih h.2 y hy
end
end My

namespace My
open PySem PySem.Spec PyProof.Rows L2
/-- the module's classes by their names -/
def wd (K : PySem.W.Frag) (mg : Str → Option Value) : Wd := ⟨K, fun n => match mg n with
  | some (.ref a) => a
  | _ => 0⟩
structure Df (K : PySem.W.Frag) (mg : Str → Option Value) (x : Str) (st : Stmt) (ps : List Str) : Prop where
  ex : ∃ (f : Addr) (fd : FuncData), Fun K x x st f fd ∧ mg x = some (.ref f) ∧ Binds K fd ps []
structure DfK (K : PySem.W.Frag) (mg : Str → Option Value) (x : Str) (st : Stmt) (ps : List Str) (kws : List (Str × V)) (n : Nat) : Prop where
  ex : ∃ (f : Addr) (fd : FuncData), FunD K x x (defArgs st) (defBody st) (defScope st) [] kws f fd ∧ mg x = some (.ref f) ∧ (∃ ds, Vals (kws.map (·.2)) ds ∧ Binds K fd ps ds) ∧ KBn K fd ps n (kws.map (·.1)) (fun us ws => us ++ ws) (fun vs zs => vs ++ zs)
structure MeF (K : PySem.W.Frag) (C : Addr) (m qual : Str) (st : Stmt) (ps : List Str) : Prop where
  ex : ∃ (f : Addr) (fd : FuncData), Fun K m qual st f fd ∧ Binds K fd ps [] ∧ Meth K C m f
structure MkF (K : PySem.W.Frag) (C : Addr) (qual : Str) (st : Stmt) (ps : List Str) : Prop where
  ex : ∃ (f : Addr) (fd : FuncData), Fun K "__init__" qual st f fd ∧ Binds K fd ps [] ∧ Mk K C f
theorem kw_all {K : PySem.W.Frag} {x qual : Str} {pa : Arguments} {bd : List Stmt} {sc : Scope} {kws : List (Str × V)} {f : Addr} {fd : FuncData} {ps : List Str} (F : FunD K x qual pa bd sc [] kws f fd) (n : Nat) (ks : List Str)
    (h : ∀ (kV doc pm : Value) (an : Option Addr) (cdv ct : Value) (us ws : List Value), us.length = n → ws.length = ks.length → bindArgs (PySem.W.fnOf x qual pa bd sc .none kV doc pm an cdv ct) ⟨us, ks.zip ws⟩ = pure (ps.zip (us ++ ws))) :
    KBn K fd ps n ks (fun us ws => us ++ ws) (fun vs zs => vs ++ zs) := by
  obtain ⟨oc, od, dV, kV, doc, pm, an, cdv, ct, osl, rfl, _, _, hd, _⟩ := F.ex
  rcases hd with ⟨_, rfl⟩ | ⟨z, _⟩
  · exact ⟨fun s us ws _ h1 h2 => .of_eq (h kV doc pm an cdv ct us ws h1 h2), fun r1 r2 => r1.append r2⟩
  · exact absurd rfl z
section
variable {X : Cx} {W : Wd}
theorem jv (i : Nat) {x : Str} {pos : Pos} (hN : X.N[i]? = some x := by rfl) (hv : Vis X.env.scope x := by first | exact Or.inl rfl | exact Or.inr (Or.inl rfl) | exact Or.inr (Or.inr rfl)) (hd : (x == ("__debug__" : Str)) = false := by decide)
    (hcd : (x == ("__classdict__" : Str)) = false := by decide) : PE X (.Name x pos) (T W (eVar i)) := j_var hN hv hd hcd
theorem ty_rep {ι : Lay} {H : Hp} {n : String} : Rep W ι H (.ty n) (.ty n) := by simp only [Rep]
end
end My

namespace My
open PySem PySem.Spec PyProof.Rows L2

/-! ### objects of the program's classes -/
def fGet : List Str → List D → Str → Option D
  | f :: fs, v :: vs, g => if g = f then some v else fGet fs vs g
  | _, _, _ => none
def fPutF : List Str → Str → List Str
  | [], g => [g]
  | f :: fs, g => if f = g then f :: fs else f :: fPutF fs g
def fPutV : List Str → List D → Str → D → List D
  | f :: fs, v :: vs, g, x => if f = g then x :: vs else v :: fPutV fs vs g x
  | _, _, _, x => [x]
def eFld (n f : Str) (m : EM) : EM := fun env st => match m env st with
  | some (o, s1) => match insA s1 o with
    | some (n', fs, vs) => if n' = n then (fGet fs vs f).map (·, s1) else none
    | none => none
  | none => none
def fldPut (n f : Str) (o v : D) (st : Store) : Option Store := match o with
  | .ref i => match st[i]? with
    | some (.ins n' fs vs) => if n' = n ∧ fs.length < 1000 then some (st.set i (.ins n' (fPutF fs f) (fPutV fs vs f v))) else none
    | _ => none
  | _ => none
/-- o.f = v -/
def sFldM (n f : Str) (mo mv : EM) : SM := fun env st => match mv env st with
  | some (v, s1) => match mo env s1 with
    | some (o, s2) => match fldPut n f o v s2 with
      | some s3 => some (.nx env, s3)
      | none => none
    | none => none
  | none => none
/-- o.f op= v -/
def sFldAugM (n f : Str) (g : D → D → Store → Option D) (mo mv : EM) : SM := fun env st => match mo env st with
  | some (o, s1) => match insA s1 o with
    | some (n', fs, vs) => if n' = n then match fGet fs vs f with
      | some x => match mv env s1 with
        | some (y, s2) => match g x y s2 with
          | some z => match fldPut n f o z s2 with
            | some s3 => some (.nx env, s3)
            | none => none
          | none => none
        | none => none
      | none => none
      else none
    | none => none
  | none => none
open Classical in
/-- o.m(..) -/
noncomputable def eMeth (n m : Str) (ar : Nat) (F : FM) (dds : List D) (mo : EM) (a : AM) : EM := fun env st => match mo env st with
  | some (o, s1) => match insA s1 o with
    | some (n', fs, _) => if n' = n ∧ m ∉ fs then match a env s1 with
      | some (xs, s2) => if (o :: (xs ++ dds)).length = ar then F (o :: (xs ++ dds)) s2 else none
      | none => none
      else none
    | none => none
  | none => none
open Classical in
/-- C(..), told as a tree -/
noncomputable def eNew (n : Str) (ar : Nat) (F : FM) (dds : List D) (a : AM) : EM := fun env st => match a env st with
  | some (xs, s1) => if (xs ++ dds).length + 1 = ar then match F (.ref s1.length :: (xs ++ dds)) (s1 ++ [.ins n [] []]) with
    | some (.non, s2) => fin s1 (.ref s1.length) s2
    | _ => none
    else none
  | none => none
open Classical in
/-- C(..), a cell -/
noncomputable def eNewK (n : Str) (ar : Nat) (F : FM) (dds : List D) (a : AM) : EM := fun env st => match a env st with
  | some (xs, s1) => if (xs ++ dds).length + 1 = ar then match F (.ref s1.length :: (xs ++ dds)) (s1 ++ [.ins n [] []]) with
    | some (.non, s2) => some (.ref s1.length, s2)
    | _ => none
    else none
  | none => none
section
variable {W : Wd} {ι : Lay} {H : Hp}
theorem fGet_ok {f : Str} : ∀ {fs : List Str} {ds : List D} {us : List V} {d : D}, Reps W ι H ds us → fGet fs ds f = some d → ∃ u, (fs.zip us).lookup f = some u ∧ Rep W ι H d u
  | [], _, _, _, _, e => by simp [fGet] at e
  | _ :: _, [], _, _, _, e => by simp [fGet] at e
  | g :: fs, x :: ds, us, d, h, e => by
    obtain ⟨u, r, rfl, h1, h2⟩ := h.uncons
    unfold fGet at e
    split at e
    · rename_i q
      cases e
      exact ⟨u, by rw [List.zip_cons_cons, q]; simp [List.lookup], h1⟩
    · rename_i q
      obtain ⟨w, h3, h4⟩ := fGet_ok h2 e
      exact ⟨w, by rw [List.zip_cons_cons]; simp only [List.lookup]; rw [show (f == g) = false by simpa using q]; exact h3, h4⟩
theorem lookup_none {f : Str} : ∀ {fs : List Str} {us : List V}, f ∉ fs → (fs.zip us).lookup f = none
  | [], _, _ => rfl
  | _ :: _, [], _ => rfl
  | g :: fs, u :: us, h => by
    simp only [List.mem_cons, not_or] at h
    rw [List.zip_cons_cons]
    simp only [List.lookup]
    rw [show (f == g) = false by simpa using h.1]
    exact lookup_none h.2
theorem fPut_ok {f : Str} {d : D} {u : V} (hd : Rep W ι H d u) : ∀ {fs : List Str} {ds : List D} {us : List V}, Reps W ι H ds us → fs.length = ds.length → ∃ us', putF f u (fs.zip us) = (fPutF fs f).zip us' ∧ (fPutF fs f).length = (fPutV fs ds f d).length ∧ Reps W ι H (fPutV fs ds f d) us'
  | [], [], us, h, _ => by rw [h.nil_of]; exact ⟨[u], rfl, rfl, Reps.cons hd Reps.nil⟩
  | [], _ :: _, _, _, hl => by simp at hl
  | _ :: _, [], _, _, hl => by simp at hl
  | g :: fs, x :: ds, us, h, hl => by
    obtain ⟨v, r, rfl, h1, h2⟩ := h.uncons
    rw [List.zip_cons_cons]
    unfold putF fPutF fPutV
    by_cases e : g = f
    · simp only [if_pos e]
      exact ⟨u :: r, by rw [List.zip_cons_cons], by simpa using hl, Reps.cons hd h2⟩
    · simp only [if_neg e]
      obtain ⟨us', e1, e2, e3⟩ := fPut_ok (f := f) hd h2 (by simpa using hl)
      exact ⟨v :: us', by rw [e1, List.zip_cons_cons], by simpa using e2, Reps.cons h1 e3⟩
theorem fPutF_len (fs : List Str) (f : Str) : (fPutF fs f).length ≤ fs.length + 1 := by
  induction fs with
  | nil => simp [fPutF]
  | cons g fs ih =>
    unfold fPutF
    split <;> simp <;> omega
end
section
variable {X : Cx} {W : Wd} {o e value : Expr} {f n : Str} {pos pos' tpos apos p : Pos} {mo mv : EM} {es : List Expr}
theorem fldPut_ok {ι : Lay} {H : Hp} {st st' : Store} {a b : D} {x y : V} {D : L2.Ends} {σ : L2.St} (r : RelH W ι H st) (ha : Rep W ι H a x) (hb : Rep W ι H b y) (e : fldPut n f a b st = some st') :
    ∃ p dx fs, x = .ref p ∧ H p = some (.ins (W.cl n) dx fs) ∧ fs.length < 1000 ∧ Grow ι H ι (upd H p (.ins (W.cl n) dx (putF f y fs))) ∧ RelH W ι (upd H p (.ins (W.cl n) dx (putF f y fs))) st' := by
  unfold fldPut at e
  split at e
  · rename_i i
    obtain ⟨p, c, rfl, h1, h2, h3⟩ := rep_ref r ha
    rw [h2] at e
    obtain ⟨z, hz, mz⟩ := h3.there
    split at e
    · rename_i n' fs vs q
      cases q
      split at e
      · rename_i hc
        obtain ⟨rfl, hl⟩ := hc
        cases e
        obtain ⟨dx, us, h4, h5, h6⟩ := h3
        obtain ⟨us', e1, e2, e3⟩ := fPut_ok (f := f) hb h6 h5
        have g : ∀ o', Grow ι H ι (upd H p o') := fun o' => Grow.put h1 hz mz
        refine ⟨p, dx, _, rfl, h4, ?_, g _, ?_⟩
        · rw [List.length_zip, ← h6.length, ← h5]; omega
        · rw [e1]
          exact r.put h1 ⟨dx, us', upd_same, e2, Reps.grow (g _) _ _ e3⟩
      · cases e
    · cases e
  · cases e
theorem j_fld (hK : X.K = W.K) (c : Cls X.K (W.cl n)) (na : NoAttr X.K (W.cl n) f) (he : PE X o (T W mo)) (hb : attributeBase o f X.env (eval o X.env) = eval o X.env := by rfl) : PE X (.Attribute o f pos) (T W (eFld n f mo)) := (pe_fld he hb).imp fun σ H Q ⟨ι, st, env, d, st', r, q, e, k⟩ => by
  unfold eFld at e
  split at e
  · rename_i x s1 e1
    split at e
    · rename_i n' fs vs e2
      split at e
      · rename_i hn
        subst hn
        rw [Option.map_eq_some_iff] at e
        obtain ⟨d', e3, e4⟩ := e
        cases e4
        refine T.of r q e1 fun v ι1 H1 g1 r1 p1 => ?_
        obtain ⟨a, dx, us, rfl, h1, h2, h3⟩ := insA_ok r1 p1 e2
        obtain ⟨u, h4, h5⟩ := fGet_ok h3 e3
        exact ⟨a, _, dx, _, u, rfl, h1, c, na, h4, (k.go g1).now r1 h5⟩
      · cases e
    · cases e
  · cases e
theorem js_fld (c : Cls X.K (W.cl n)) (na : NoAttr X.K (W.cl n) f) (ho : PE X o (T W mo)) (hv : PE X value (T W mv)) (hs : swapsWith value (some (.Attribute o f pos')) pos.line X.env = pure false := by rfl) :
    PS X (.Assign [.Attribute o f pos'] value pos) (TSt W (sFldM n f mo mv)) := (ps_fld ho hv hs).imp fun D σ H ⟨ι, st, env, d, st', r, q, e, k⟩ => by
  unfold sFldM at e
  split at e
  · rename_i v s1 e1
    split at e
    · rename_i x s2 e2
      split at e
      · rename_i s3 e3
        cases e
        refine T.of r q e1 fun y ι1 H1 g1 r1 p1 => T.of r1 (q.grow g1) e2 fun z ι2 H2 g2 r2 p2 => ?_
        obtain ⟨a, dx, fs, rfl, h1, h2, g3, r3⟩ := fldPut_ok (D := D) (σ := σ) r2 p2 (Rep.grow g2 _ _ p1) e3
        exact ⟨a, _, dx, fs, rfl, h1, c, na, h2, k _ _ _ ((g1.trans g2).trans g3) r3 (((q.grow g1).grow g2).grow g3)⟩
      · cases e
    · cases e
  · cases e
theorem js_fldaug {op : Operator} {g : D → D → Store → Option D} (c : Cls X.K (W.cl n)) (na : NoAttr X.K (W.cl n) f) (ho : PE X o (T W mo)) (hv : PE X value (T W mv)) (hop : InOp X op (M2 W g)) : PS X (.AugAssign (.Attribute o f tpos) op value pos) (TSt W (sFldAugM n f g mo mv)) := (ps_fldaug ho hv hop).imp fun D σ H ⟨ι, st, env, d, st', r, q, e, k⟩ => by
  unfold sFldAugM at e
  split at e
  · rename_i x s1 e1
    split at e
    · rename_i n' fs vs e2
      split at e
      · rename_i hn
        subst hn
        split at e
        · rename_i x0 e3
          split at e
          · rename_i y s2 e4
            split at e
            · rename_i z e5
              split at e
              · rename_i s3 e6
                cases e
                refine T.of r q e1 fun v ι1 H1 g1 r1 p1 => ?_
                obtain ⟨a, dx, us, ex, h1, h2, h3⟩ := insA_ok r1 p1 e2
                obtain ⟨u, h4, h5⟩ := fGet_ok h3 e3
                refine ⟨a, _, dx, _, u, ex, h1, c, na, h4, T.of r1 (q.grow g1) e4 fun w ι2 H2 g2 r2 p2 => ⟨ι2, s2, x0, y, z, r2, Rep.grow g2 _ _ h5, p2, e5, fun w2 ι3 H3 g3 r3 p3 => ?_⟩⟩
                obtain ⟨a', dx', fs', ex', h6, h7, g4, r4⟩ := fldPut_ok (D := D) (σ := σ) r3 (Rep.grow g3 _ _ (Rep.grow g2 _ _ p1)) p3 e6
                rw [ex] at ex'
                cases ex'
                exact ⟨dx', fs', h6, h7, k _ _ _ (((g1.trans g2).trans g3).trans g4) r4 ((((q.grow g1).grow g2).grow g3).grow g4)⟩
              · cases e
            · cases e
          · cases e
        · cases e
      · cases e
    · cases e
  · cases e
variable {k ar : Nat} {g : Addr} {fd : FuncData} {ps : List Str} {x m : Str} {F : FM} {am : AM} {dvs : List V} {ds : List Value} {dds : List D} {E : XK}
theorem tMeth_of (hdv : ∀ ι H, Reps W ι H dds dvs) {σ : L2.St} {H : Hp} {Q : VK} (h : T W (eMeth n m ar F dds mo am) σ H Q) : tMeth (W.cl n) m (spM W ar F) dvs E (T W mo) (TAs W am) σ H Q := by
  obtain ⟨ι, st, env, d, st', r, q, e, k⟩ := h
  unfold eMeth at e
  split at e
  · rename_i x s1 e1
    split at e
    · rename_i n' fs vs e2
      split at e
      · rename_i hc
        obtain ⟨rfl, hm⟩ := hc
        split at e
        · rename_i xs s2 e3
          split at e
          · rename_i hl
            refine T.of r q e1 fun v ι1 H1 g1 r1 p1 => ?_
            obtain ⟨a, dx, us, rfl, h1, h2, h3⟩ := insA_ok r1 p1 e2
            exact ⟨a, dx, _, rfl, h1, lookup_none hm, TA.of r1 (q.grow g1) e3 fun ws ι2 H2 g2 r2 p2 => ⟨ι2, s2, x :: (xs ++ dds), d, st', r2, Reps.cons (Rep.grow g2 _ _ p1) (p2.append (hdv _ _)), hl, e, k.go (g1.trans g2)⟩⟩
          · cases e
        · cases e
      · cases e
    · cases e
  · cases e
theorem j_meth {pl : Sem Bool} (c : Cls X.K (W.cl n)) (hm : Meth X.K (W.cl n) m g) (F0 : FnOk X.prog X.w X.K X.mg X.base CX0 k g fd ps (spM W ar F)) (hr : Room k X.A) (hb : Binds X.K fd ps ds) (hd : Vals dvs ds) (hdv : ∀ ι H, Reps W ι H dds dvs) (hx : Passes CX0 X E) (he : PE X o (T W mo)) (ha : PA X (e :: es) (TAs W am))
    (hst : starEach (e :: es) X.env = (false, eval e X.env) :: starEach es X.env := by rfl) (hpl : (backTo pos (starEach es X.env)).any (·.1) = false := by rfl)
    (ht : eval (.Call (.Attribute o m apos) (e :: es) [] pos) X.env = (do
      let ov ← eval o X.env
      standAt apos.atName
      let (f, first) ← holding [ov] (getMethod ov m pl)
      callWith pos f first (backTo pos (starEach (e :: es) X.env)) (backToKw pos (keywordEach [] X.env))) := by rfl) :
    PE X (.Call (.Attribute o m apos) (e :: es) [] pos) (T W (eMeth n m ar F dds mo am)) := (pe_meth (pl := pl) he c hm F0 hr hb hd hx ha hst hpl ht).imp fun _ _ _ => tMeth_of hdv
theorem j_meth0 {pl : Sem Bool} (c : Cls X.K (W.cl n)) (hm : Meth X.K (W.cl n) m g) (F0 : FnOk X.prog X.w X.K X.mg X.base CX0 k g fd ps (spM W ar F)) (hr : Room k X.A) (hb : Binds X.K fd ps ds) (hd : Vals dvs ds) (hdv : ∀ ι H, Reps W ι H dds dvs) (hx : Passes CX0 X E) (he : PE X o (T W mo))
    (ht : eval (.Call (.Attribute o m apos) [] [] pos) X.env = (do
      let ov ← eval o X.env
      standAt apos.atName
      let (f, first) ← holding [ov] (getMethod ov m pl)
      callWith pos f first (backTo pos (starEach [] X.env)) (backToKw pos (keywordEach [] X.env))) := by rfl) :
    PE X (.Call (.Attribute o m apos) [] [] pos) (T W (eMeth n m ar F dds mo aNil)) := (pe_meth0 (pl := pl) he c hm F0 hr hb hd hx ht).imp fun σ H Q h => by
  obtain ⟨ι, st, env, d, st', r, q, e, kk⟩ := tMeth_of (E := E) hdv h
  refine ⟨ι, st, env, d, st', r, q, e, fun v ι' H' g' r' p' => ?_⟩
  obtain ⟨a, dx, fs, h1, h2, h3, h4⟩ := kk v ι' H' g' r' p'
  refine ⟨a, dx, fs, h1, h2, h3, ?_⟩
  obtain ⟨ι2, st2, env2, d2, st2', r2, q2, e2, k2⟩ := h4
  cases e2
  exact k2 [] _ _ Grow.refl r2 Reps.nil
theorem made_ok {ι : Lay} {H : Hp} {st : Store} {y dx : Addr} (r : RelH W ι H st) (h1 : H y = none) (h2 : H dx = none) (hne : dx ≠ y) :
    Grow ι H (ι.add y) (upd (upd H dx (.own y)) y (.ins (W.cl n) dx [])) ∧ RelH W (ι.add y) (upd (upd H dx (.own y)) y (.ins (W.cl n) dx [])) (st ++ [.ins n [] []]) := by
  have h3 : (upd H dx (.own y)) y = none := by rw [upd_ne (Ne.symm hne)]; exact h1
  exact ⟨(Grow.laid h2).trans (Grow.cell h3), (r.laid h2).new h3 ⟨dx, [], upd_same, rfl, Reps.nil⟩⟩
theorem j_make {C : Addr} (eC : C = W.cl n) (M : Mk X.K C g) (F0 : FnOk X.prog X.w X.K X.mg X.base CX0 k g fd ps (spM W ar F)) (hr : Room (k + 1) X.A) (hg : Gl X x) (hm : X.mg x = some (.ref C)) (hb : Binds X.K fd ps ds) (hd : Vals dvs ds) (hdv : ∀ ι H, Reps W ι H dds dvs) (hx : Passes CX0 X E)
    (ha : PA X (e :: es) (TAs W am)) (hdb : (x == ("__debug__" : Str)) = false := by decide) (he : starEach (e :: es) X.env = (false, eval e X.env) :: starEach es X.env := by rfl) (hpl : (backTo pos (starEach es X.env)).any (·.1) = false := by rfl) :
    PE X (.Call (.Name x p) (e :: es) [] pos) (T W (eNew n ar F dds am)) := (pe_make M F0 hr hg hm hb hd hx ha hdb he hpl).imp fun σ H Q ⟨ι, st, env, d, st', r, q, e, kk⟩ => by
  unfold eNew at e
  split at e
  · rename_i xs s1 e1
    split at e
    · rename_i hl
      split at e
      · rename_i s2 e2
        refine TA.of r q e1 fun vs ι1 H1 g1 r1 p1 => ?_
        intro y dx hy hdx hne
        subst eC
        obtain ⟨g2, r2⟩ := made_ok (n := n) r1 hy hdx hne
        have hy2 : Rep W (ι1.add y) (upd (upd H1 dx (.own y)) y (.ins (W.cl n) dx [])) (.ref s1.length) (.ref y) := by
          simp only [Rep]
          exact ⟨y, rfl, by rw [← r1.len]; show (ι1.c ++ [y])[_]? = _; simp⟩
        refine ⟨_, _, .ref s1.length :: (xs ++ dds), .non, s2, r2, Reps.cons hy2 (Reps.grow g2 _ _ (p1.append (hdv _ _))), by simpa using hl, e2, fun v ι3 H3 g3 r3 p3 => ⟨rep_non p3, ?_⟩⟩
        exact fin_ok r1 (kk.go g1) e (g2.trans g3) r3 (Rep.grow g3 _ _ hy2)
      · cases e
    · cases e
  · cases e
theorem j_makeK {C : Addr} (eC : C = W.cl n) (M : Mk X.K C g) (F0 : FnOk X.prog X.w X.K X.mg X.base CX0 k g fd ps (spM W ar F)) (hr : Room (k + 1) X.A) (hg : Gl X x) (hm : X.mg x = some (.ref C)) (hb : Binds X.K fd ps ds) (hd : Vals dvs ds) (hdv : ∀ ι H, Reps W ι H dds dvs) (hx : Passes CX0 X E)
    (ha : PA X (e :: es) (TAs W am)) (hdb : (x == ("__debug__" : Str)) = false := by decide) (he : starEach (e :: es) X.env = (false, eval e X.env) :: starEach es X.env := by rfl) (hpl : (backTo pos (starEach es X.env)).any (·.1) = false := by rfl) :
    PE X (.Call (.Name x p) (e :: es) [] pos) (T W (eNewK n ar F dds am)) := (pe_make M F0 hr hg hm hb hd hx ha hdb he hpl).imp fun σ H Q ⟨ι, st, env, d, st', r, q, e, kk⟩ => by
  unfold eNewK at e
  split at e
  · rename_i xs s1 e1
    split at e
    · rename_i hl
      split at e
      · rename_i s2 e2
        cases e
        refine TA.of r q e1 fun vs ι1 H1 g1 r1 p1 => ?_
        intro y dx hy hdx hne
        subst eC
        obtain ⟨g2, r2⟩ := made_ok (n := n) r1 hy hdx hne
        have hy2 : Rep W (ι1.add y) (upd (upd H1 dx (.own y)) y (.ins (W.cl n) dx [])) (.ref s1.length) (.ref y) := by
          simp only [Rep]
          exact ⟨y, rfl, by rw [← r1.len]; show (ι1.c ++ [y])[_]? = _; simp⟩
        refine ⟨_, _, .ref s1.length :: (xs ++ dds), .non, st', r2, Reps.cons hy2 (Reps.grow g2 _ _ (p1.append (hdv _ _))), by simpa using hl, e2, fun v ι3 H3 g3 r3 p3 => ⟨rep_non p3, ?_⟩⟩
        exact kk _ _ _ ((g1.trans g2).trans g3) r3 (Rep.grow g3 _ _ hy2)
      · cases e
    · cases e
  · cases e
theorem jin_add : InOp X .Add (M2 W dAddI) := ji_add
theorem jin_sub : InOp X .Sub (M2 W dSub) := ji_sub
end
section
variable {env : Env} {st : Store} {Q : D → Store → Prop} {QS : Out → Store → Prop}
theorem ev_fld {n f : Str} {m : EM} : EvE (eFld n f m) env st Q ↔ EvE m env st fun o s1 => ∃ fs vs d, insA s1 o = some (n, fs, vs) ∧ fGet fs vs f = some d ∧ Q d s1 := by
  unfold EvE eFld
  constructor
  · rintro ⟨d, s, e, q⟩
    split at e
    · rename_i x s1 h
      split at e
      · rename_i n' fs vs h2
        split at e
        · rename_i hn
          subst hn
          rw [Option.map_eq_some_iff] at e
          obtain ⟨z, e1, e2⟩ := e
          cases e2
          exact ⟨x, _, h, fs, vs, _, h2, e1, q⟩
        · cases e
      · cases e
    · cases e
  · rintro ⟨x, s1, h, fs, vs, d, h2, h3, q⟩
    exact ⟨d, s1, by rw [h]; simp only [h2, h3, if_true, Option.map_some], q⟩
theorem ev_fldM {n f : Str} {mo mv : EM} : EvS (sFldM n f mo mv) env st QS ↔ EvE mv env st fun v s1 => EvE mo env s1 fun o s2 => ∃ s3, fldPut n f o v s2 = some s3 ∧ QS (.nx env) s3 := by
  unfold EvS EvE sFldM
  constructor
  · rintro ⟨d, s, e, q⟩
    split at e
    · rename_i v s1 h1
      split at e
      · rename_i o s2 h2
        split at e
        · rename_i s4 h4
          cases e
          exact ⟨_, _, h1, _, _, h2, _, h4, q⟩
        · cases e
      · cases e
    · cases e
  · rintro ⟨v, s1, h1, o, s2, h2, s4, h4, q⟩
    exact ⟨_, s4, by rw [h1]; simp only [h2, h4], q⟩
theorem ev_meth {n m : Str} {ar : Nat} {F : FM} {dds : List D} {mo : EM} {a : AM} : EvE (eMeth n m ar F dds mo a) env st Q ↔ EvE mo env st fun o s1 => ∃ fs vs, insA s1 o = some (n, fs, vs) ∧ m ∉ fs ∧ EvA a env s1 fun xs s2 => (o :: (xs ++ dds)).length = ar ∧ EvF F (o :: (xs ++ dds)) s2 Q := by
  unfold EvE EvA EvF eMeth
  constructor
  · rintro ⟨d, s, e, q⟩
    split at e
    · rename_i x s1 h
      split at e
      · rename_i n' fs vs h2
        split at e
        · rename_i hn
          obtain ⟨rfl, hm⟩ := hn
          split at e
          · rename_i xs s2 h3
            split at e
            · rename_i hl
              exact ⟨x, s1, h, fs, vs, h2, hm, xs, s2, h3, hl, d, s, e, q⟩
            · cases e
          · cases e
        · cases e
      · cases e
    · cases e
  · rintro ⟨x, s1, h, fs, vs, h2, hm, xs, s2, h3, hl, d, s, e, q⟩
    exact ⟨d, s, by rw [h]; simp only [h2, h3, if_pos hl, hm, not_false_eq_true, and_self, if_true]; exact e, q⟩
theorem ev_new {n : Str} {ar : Nat} {F : FM} {dds : List D} {a : AM} : EvE (eNew n ar F dds a) env st Q ↔ EvA a env st fun xs s1 => (xs ++ dds).length + 1 = ar ∧ EvF F (.ref s1.length :: (xs ++ dds)) (s1 ++ [.ins n [] []]) fun d s2 => d = .non ∧ EvF (fun _ s => fin s1 (.ref s1.length) s) [] s2 Q := by
  unfold EvE EvA EvF eNew
  constructor
  · rintro ⟨d, s, e, q⟩
    split at e
    · rename_i xs s1 h
      split at e
      · rename_i hl
        split at e
        · rename_i s2 h2
          exact ⟨xs, s1, h, hl, _, s2, h2, rfl, d, s, e, q⟩
        · cases e
      · cases e
    · cases e
  · rintro ⟨xs, s1, h, hl, _, s2, h2, rfl, d, s, e, q⟩
    exact ⟨d, s, by rw [h]; simp only [if_pos hl, h2]; exact e, q⟩
theorem ev_newK {n : Str} {ar : Nat} {F : FM} {dds : List D} {a : AM} : EvE (eNewK n ar F dds a) env st Q ↔ EvA a env st fun xs s1 => (xs ++ dds).length + 1 = ar ∧ EvF F (.ref s1.length :: (xs ++ dds)) (s1 ++ [.ins n [] []]) fun d s2 => d = .non ∧ Q (.ref s1.length) s2 := by
  unfold EvE EvA EvF eNewK
  constructor
  · rintro ⟨d, s, e, q⟩
    split at e
    · rename_i xs s1 h
      split at e
      · rename_i hl
        split at e
        · rename_i s2 h2
          cases e
          exact ⟨xs, s1, h, hl, _, _, h2, rfl, q⟩
        · cases e
      · cases e
    · cases e
  · rintro ⟨xs, s1, h, hl, _, s2, h2, rfl, q⟩
    exact ⟨_, s2, by rw [h]; simp only [if_pos hl, h2], q⟩
end
end My

namespace My
open PySem PySem.Spec PyProof.Rows L2

/-! ### enumerate(v), v told by its iterator -/
section
open Sem (wp)
set_option maxHeartbeats 1000000 in
theorem meets_enum1 {v : Value} {o : Obj} {Hw : Heap → Prop} (B : Begins v o Hw) :
    Meets (Builtin.«enumerate.__new__» ⟨[.type "enumerate", v], []⟩) (fun _ R s => Hw s.heap ∧
      R (.ok (.ret (.ref (s.heap.push o).objs.size))) { s with heap := (s.heap.push o).push { cls := .type "enumerate", data := .fields #[.none, .bool false, .ref s.heap.objs.size, rawInt 0, .none, .none] } }) :=
  .of_wp fun prog w A R s want => by
    obtain ⟨hp, gg, dd, tk, oo⟩ := s
    obtain ⟨h1, want⟩ := want
    have hsub := sub_enumerate
    have q1 : ∀ {A1 : Around} {E1 : Value → Shared → Prop} {Q1 : Value → Shared → Prop}, Q1 (.ref hp.objs.size) ⟨hp.push o, gg, dd, tk, oo⟩ → wpAny (model prog w) A1 (pyIter v) Q1 E1 ⟨hp, gg, dd, tk, oo⟩ := fun q => B.iter prog w _ _ ⟨hp, gg, dd, tk, oo⟩ _ h1 q
    wp_walk using q1
    refine wpAny_stack_any fun st => wpAny_pure ?_
    split
    · rename_i cc _ _ _ _ _
      cases (cc == Value.type "enumerate")
      all_goals
        wp_walk using q1
        exact ⟨_, rfl, want⟩
    · wp_walk using q1
      exact ⟨_, rfl, want⟩
variable {prog : Program} {w : World} {A : Around} {E : Value → Shared → Prop} {s : Shared}
theorem enum1_begins {v : Value} {o : Obj} {Hw : Heap → Prop} {Q : Value → Shared → Prop} (B : Begins v o Hw) (h1 : Hw s.heap)
    (k : ∀ h', IsEnum h' (s.heap.objs.size + 1) s.heap.objs.size 0 .none → h'.get? s.heap.objs.size = some o → (∀ b ob, s.heap.get? b = some ob → h'.get? b = some ob) → Q (.ref (s.heap.objs.size + 1)) { s with heap := h' }) :
    wpAny (model prog w) A (call (.type "enumerate") [v]) Q E s := by
  refine callType_new F.called_enumerate (by decide) (F.typeCall_enumerate_1 _) (F.newCall_enumerate_1 _) (fun ob => F.args_object_init_2 ob _) F.entry_enumerate_new (meets_enum1 B) ⟨h1, ?_⟩
  have sz : (s.heap.push o).objs.size = s.heap.objs.size + 1 := Heap.size_push ..
  show _ ∧ _
  rw [sz]
  have en : IsEnum ((s.heap.push o).push { cls := .type "enumerate", data := .fields #[.none, .bool false, .ref s.heap.objs.size, rawInt 0, .none, .none] }) (s.heap.objs.size + 1) s.heap.objs.size 0 .none := by
    have z := Heap.get?_push_size (s.heap.push o) (o := { cls := .type "enumerate", data := .fields #[.none, .bool false, .ref s.heap.objs.size, rawInt 0, .none, .none] }) rfl
    rw [sz] at z
    exact z
  exact ⟨⟨_, en, rfl⟩, k _ en (Heap.get?_push_of_some _ (Heap.get?_push_size _ B.free)) fun b ob x => Heap.get?_push_of_some _ (Heap.get?_push_of_some _ x)⟩
end

/-! ### enumerate over a tuple -/
/-- the items of the tuple at a, each in a new pair with its place -/
def EnT (K : PySem.W.Frag) (a : Addr) : It where
  go := fun i H => ∃ (ys : List V) (y : V), SqT K H a ys ∧ ys[i]? = some y
  yld := fun i H v H' => ∃ p y, v = .ref p ∧ H p = none ∧ H' = upd H p (.tup [.int (i : Nat), y]) ∧ ∀ ys, SqT K H a ys → ys[i]? = some y
  stop := fun i H => ∃ ys : List V, SqT K H a ys ∧ ys.length ≤ i
theorem isTuple_of {h : Heap} {a : Addr} {xs : Array Value} (p : IsTup h a xs) : h.IsTuple a xs := by
  obtain ⟨o, h1, h2, n, h3⟩ := p
  exact ⟨o, h1, h2, n, h3⟩
theorem turn_EnT {P : Program} {w : World} {K : PySem.W.Frag} {elts : List Expr} {kk : Nat} {tpos : Pos} (a c d : Addr) :
    Turn P w K (.Tuple elts kk tpos) (EnT K a) [c, d] c (fun n hp => (∃ o, IsEnum hp c d ((n : Nat) : Int) o) ∧ hp.IsTupleIter d a n ∧ c ≠ d) where
  mem := List.mem_cons_self
  obj := by
    rintro n hp ⟨⟨o, q1⟩, ⟨ob, q2, _, q3⟩, _⟩ b m
    rcases List.mem_cons.mp m with e | m
    · subst e
      exact ⟨_, q1, fun v z => by cases z⟩
    · rw [List.mem_singleton.mp m]
      exact ⟨ob, q2, fun v z => by rw [q3] at z; cases z⟩
  keep := by
    rintro n h1 h2 ⟨⟨o, q1⟩, q2, q3⟩ k
    exact ⟨⟨o, k _ List.mem_cons_self _ q1⟩, q2.at fun ob z => k _ (List.mem_cons_of_mem _ List.mem_cons_self) ob z, q3⟩
  item := by
    intro X e1 e2 e3 hc n pins s σ H E I hf tn hg
    subst e1 e2 e3
    obtain ⟨⟨o, q1⟩, q2, q3⟩ := tn
    obtain ⟨ys, y, g1, g2⟩ := hg
    obtain ⟨zs, rz, it, _⟩ := I.tuple g1
    obtain ⟨u, hu, ru⟩ := rz.get g2
    have ha : a ≠ d := by
      rintro rfl
      obtain ⟨o1, w1, w2, _⟩ := it
      obtain ⟨o2, w3, w4, _⟩ := q2
      rw [w1] at w3
      cases w3
      rw [w2] at w4
      exact absurd w4 (by decide)
    have hca : c ≠ a := by
      rintro rfl
      obtain ⟨o1, w1, w2, _⟩ := it
      have w3 : s.heap.get? c = some _ := q1
      rw [w1] at w3
      cases w3
      exact absurd (show Value.type "enumerate" = Value.type "tuple" from w2) (by decide)
    have hn : n < zs.toArray.size := by
      rw [List.size_toArray]
      exact (List.getElem?_eq_some_iff.mp hu).1
    have sc := Heap.lt_size (show s.heap.get? c = some _ from q1)
    have sd : d < s.heap.objs.size := let ⟨_, z, _⟩ := q2; Heap.lt_size z
    refine wpAny_pyNext_enum_itemD (Draws.tuple (A := X.A.in1) (show X.A.in1.handled = none from I.ok.hd hc) d a ha zs.toArray) q1 ⟨q2, isTuple_of it⟩ hn q3 (by simp [q3, hca]) fun x h' tk hx out st' hT sz kp => ?_
    have hx2 : x = u := by
      have z : zs.toArray[n]? = some x := hx
      rw [List.getElem?_toArray, hu] at z
      exact (Option.some.inj z).symm
    subst hx2
    refine ⟨_, rfl, wpAny_letOwnedTupleGo_enum (s := { s with heap := h', toks := tk + 1 }) out fun h2 en sb => ?_⟩
    have hT2 := (sb.2 _ (Nat.ne_of_gt sc)).trans hT
    have nw : ObjOk X.prog X.w (upd H s.heap.objs.size (.tup [.int (n : Nat), y])) h2 s.heap.objs.size (.tup [.int (n : Nat), y]) :=
      ⟨by show 2 ≤ sizeLine; decide, [.int n tk, x], .cons ⟨_, rfl⟩ (.cons ru .nil), ⟨_, hT2, rfl, _, rfl⟩⟩
    have I2 : Inv X pins σ (upd H s.heap.objs.size (.tup [.int (n : Nat), y])) { s with heap := h2, toks := tk + 1 } := by
      refine I.turnedNew (ch := [c, d]) (fun b ob hb z => ?_) hf (Nat.le_refl _) nw
      have nc : b ≠ c := fun z => hb (by simp [z])
      have nd : b ≠ d := fun z => hb (by simp [z])
      exact (sb.2 b nc).trans (kp b ob nc nd z)
    refine ⟨.ref s.heap.objs.size, _, I2, rfl, ⟨_, y, rfl, I.hok.fresh (Nat.le_refl _), rfl, fun l hl => ?_⟩, ⟨⟨x, ?_⟩, ?_, q3⟩, fun b hb => ?_⟩
    · rw [I.tuple_inj hl g1]
      exact g2
    · have z : ((n + 1 : Nat) : Int) = (n : Int) + 1 := by omega
      rw [z]
      exact en
    · exact st'.1.at fun ob z => (sb.2 d (Ne.symm q3)).trans z
    · have lt : b < s.heap.objs.size := by
        rcases List.mem_cons.mp hb with z | z
        · rw [z]; exact sc
        · rw [List.mem_singleton.mp z]; exact sd
      rw [upd_ne (Nat.ne_of_lt lt)]
      exact (hf b hb).1
  done := by
    intro X e1 e2 e3 hc n pins s σ H E I hf tn hg
    subst e1 e2 e3
    obtain ⟨⟨o, q1⟩, q2, q3⟩ := tn
    obtain ⟨ys, g1, g2⟩ := hg
    obtain ⟨zs, rz, it, _⟩ := I.tuple g1
    obtain ⟨f0, f1, f2, f3, f4, f5⟩ := hf d (by simp)
    have ha : a ≠ d := by
      rintro rfl
      obtain ⟨o1, w1, w2, _⟩ := it
      obtain ⟨o2, w3, w4, _⟩ := q2
      rw [w1] at w3
      cases w3
      rw [w2] at w4
      exact absurd w4 (by decide)
    have hl := rz.length
    have hh := I.ok.hd hc
    refine pyNext_end hh q1 q2 (isTuple_of it) (by rw [List.size_toArray, ← hl]; exact g2) fun h' eb => ⟨rfl, I.turned (t' := s.toks) (fun b ob hb z => eb b ob hb z) f0 f1 f3 f4 f5⟩
  self := by
    rintro A n s Q E ⟨⟨o, q1⟩, _⟩ h
    exact wpAny_pyIter_enum q1 h
where
  pyNext_end {prog : Program} {w : World} {A : Around} {E : Value → Shared → Prop} {s : Shared} {c d a : Addr} {items : Array Value} {n : Nat} {o : Value} {Q : Option Value → Shared → Prop} (hh : A.handled = none) (he : IsEnum s.heap c d ((n : Nat) : Int) o) (hi : s.heap.IsTupleIter d a n) (ht : s.heap.IsTuple a items) (hn : items.size ≤ n)
      (hQ : ∀ h', Heap.ExtBut d s.heap h' → Q none { s with heap := h' }) : wpAny (model prog w) A (pyNext (.ref c)) Q E s := by
    have D : Draws prog w A.in1 d [d, a] n (fun i v => items[i]? = some v) (fun i h => h.IsTupleIter d a i ∧ h.IsTuple a items ∧ n ≤ i) := {
      live := fun _ _ st => let ⟨o, ho, _⟩ := st.1; ⟨o, ho⟩
      frame := fun i h1 h2 st k => ⟨st.1.at fun o e => k d (by simp) o e, st.2.1.at fun o e => k a (by simp) o e, st.2.2⟩
      item := fun i s Q E hi st _ => absurd hi (by have := st.2.2; omega)
      done := fun s Q E st hE => wpAny_nextOf_tuple_end (show A.in1.handled = none from hh) st.1 st.2.1 (Array.getElem?_eq_none (Nat.le_trans hn st.2.2)) hE }
    exact wpAny_pyNext_enum_endD D he ⟨hi, ht, Nat.le_refl _⟩ hQ

def iEnT (K : PySem.W.Frag) (ta : TA) : TI := fun σ H R => ta σ H fun vs H1 => ∃ a ys, vs = [.ref a] ∧ SqT K H1 a ys ∧ R (EnT K a) H1
theorem pi_EnT {X : Cx} {e : Expr} {ta : TA} {p pos tpos : Pos} {elts : List Expr} {kk : Nat} (hg : Gl X "enumerate") (hm : X.mg "enumerate" = none) (ha : PA X [e] ta) (hs : starEach [e] X.env = [(false, eval e X.env)] := by rfl) :
    PI X (.Tuple elts kk tpos) (.Call (.Name "enumerate" p) [e] [] pos) (iEnT X.K ta) := by
  constructor
  intro pins s σ H R I want
  refine Call_ (ld_blt I hg hm boot_enumerate (PyProof.Rows.callWith_type1 (thn (ha.run pos pins s σ H _ I want) fun us s1 ⟨vs, H1, J, rv, got⟩ => ?_) hs rfl))
  obtain ⟨a, ys, rfl, hq, got⟩ := got
  obtain ⟨u, rfl, ru⟩ := vals1 rv
  cases ru
  obtain ⟨zs, rz, it, _⟩ := J.tuple hq
  refine enum1_begins (begins_tuple a zs.toArray) (isTuple_of it) fun h' he ho hk => wpAny_pyIter_enum he ?_
  have J2 : Inv X pins σ H1 { s1 with heap := h' } := J.kept (t' := s1.toks) hk
  refine ⟨s1.heap.objs.size + 1, [s1.heap.objs.size + 1, s1.heap.objs.size], _, _, H1, rfl, J2, turn_EnT a (s1.heap.objs.size + 1) s1.heap.objs.size, ⟨⟨.none, he⟩, ⟨_, ho, rfl, rfl⟩, Nat.succ_ne_self _⟩, fun b hb => ?_, got⟩
  have le : s1.heap.objs.size ≤ b := by
    simp only [List.mem_cons, List.not_mem_nil, or_false] at hb
    rcases hb with z | z <;> (rw [z]; omega)
  exact J.fpOk le (J.hok.fresh le)

/-! ### enumerate and zip in mirrors -/
def numbered (xs : List D) : List D := xs.mapIdx fun i x => .tup [.int (i : Nat), x]
def zipped (xs ys : List D) : List D := List.zipWith (fun x y => D.tup [x, y]) xs ys
def tupB : D → Bool
  | .tup _ => true
  | .tpf _ => true
  | _ => false
/-- what is walked is a tuple, a list or a cell: its items, and what must stay -/
def walked (st : Store) : D → Option (List D × (Store → Prop))
  | .tup xs => some (xs, always)
  | .tpf xs => some (xs, always)
  | .lst xs => some (xs, always)
  | .ref i => match st[i]? with
    | some (.lst xs) => some (xs, fun s => s[i]? = some (.lst xs))
    | _ => none
  | _ => none
def iEnum (m : EM) : IM := fun env st => match m env st with
  | some (d, s1) => match walked s1 d with
    | some (xs, gd) => some (numbered xs, gd, s1)
    | none => none
  | none => none
def iZip (m m2 : EM) : IM := fun env st => match m env st with
  | some (d, s1) => match m2 env s1 with
    | some (e, s2) => match walked s2 d, walked s2 e with
      | some (xs, gd), some (ys, gd2) => if (tupB d) = (tupB e) then some (zipped xs ys, fun s => gd s ∧ gd2 s, s2) else none
      | _, _ => none
    | none => none
  | none => none
section
variable {W : Wd}
theorem walked_ok {ι0 : Lay} {H0 : Hp} {st : Store} {d : D} {v : V} {xs : List D} {gd : Store → Prop} (r : RelH W ι0 H0 st) (h : Rep W ι0 H0 d v) (e : walked st d = some (xs, gd)) :
    ∃ a, v = .ref a ∧ gd st ∧ (((tupB d) = true ∧ ∀ ι H s, Gro ι0 H0 ι H → RelH W ι H s → gd s → ∃ vs, SqT W.K H a vs ∧ Reps W ι H xs vs) ∨ ((tupB d) = false ∧ ∀ ι H s, Gro ι0 H0 ι H → RelH W ι H s → gd s → ∃ vs, SqL W.K H a vs ∧ Reps W ι H xs vs)) := by
  unfold walked at e
  split at e
  · cases e
    obtain ⟨a, vs, rfl, h1, h2⟩ := seqT_ok h (xs := xs) rfl
    exact ⟨a, rfl, trivial, .inl ⟨rfl, fun ι H s g _ _ => ⟨vs, SqT.of (g.keep _ _ (.inr fun z => z) h1), Reps.gro g _ _ h2⟩⟩⟩
  · cases e
    obtain ⟨a, o, vs, rfl, _, h0, h1, h2⟩ := tpf_ok h
    exact ⟨a, rfl, trivial, .inl ⟨rfl, fun ι H s g _ _ => ⟨vs, .inl (.inr ⟨o, g.keep _ _ (.inr fun z => z) h0⟩), Reps.gro g _ _ h2⟩⟩⟩
  · cases e
    simp only [Rep] at h
    obtain ⟨a, rfl, na, vs, h1, h2⟩ := h
    exact ⟨a, rfl, trivial, .inr ⟨rfl, fun ι H s g _ _ => ⟨vs, SqL.of (g.keep _ _ (.inl na) h1), Reps.gro g _ _ h2⟩⟩⟩
  · rename_i i
    split at e
    · rename_i q
      cases e
      simp only [Rep] at h
      obtain ⟨a, rfl, h1⟩ := h
      refine ⟨a, rfl, q, .inr ⟨rfl, fun ι H s g r2 gs => ?_⟩⟩
      obtain ⟨c, hc, ok⟩ := r2.at (g.pre _ _ h1)
      rw [gs] at hc
      cases hc
      obtain ⟨vs, h4, h5⟩ := ok
      exact ⟨vs, SqL.of h4, h5⟩
    · cases e
  · cases e
theorem numbered_len (xs : List D) : (numbered xs).length = xs.length := by simp [numbered]
theorem numbered_get {xs : List D} {i : Nat} {d : D} (h : (numbered xs)[i]? = some d) : ∃ x, xs[i]? = some x ∧ d = .tup [.int (i : Nat), x] := by
  unfold numbered at h
  rw [List.getElem?_mapIdx, Option.map_eq_some_iff] at h
  obtain ⟨x, h1, h2⟩ := h
  exact ⟨x, h1, h2.symm⟩
theorem pair_laid {ι : Lay} {H : Hp} {st : Store} {p : Addr} {d e : D} {v u : V} (r : RelH W ι H st) (h1 : Rep W ι H d v) (h2 : Rep W ι H e u) (hp : H p = none) : Grow ι H ι (upd H p (.tup [v, u])) ∧ RelH W ι (upd H p (.tup [v, u])) st ∧ Rep W ι (upd H p (.tup [v, u])) (.tup [d, e]) (.ref p) := by
  refine ⟨Grow.laid hp, r.laid hp, ?_⟩
  simp only [Rep]
  exact ⟨p, rfl, _, upd_same, Reps.grow (Grow.laid hp) _ _ (Reps.cons h1 (Reps.cons h2 Reps.nil))⟩
theorem itOk_enumT {a : Addr} {ι0 : Lay} {H0 : Hp} {xs : List D} {gd : Store → Prop} (h : ∀ ι H st, Gro ι0 H0 ι H → RelH W ι H st → gd st → ∃ vs, SqT W.K H a vs ∧ Reps W ι H xs vs) : ItOk W (EnT W.K a) ι0 H0 (numbered xs) gd where
  go := fun i ι H st d g r k e => by
    obtain ⟨vs, h1, h2⟩ := h ι H st g r k
    obtain ⟨x, e1, rfl⟩ := numbered_get e
    obtain ⟨v, h3, h4⟩ := h2.get e1
    refine ⟨⟨vs, v, h1, h3⟩, fun y H' ⟨p, z, q1, q2, q3, q4⟩ => ?_⟩
    subst q1 q3
    have := q4 _ h1
    rw [h3] at this
    cases this
    exact pair_laid r int_rep h4 q2
  stop := fun ι H st g r k => by
    obtain ⟨vs, h1, h2⟩ := h ι H st g r k
    exact ⟨vs, h1, by rw [numbered_len, h2.length]; exact Nat.le_refl _⟩
theorem itOk_enumL {a : Addr} {ι0 : Lay} {H0 : Hp} {xs : List D} {gd : Store → Prop} (h : ∀ ι H st, Gro ι0 H0 ι H → RelH W ι H st → gd st → ∃ vs, SqL W.K H a vs ∧ Reps W ι H xs vs) : ItOk W (Ite W.K a) ι0 H0 (numbered xs) gd where
  go := fun i ι H st d g r k e => by
    obtain ⟨vs, h1, h2⟩ := h ι H st g r k
    obtain ⟨x, e1, rfl⟩ := numbered_get e
    obtain ⟨v, h3, h4⟩ := h2.get e1
    refine ⟨⟨vs, v, h1, h3⟩, fun y H' ⟨p, z, q1, q2, q3, q4⟩ => ?_⟩
    subst q1 q3
    have := q4 _ h1
    rw [h3] at this
    cases this
    exact pair_laid r int_rep h4 q2
  stop := fun ι H st g r k => by
    obtain ⟨vs, h1, h2⟩ := h ι H st g r k
    exact ⟨vs, h1, by rw [numbered_len, h2.length]; exact Nat.le_refl _⟩
theorem zipped_get {xs ys : List D} {i : Nat} {d : D} (h : (zipped xs ys)[i]? = some d) : ∃ x y, xs[i]? = some x ∧ ys[i]? = some y ∧ d = .tup [x, y] := by
  unfold zipped at h
  rw [List.getElem?_zipWith] at h
  cases e1 : xs[i]? with
  | none => rw [e1] at h; cases h
  | some x =>
    cases e2 : ys[i]? with
    | none => rw [e1, e2] at h; cases h
    | some y =>
      rw [e1, e2] at h
      cases h
      exact ⟨x, y, rfl, rfl, rfl⟩
theorem itOk_zipT {a b : Addr} {ι0 : Lay} {H0 : Hp} {xs ys : List D} {gd g2 : Store → Prop} (h : ∀ ι H st, Gro ι0 H0 ι H → RelH W ι H st → gd st → ∃ vs, SqT W.K H a vs ∧ Reps W ι H xs vs) (k : ∀ ι H st, Gro ι0 H0 ι H → RelH W ι H st → g2 st → ∃ vs, SqT W.K H b vs ∧ Reps W ι H ys vs) : ItOk W (RZ.ItzT W.K a b) ι0 H0 (zipped xs ys) (fun s => gd s ∧ g2 s) where
  go := fun i ι H st d g r q e => by
    obtain ⟨vs, h1, h2⟩ := h ι H st g r q.1
    obtain ⟨us, k1, k2⟩ := k ι H st g r q.2
    obtain ⟨x, y, e1, e2, rfl⟩ := zipped_get e
    obtain ⟨v, h3, h4⟩ := h2.get e1
    obtain ⟨u, k3, k4⟩ := k2.get e2
    refine ⟨⟨vs, us, v, u, h1, k1, h3, k3⟩, fun z H' ⟨p, v', u', q1, q2, q3, q4, q5⟩ => ?_⟩
    subst q1 q3
    have z1 := q4 _ h1
    have z2 := q5 _ k1
    rw [h3] at z1
    rw [k3] at z2
    cases z1
    cases z2
    exact pair_laid r h4 k4 q2
  stop := fun ι H st g r q => by
    obtain ⟨vs, h1, h2⟩ := h ι H st g r q.1
    obtain ⟨us, k1, k2⟩ := k ι H st g r q.2
    refine ⟨vs, us, h1, k1, ?_⟩
    rw [← h2.length, ← k2.length]
    simp only [zipped, List.length_zipWith]
    omega
theorem itOk_zipL {a b : Addr} {ι0 : Lay} {H0 : Hp} {xs ys : List D} {gd g2 : Store → Prop} (h : ∀ ι H st, Gro ι0 H0 ι H → RelH W ι H st → gd st → ∃ vs, SqL W.K H a vs ∧ Reps W ι H xs vs) (k : ∀ ι H st, Gro ι0 H0 ι H → RelH W ι H st → g2 st → ∃ vs, SqL W.K H b vs ∧ Reps W ι H ys vs) : ItOk W (Itz W.K a b) ι0 H0 (zipped xs ys) (fun s => gd s ∧ g2 s) where
  go := fun i ι H st d g r q e => by
    obtain ⟨vs, h1, h2⟩ := h ι H st g r q.1
    obtain ⟨us, k1, k2⟩ := k ι H st g r q.2
    obtain ⟨x, y, e1, e2, rfl⟩ := zipped_get e
    obtain ⟨v, h3, h4⟩ := h2.get e1
    obtain ⟨u, k3, k4⟩ := k2.get e2
    refine ⟨⟨vs, us, v, u, h1, k1, h3, k3⟩, fun z H' ⟨p, v', u', q1, q2, q3, q4, q5⟩ => ?_⟩
    subst q1 q3
    have z1 := q4 _ h1
    have z2 := q5 _ k1
    rw [h3] at z1
    rw [k3] at z2
    cases z1
    cases z2
    exact pair_laid r h4 k4 q2
  stop := fun ι H st g r q => by
    obtain ⟨vs, h1, h2⟩ := h ι H st g r q.1
    obtain ⟨us, k1, k2⟩ := k ι H st g r q.2
    refine ⟨vs, us, h1, k1, ?_⟩
    rw [← h2.length, ← k2.length]
    simp only [zipped, List.length_zipWith]
    omega
variable {X : Cx} {e e2 : Expr} {p pos tpos : Pos} {elts : List Expr} {kk : Nat} {m m2 : EM}
theorem gd_of {st : Store} {d : D} {xs : List D} {gd : Store → Prop} (h : walked st d = some (xs, gd)) : gd st := by
  unfold walked at h
  split at h
  · cases h; trivial
  · cases h; trivial
  · cases h; trivial
  · split at h
    · rename_i q
      cases h
      exact q
    · cases h
  · cases h
theorem ji_enum (hK : X.K = W.K) (hg : Gl X "enumerate") (hm : X.mg "enumerate" = none) (ha : PE X e (T W m)) (hs : starEach [e] X.env = [(false, eval e X.env)] := by rfl) : PI X (.Tuple elts kk tpos) (.Call (.Name "enumerate" p) [e] [] pos) (TIm W (iEnum m)) := by
  refine ⟨fun pins s σ H R I ⟨ι, st, env, ds, gd, st', r, n, q, k⟩ => ?_⟩
  unfold iEnum at q
  split at q
  · rename_i d s1 e1
    split at q
    · rename_i xs gd' e2
      cases q
      have A1 : ∀ Q : List V → Hp → Prop, (∀ v ι1 H1, Grow ι H ι1 H1 → RelH W ι1 H1 st' → Rep W ι1 H1 d v → Q [v] H1) → TAs W (aCons m aNil) σ H Q := fun Q k2 => by
        refine TA.of r n (d := [d]) (st' := st') (by unfold aCons; rw [e1]; rfl) fun vs ι1 H1 g1 r1 p1 => ?_
        obtain ⟨v, rfl, hv⟩ := reps1 p1
        exact k2 v ι1 H1 g1 r1 hv
      cases hT : (tupB d) with
      | true =>
        refine (pi_EnT hg hm (ja_cons ha ja_nil hs) hs).run pins s σ H R I (A1 _ fun v ι1 H1 g1 r1 p1 => ?_)
        obtain ⟨a, rfl, g0, w⟩ := walked_ok r1 p1 e2
        rcases w with ⟨_, w⟩ | ⟨z, _⟩
        · rw [hK]
          obtain ⟨vs, w1, _⟩ := w ι1 H1 st' Grow.refl.gro r1 g0
          exact ⟨a, vs, rfl, w1, k _ ι1 H1 g1 r1 (itOk_enumT w)⟩
        · rw [hT] at z; cases z
      | false =>
        refine (pi_enum hg hm (ja_cons ha ja_nil hs) hs).run pins s σ H R I (A1 _ fun v ι1 H1 g1 r1 p1 => ?_)
        obtain ⟨a, rfl, g0, w⟩ := walked_ok r1 p1 e2
        rcases w with ⟨z, _⟩ | ⟨_, w⟩
        · rw [hT] at z; cases z
        · rw [hK]
          obtain ⟨vs, w1, _⟩ := w ι1 H1 st' Grow.refl.gro r1 g0
          exact ⟨a, vs, rfl, w1, k _ ι1 H1 g1 r1 (itOk_enumL w)⟩
    · cases q
  · cases q
theorem ji_zip (hK : X.K = W.K) (hg : Gl X "zip") (hm : X.mg "zip" = none) (ha : PE X e (T W m)) (hb : PE X e2 (T W m2))
    (hs : starEach [e, e2] X.env = (false, eval e X.env) :: starEach [e2] X.env := by rfl) (hs2 : starEach [e2] X.env = [(false, eval e2 X.env)] := by rfl) (hpl : (backTo pos (starEach [e2] X.env)).any (·.1) = false := by rfl) :
    PI X (.Tuple elts kk tpos) (.Call (.Name "zip" p) [e, e2] [] pos) (TIm W (iZip m m2)) := by
  refine ⟨fun pins s σ H R I ⟨ι, st, env, ds, gd, st', r, n, q, k⟩ => ?_⟩
  unfold iZip at q
  split at q
  · rename_i d s1 e1
    split at q
    · rename_i d2 s2 e2
      split at q
      · rename_i xs gd1 ys gd2 w1 w2
        split at q
        · rename_i hT
          cases q
          refine (RZ.pi_zipA hg hm (ja_cons ha (ja_cons hb ja_nil hs2) hs) hs hpl).run pins s σ H R I (TA.of r n (d := [d, d2]) (st' := st') (by unfold aCons; rw [e1]; dsimp only; rw [e2]; rfl) fun vs ι1 H1 g1 r1 p1 => ?_)
          obtain ⟨v, u, rfl, hv, hu⟩ := reps2 p1
          obtain ⟨a, rfl, g0, q1⟩ := walked_ok r1 hv w1
          obtain ⟨b, rfl, g02, q2⟩ := walked_ok r1 hu w2
          rw [hK]
          rcases q1 with ⟨z1, q1⟩ | ⟨z1, q1⟩
          · rcases q2 with ⟨z2, q2⟩ | ⟨z2, q2⟩
            · obtain ⟨vs, y1, _⟩ := q1 ι1 H1 st' Grow.refl.gro r1 g0
              obtain ⟨us, y2, _⟩ := q2 ι1 H1 st' Grow.refl.gro r1 g02
              exact ⟨a, b, vs, us, rfl, .inr ⟨y1, y2, k _ ι1 H1 g1 r1 (itOk_zipT q1 q2)⟩⟩
            · rw [z1, z2] at hT; cases hT
          · rcases q2 with ⟨z2, q2⟩ | ⟨z2, q2⟩
            · rw [z1, z2] at hT; cases hT
            · obtain ⟨vs, y1, _⟩ := q1 ι1 H1 st' Grow.refl.gro r1 g0
              obtain ⟨us, y2, _⟩ := q2 ι1 H1 st' Grow.refl.gro r1 g02
              exact ⟨a, b, vs, us, rfl, .inl ⟨y1, y2, k _ ι1 H1 g1 r1 (itOk_zipL q1 q2)⟩⟩
        · cases q
      · cases q
    · cases q
  · cases q
end
section
variable {env : Env} {st : Store} {QI : List D → (Store → Prop) → Store → Prop}
theorem ev_enum {m : EM} : EvI (iEnum m) env st QI ↔ EvE m env st fun d s1 => ∃ xs gd, walked s1 d = some (xs, gd) ∧ QI (numbered xs) gd s1 := by
  unfold EvI EvE iEnum
  constructor
  · rintro ⟨ds, gd, s, e, q⟩
    split at e
    · rename_i d s1 h
      split at e
      · rename_i xs gd' h2
        cases e
        exact ⟨_, _, h, xs, _, h2, q⟩
      · cases e
    · cases e
  · rintro ⟨d, s1, h, xs, gd, h2, q⟩
    exact ⟨_, _, s1, by rw [h]; simp only [h2], q⟩
theorem ev_zip {m m2 : EM} : EvI (iZip m m2) env st QI ↔ EvE m env st fun d s1 => EvE m2 env s1 fun e s2 => ∃ xs gd ys gd2, walked s2 d = some (xs, gd) ∧ walked s2 e = some (ys, gd2) ∧ (tupB d) = (tupB e) ∧ QI (zipped xs ys) (fun s => gd s ∧ gd2 s) s2 := by
  unfold EvI EvE iZip
  constructor
  · rintro ⟨ds, gd, s, e, q⟩
    split at e
    · rename_i d s1 h
      split at e
      · rename_i d2 s2 h2
        split at e
        · rename_i xs gd1 ys gd2 w1 w2
          split at e
          · rename_i ht
            cases e
            exact ⟨_, _, h, _, _, h2, xs, _, ys, _, w1, w2, ht, q⟩
          · cases e
        · cases e
      · cases e
    · cases e
  · rintro ⟨d, s1, h, e, s2, h2, xs, gd, ys, gd2, w1, w2, ht, q⟩
    exact ⟨_, _, s2, by rw [h]; simp only [h2, w1, w2, if_pos ht], q⟩
end
end My

namespace My
open PySem PySem.Spec PyProof.Rows L2
section
variable {P : Program} {w : World} {K : PySem.W.Frag} {mg : Str → Option Value} {base : Heap} {k : Nat} {f : Addr} {fd : FuncData} {x : Str} {ps : List Str}
theorem FnG.imp {sp sp' : Sp} (F : FnG P w K mg base k f fd ps sp) (h : ∀ vs H Q, sp' vs H Q E0 → sp vs H Q E0) : FnG P w K mg base k f fd ps sp' :=
  ⟨fun vs H Q q => F.len vs H Q (h _ _ _ q), fun hg hr he hb hv q => F.go hg hr he hb hv (h _ _ _ q)⟩
/-- the promise of a law at a list of whole numbers of the caller's -/
def spLaw (K : PySem.W.Frag) : Sp := fun vs H Q _ => ∃ (a : Addr) (ns : List Int), vs = [.ref a] ∧ Only H ∧ SqL K H a (ns.map V.int) ∧ ns.length ≤ 63 ∧ ∀ H', Q (.bl true) H'
theorem fz_of {H : Hp} {a : Addr} {xs : List V} (o : Only H) (h : SqL K H a xs) : FzL K H a xs := by
  rcases h with (h | h) | h
  · rcases o a with z | ⟨ob, ys, z⟩
    · rw [h] at z; cases z
    · rw [h] at z; cases z
  · exact .inl h
  · exact .inr h
theorem FnG.law {F : FM} (G : FnG P w K mg base k f fd [x] (spM (wd K mg) [x].length F)) (due : ∀ ns : List Int, ns.length ≤ 63 → EvF F [.scr ns] [] fun d _ => d = .bl true) : FnG P w K mg base k f fd [x] (spLaw K) := by
  refine G.imp fun vs H Q ⟨a, ns, e, ho, hs, hl, q⟩ => ?_
  subst e
  obtain ⟨d, st', e, rfl⟩ := due ns hl
  refine ⟨⟨[], []⟩, [], [.scr ns], .bl true, st', ⟨rfl, .nil, nofun, nofun, nofun⟩, Reps.cons ?_ Reps.nil, rfl, e, ?_⟩
  · simp only [Rep]
    exact ⟨a, rfl, fz_of ho hs⟩
  · intro v ι' H' _ _ p
    simp only [Rep] at p
    subst p
    exact q H'
end
section
variable {P : Program} {w : World} {K : PySem.W.Frag} {mg : Str → Option Value} {base : Heap} {W : Wd}
/-- a def with defaults, by its mirror -/
theorem jdD {x qual : Str} {params : Arguments} {stmts : List Stmt} {scope : Scope} {dvs : List V} {kws : List (Str × V)} {f : Addr} {fd : FuncData} {N ps : List Str} {k : Nat} {body : SM} (F : FunD K x qual params stmts scope dvs kws f fd) (S : FnScope N ps scope)
    (h : ∀ (cdv : Value) (A : Around) (out : List PySem.Env) (s : Shared) (H : Hp) (E : XK), Room k (A.deeper (envOfC qual scope s.heap.objs.size f cdv)) → PSs (cxOf CX0 P w K mg base N qual scope f cdv A out s H E).nox stmts (TSt W body)) :
    FnOk P w K mg base CX0 (k + 1) f fd ps (spM W ps.length (mkF N.length body)) :=
  F.ok S (fun vs H Q E h => spM_len h) fun cdv A out s H vs Q E hr q => ⟨_, (h cdv A out s H E hr).nox, mkF_ok q⟩
end
end My

namespace My
open PySem PySem.Spec PyProof.Rows L2

/-! ### max(xs, default=d) of a list of ints -/
section
variable {prog : Program} {w : World} {A : Around} {R : Result → Shared → Prop} {I : Addr} {fp wr : List Addr} {n : Nat} {P : Nat → Value → Prop} {St : Nat → Heap → Prop}
theorem mxd_name : (toString "max" ++ toString ".loop" : String) = "max.loop" := by decide
theorem mxd_loop (d : Value) (W : Walks prog w A.in1 I fp wr n P St) (bt : Nat → Nat → Bool) (cmp : CmpOf prog w A.in1 .Gt P bt) (B : Addr) (nB : B ∉ fp) :
    ∀ (m i : Nat) (s : Shared) (v0 : Value) (c : Nat), m + (i + 1) = n → St (i + 1) s.heap → P (argBest bt i) v0 →
      s.heap.get? B = some { cls := .type "list", dict := none, data := .seq #[v0, v0] c, slots := #[] } →
      (∀ v h' tk, P (argBest bt (n - 1)) v → (∀ b o, b ∉ wr → b ≠ B → s.heap.get? b = some o → h'.get? b = some o) → R (.ok (.ret v)) { s with heap := h', toks := tk }) →
      codeAny (model prog w) A (.builtin "max.loop" ⟨[.ref I, .none, .ref B], [("default", d)]⟩) R s := by
  have nBw : B ∉ wr := fun z => nB (W.sub _ z)
  intro m
  induction m with
  | zero =>
    intro i s v0 c em st p0 cell fin
    have en : i + 1 = n := by omega
    refine codeAny_builtin F.entry_max_loop ?_
    rw [Around.under_plainId F.plain_max_loop _]
    show wpAny _ A.in1 (seqItems? (.ref B) >>= _) _ _ s
    refine wpAny_bind (wpAny_seqItems cell rfl ?_)
    show wpAny _ A.in1 (tryCatch (pyNext (.ref I)) _ >>= _) _ _ s
    refine wpAny_bind (wpAny_tryCatch (W.done s _ _ (en ▸ st) fun h1 t1 kp => ?_))
    have cell1 := kp B _ nBw cell
    show wpAny _ A.in1 (updateSeq B (fun _ => #[]) >>= _) _ _ _
    refine wpAny_bind (wpAny_updateSeq cell1 rfl (wpAny_bind (wpAny_letGo (wpAny_pure ?_))))
    exact fin v0 _ t1 (by rw [← en]; exact p0) fun b o h1 h2 e => (Heap.get?_update_other _ _ (Ne.symm h2)).trans (kp b o h1 e)
  | succ m ih =>
    intro i s v0 c em st p0 cell fin
    refine codeAny_builtin F.entry_max_loop ?_
    rw [Around.under_plainId F.plain_max_loop _]
    show wpAny _ A.in1 (seqItems? (.ref B) >>= _) _ _ s
    refine wpAny_bind (wpAny_seqItems cell rfl ?_)
    show wpAny _ A.in1 (tryCatch (pyNext (.ref I)) _ >>= _) _ _ s
    refine wpAny_bind (wpAny_tryCatch (W.item (i + 1) s _ _ (by omega) st fun v h1 t1 pv st1 kp => ?_))
    have cell1 := kp B _ nBw cell
    show wpAny _ A.in1 (tryCatch (holding [v, v] (richCompare .Gt v v0 >>= _)) _ >>= _) _ _ _
    refine wpAny_bind (wpAny_tryCatch (wpAny_holding (wpAny_bind (cmp (i + 1) (argBest bt i) v v0 _ _ _ pv p0 ?_))))
    refine wpAny_bind (wpAny_holding (wpAny_truthy_bool (wpAny_bind (wpAny_letGo (wpAny_pure ?_)))))
    cases eb : bt (i + 1) (argBest bt i) with
    | true =>
      simp only [if_true]
      refine wpAny_bind (wpAny_updateSeq cell1 rfl (wpAny_bind (wpAny_letGo ?_)))
      rw [mxd_name]
      refine wpAny_pure ⟨plainId_quiet F.plain_max_loop _, ih (i + 1) _ v _ (by omega) ?st (by simp only [argBest, eb, if_true]; exact pv) (Heap.get?_update_self _ cell1 rfl) fun v' h2 t2 p' kp2 => ?fin⟩
      case st => exact W.frame _ _ _ st1 fun b hb o e => (Heap.get?_update_other _ _ (fun z : B = b => nB (by rw [z]; exact hb))).trans e
      case fin => exact fin v' h2 t2 p' fun b o n1 n2 e => kp2 b o n1 n2 ((Heap.get?_update_other _ _ (Ne.symm n2)).trans (kp b o n1 e))
    | false =>
      simp only [Bool.false_eq_true, if_false]
      refine wpAny_bind (wpAny_letGo ?_)
      rw [mxd_name]
      refine wpAny_pure ⟨plainId_quiet F.plain_max_loop _, ih (i + 1) _ v0 c (by omega) st1 (by simp only [argBest, eb, Bool.false_eq_true, if_false]; exact p0) cell1 fun v' h2 t2 p' kp2 => ?_⟩
      exact fin v' h2 t2 p' fun b o n1 n2 e => kp2 b o n1 n2 (kp b o n1 e)
theorem mxd_first (d : Value) (W : Walks prog w A.in1 I fp wr n P St) (bt : Nat → Nat → Bool) (cmp : CmpOf prog w A.in1 .Gt P bt) (B : Addr) (nB : B ∉ fp) (pos : 0 < n) {s : Shared} {c : Nat} (st : St 0 s.heap)
    (cell : s.heap.get? B = some { cls := .type "list", dict := none, data := .seq #[] c, slots := #[] })
    (fin : ∀ v h' tk, P (argBest bt (n - 1)) v → (∀ b o, b ∉ wr → b ≠ B → s.heap.get? b = some o → h'.get? b = some o) → R (.ok (.ret v)) { s with heap := h', toks := tk }) :
    codeAny (model prog w) A (.builtin "max.loop" ⟨[.ref I, .none, .ref B], [("default", d)]⟩) R s := by
  have nBw : B ∉ wr := fun z => nB (W.sub _ z)
  refine codeAny_builtin F.entry_max_loop ?_
  rw [Around.under_plainId F.plain_max_loop _]
  show wpAny _ A.in1 (seqItems? (.ref B) >>= _) _ _ s
  refine wpAny_bind (wpAny_seqItems cell rfl ?_)
  show wpAny _ A.in1 (tryCatch (pyNext (.ref I)) _ >>= _) _ _ s
  refine wpAny_bind (wpAny_tryCatch (W.item 0 s _ _ pos st fun v h1 t1 pv st1 kp => ?_))
  have cell1 := kp B _ nBw cell
  show wpAny _ A.in1 (updateSeq B (fun _ => #[v, v]) >>= _) _ _ _
  refine wpAny_bind (wpAny_updateSeq cell1 rfl ?_)
  rw [mxd_name]
  refine wpAny_pure ⟨plainId_quiet F.plain_max_loop _, mxd_loop d W bt cmp B nB (n - 1) 0 _ v _ (by omega) ?st pv (Heap.get?_update_self _ cell1 rfl) fun v' h2 t2 p' kp2 => ?fin⟩
  case st => exact W.frame _ _ _ st1 fun b hb o e => (Heap.get?_update_other _ _ (fun z : B = b => nB (by rw [z]; exact hb))).trans e
  case fin => exact fin v' h2 t2 p' fun b o n1 n2 e => kp2 b o n1 n2 ((Heap.get?_update_other _ _ (Ne.symm n2)).trans (kp b o n1 e))
theorem mxd_none (d : Value) (W : Walks prog w A.in1 I fp wr n P St) (B : Addr) (nB : B ∉ fp) (zero : n = 0) {s : Shared} {c : Nat} (st : St 0 s.heap)
    (cell : s.heap.get? B = some { cls := .type "list", dict := none, data := .seq #[] c, slots := #[] })
    (fin : ∀ h' tk, (∀ b o, b ∉ wr → b ≠ B → s.heap.get? b = some o → h'.get? b = some o) → R (.ok (.ret d)) { s with heap := h', toks := tk }) :
    codeAny (model prog w) A (.builtin "max.loop" ⟨[.ref I, .none, .ref B], [("default", d)]⟩) R s := by
  refine codeAny_builtin F.entry_max_loop ?_
  rw [Around.under_plainId F.plain_max_loop _]
  show wpAny _ A.in1 (seqItems? (.ref B) >>= _) _ _ s
  refine wpAny_bind (wpAny_seqItems cell rfl ?_)
  show wpAny _ A.in1 (tryCatch (pyNext (.ref I)) _ >>= _) _ _ s
  refine wpAny_bind (wpAny_tryCatch (W.done s _ _ (zero ▸ st) fun h1 t1 kp => ?_))
  show wpAny _ A.in1 (rule _ >>= fun _ => ret d) _ _ _
  refine wpAny_bind (wpAny_rule ?_)
  exact wpAny_pure (fin _ _ fun b o n1 n2 e => kp b o n1 e)
end
end My

namespace My
open PySem PySem.Spec PyProof.Rows L2

/-! ### max(xs, default=d) -/
theorem args_maxD (a d : Value) : argsOk "max" ⟨[a], [("default", d)]⟩ := by unfold argsOk; kernel_rfl
section
variable {prog : Program} {w : World} {A : Around} {E : Value → Shared → Prop} {s : Shared} {l : Addr}
theorem call_tree_kw {id : String} {b : Builtin} {args : List Value} {kw : List (Str × Value)} {Q : Value → Shared → Prop} (hk : builtinKind id = none) (hp : plainId id = true)
    (hb : entryFor table id = some b) (ha : argsOk id ⟨args, kw⟩)
    (hc : wpAny (model prog w) A.in1 (b ⟨args, kw⟩) (fun fin s' => match fin with
      | .done f => (match (Except.ok f : Result) with | .ok (.ret v) => Q v s' | .ok _ => False | .error e => E e s')
      | .again c' => c'.quiet = true ∧ codeAny (model prog w) A c' (fun r s' => match r with | .ok (.ret v) => Q v s' | .ok _ => False | .error e => E e s') s') E s) :
    wpAny (model prog w) A (call (.builtin id) args kw) Q E s := by
  refine wpAny_call (codeAny_call_builtin hp hb ?_)
  simp only [checkBuiltinCall, hk]
  cases hsig : Manifest.signature? id with
  | none => exact wpAny_pure hc
  | some sig =>
    simp only [argsOk, hsig] at ha
    have h2 : Bind.checkArgs id sig ⟨args, kw⟩ = pure () := ha
    show wpAny _ A.in1 (Bind.checkArgs id sig ⟨args, kw⟩) _ _ s
    rw [h2]; exact wpAny_pure hc
theorem call_maxD_walk {x d : Value} {Q : Value → Shared → Prop}
    (h : wpAny (model prog w) A.in1 (pyIter x) (fun it s₂ => ∃ I fp wr n P St bt, it = .ref I ∧ Walks prog w A.in1 I fp wr n P St ∧ St 0 s₂.heap ∧ (∀ b ∈ fp, b < s₂.heap.objs.size) ∧ CmpOf prog w A.in1 .Gt P bt ∧
      (0 < n → ∀ v h' tk, P (argBest bt (n - 1)) v → (∀ b o, b ∉ wr → s₂.heap.get? b = some o → h'.get? b = some o) → Q v { s₂ with heap := h', toks := tk }) ∧
      (n = 0 → ∀ h' tk, (∀ b o, b ∉ wr → s₂.heap.get? b = some o → h'.get? b = some o) → Q d { s₂ with heap := h', toks := tk })) E s) :
    wpAny (model prog w) A (call (.builtin "max") [x] [("default", d)]) Q E s := by
  refine call_tree_kw F.kind_max F.plain_max F.entry_max (args_maxD _ _) ?_
  show wpAny _ A.in1 (Builtin.Builtins.bindParams "max" ["key", "default"] 0 ⟨[], [("default", d)]⟩ >>= _) _ _ s
  refine wpAny_bind (wpAny_of_eq (show Builtin.Builtins.bindParams "max" ["key", "default"] 0 ⟨[], [("default", d)]⟩ = pure [none, some d] from rfl) ?_)
  refine wpAny_bind (wpAny_pure ?_)
  refine wpAny_bind (wpAny_mono h (fun it s₂ h₂ => ?_) fun _ _ e => e)
  obtain ⟨I, fp, wr, n, P, St, bt, rfl, W, hst, hfp, hcmp, hQ, hZ⟩ := h₂
  refine wpAny_bind (wpAny_newObj_type ?_)
  have hSf : s₂.heap.objs.size ∉ fp := fun hm => Nat.lt_irrefl _ (hfp _ hm)
  rw [mxd_name]
  refine wpAny_pure ⟨plainId_quiet F.plain_max_loop _, ?_⟩
  by_cases hn : 0 < n
  · exact mxd_first d W bt hcmp s₂.heap.objs.size hSf hn (W.frame _ _ _ hst fun b _ o e => Heap.get?_push_of_some _ e) (Heap.get?_push_size _ rfl) fun v h' tk hP hk =>
      hQ hn v h' tk hP fun b o hbw e => hk b o hbw (Nat.ne_of_lt (Heap.lt_size e)) (Heap.get?_push_of_some _ e)
  · exact mxd_none d W s₂.heap.objs.size hSf (by omega) (W.frame _ _ _ hst fun b _ o e => Heap.get?_push_of_some _ e) (Heap.get?_push_size _ rfl) fun h' tk hk =>
      hZ (by omega) h' tk fun b o hbw e => hk b o hbw (Nat.ne_of_lt (Heap.lt_size e)) (Heap.get?_push_of_some _ e)
theorem maxD_intList {xs : Array (Int × Tok)} {d : Value} {Q : Value → Shared → Prop} (hh : A.handled = none) (hl : s.heap.IsList l (intItems xs))
    (h : 0 < xs.size → ∀ v h' tk, (intItems xs)[argBest (fun i j => decide (numAt xs i > numAt xs j)) (xs.size - 1)]? = some v → (∀ b o, s.heap.get? b = some o → h'.get? b = some o) → Q v { s with heap := h', toks := tk })
    (hz : xs.size = 0 → ∀ h' tk, (∀ b o, s.heap.get? b = some o → h'.get? b = some o) → Q d { s with heap := h', toks := tk }) :
    wpAny (model prog w) A (call (.builtin "max") [.ref l] [("default", d)]) Q E s := by
  refine call_maxD_walk (iter_intList hl fun s₂ e st hfp hlI => ?_)
  subst e
  refine ⟨_, _, _, _, _, _, _, rfl, Walks.list (A := A.in1) hh _ l hlI (intItems xs), st, hfp, CmpOf.ints_gt (numAt xs) (fun _ _ => intItems_at), fun hn v h' tk hP hk => ?_, fun hn h' tk hk => ?_⟩
  · exact h (by simpa [intItems] using hn) v h' tk (by simpa [intItems] using hP) (old_kept hk)
  · exact hz (by simpa [intItems] using hn) h' tk (old_kept hk)
theorem maxD_raw {its : List Value} {ns : List Int} {d : Value} {Q : Value → Shared → Prop} (hh : A.handled = none) (hl : s.heap.IsList l its.toArray) (hi : IntsAre its ns)
    (h : ∀ h' tk M t', (∀ b o, s.heap.get? b = some o → h'.get? b = some o) → M ∈ ns → (∀ a, a ∈ ns → a ≤ M) → Q (.int M t') { s with heap := h', toks := tk })
    (hz : ns = [] → ∀ h' tk, (∀ b o, s.heap.get? b = some o → h'.get? b = some o) → Q d { s with heap := h', toks := tk }) : wpAny (model prog w) A (call (.builtin "max") [.ref l] [("default", d)]) Q E s := by
  obtain ⟨xs, e⟩ := hi.allInts.items
  have hn : numsOf (intItems xs).toList = ns := by rw [← e]; exact hi.numsOf
  rw [nums_intItems] at hn
  subst hn
  rw [e] at hl
  refine maxD_intList hh hl (fun hsz v h' tk hv hk => ?_) fun h0 h' tk hk => ?_
  · obtain ⟨t, rfl⟩ := intItems_at hv
    obtain ⟨h1, h2⟩ := argBest_gt (numAt xs) (xs.size - 1)
    refine h h' tk _ t hk ?_ fun a ha => ?_
    · rw [numAt_eq]; exact PySem.getD_mem (by rw [List.length_map, Array.length_toList]; omega)
    · obtain ⟨j, hj, rfl⟩ := mem_getD ha
      rw [List.length_map, Array.length_toList] at hj
      rw [← numAt_eq]; exact h2 j (by omega)
  · exact hz (by simpa using h0) h' tk hk
end
/-! ### built-in functions called with keywords -/
abbrev FK := List D → List D → Store → Option (D × Store)
def MAK (W : Wd) (F : FK) : List V → List V → Hp → VK → Prop := fun vs zs H Q => ∃ ι st as bs d st', RelH W ι H st ∧ Reps W ι H as vs ∧ Reps W ι H bs zs ∧ F as bs st = some (d, st') ∧ OkE W ι H d st' Q
def eCallK (F : FK) (a b : AM) : EM := fun env st => match a env st with
  | some (xs, s1) => match b env s1 with
    | some (zs, s2) => F xs zs s2
    | none => none
  | none => none
def fMaxD : FK := fun as bs st => match as, bs with
  | [x], [d] => match seqL st x with
    | some ys => match intsOf ys with
      | some ns => match ns.max? with
        | some m => some (.int m, st)
        | none => some (d, st)
      | none => none
    | none => none
  | _, _ => none
section
variable {X : Cx} {W : Wd} {x : Str} {p pos : Pos} {e o : Expr} {es : List Expr} {kws : List Keyword} {id : String} {ks : List Str} {F : FK} {am km : AM}
theorem j_callK (hc : CallRK X (.builtin id) ks (MAK W F)) (hg : Gl X x) (hm : X.mg x = none) (hv : bootBuiltins x = some (.builtin id)) (ha : PA X (e :: es) (TAs W am)) (hk : PK X kws (TAs W km)) (hn : x ≠ "__name__" := by decide) (hdb : (x == ("__debug__" : Str)) = false := by decide)
    (he : backTo pos (starEach (e :: es) X.env) = (false, eval e X.env) :: backTo pos (starEach es X.env) := by rfl) (hpl : (backTo pos (starEach (e :: es) X.env)).any (·.1) = false := by rfl)
    (hall : (backToKw pos (keywordEach kws X.env)).all (·.1.isSome) = true := by rfl) (hnone : (backToKw pos (keywordEach kws X.env)).any (·.1.isNone) = false := by rfl) (hks : (backToKw pos (keywordEach kws X.env)).filterMap (·.1) = ks := by rfl) :
    PE X (.Call (.Name x p) (e :: es) kws pos) (T W (eCallK F am km)) := (pe_callBK hc hg hm hv ha hk hn hdb he hpl hall hnone hks).imp fun σ H Q ⟨ι, st, env, d, st', r, q, e, k⟩ => by
  unfold eCallK at e
  split at e
  · rename_i xs s1 e1
    split at e
    · rename_i zs s2 e2
      exact TA.of r q e1 fun vs ι1 H1 g1 r1 p1 => TA.of r1 (q.grow g1) e2 fun us ι2 H2 g2 r2 p2 => ⟨ι2, s2, xs, zs, d, st', r2, Reps.grow g2 _ _ p1, p2, e, k.go (g1.trans g2)⟩
    · cases e
  · cases e
theorem jc_maxD (hK : X.K = W.K) (hc : X.calm = true) : CallRK X (.builtin "max") ["default"] (MAK W fMaxD) := by
  intro pins s σ H xs zs us ws Q I rx rz ⟨ι, st, as, bs, d, st', r, h, h2, e, k⟩
  unfold fMaxD at e
  split at e
  · rename_i x dd
    obtain ⟨v, rfl, hv⟩ := reps1 h
    obtain ⟨u, rfl, hu⟩ := reps1 h2
    obtain ⟨w1, rfl, e1⟩ := vals1 rz
    split at e
    · rename_i ys q
      split at e
      · rename_i ns q2
        obtain ⟨a, rfl, h1⟩ := list_ints r hv q q2
        obtain ⟨its, rv, hl, _⟩ := I.list (hK ▸ h1)
        rw [Vals.ref1 rx]
        refine maxD_raw (I.ok.hd hc) hl.isList rv.ints (fun h' tk M t' hk m1 m2 => ?_) fun n0 h' tk hk => ?_
        · split at e
          · rename_i m e2
            cases e
            rw [List.max?_eq_some_iff] at e2
            have : M = m := Int.le_antisymm (e2.2 M m1) (m2 m e2.1)
            subst this
            exact ⟨.int _, H, I.kept hk, ⟨_, rfl⟩, k.now r int_rep⟩
          · rename_i e2
            rw [List.max?_eq_none_iff] at e2
            subst e2
            exact absurd m1 (by simp)
        · subst n0
          cases e
          exact ⟨u, H, I.kept hk, e1, k.now r hu⟩
      · cases e
    · cases e
  · cases e
end
section
variable {env : Env} {st : Store} {Q : D → Store → Prop}
theorem ev_callK {F : FK} {a b : AM} : EvE (eCallK F a b) env st Q ↔ EvA a env st fun xs s1 => EvA b env s1 fun zs s2 => EvF (fun _ s => F xs zs s) [] s2 Q := by
  unfold EvE EvA EvF eCallK
  constructor
  · rintro ⟨d, s, e, q⟩
    split at e
    · rename_i xs s1 h
      split at e
      · rename_i zs s2 h2
        exact ⟨xs, s1, h, zs, s2, h2, d, s, e, q⟩
      · cases e
    · cases e
  · rintro ⟨xs, s1, h, zs, s2, h2, d, s, e, q⟩
    exact ⟨d, s, by rw [h]; simp only [h2]; exact e, q⟩
end

/-! ### values made as cells: a + b, a * k, comprehensions -/
abbrev FL := D → D → Store → Option (List D)
def M2L (W : Wd) (f : FL) : R2 := fun x y H Q => ∃ ι st a b ys, RelH W ι H st ∧ Rep W ι H a x ∧ Rep W ι H b y ∧ f a b st = some ys ∧ OkE W ι H (.ref st.length) (st ++ [.lst ys]) Q
def eOpM (f : FL) (a b : EM) : EM := fun env st => match a env st with
  | some (x, s1) => match b env s1 with
    | some (y, s2) => (f x y s2).map fun ys => (.ref s2.length, s2 ++ [.lst ys])
    | none => none
  | none => none
open Classical in
noncomputable def dCat : FL := fun a b st => match seqL st a, seqL st b with
  | some xs, some ys => if xs.length + ys.length ≤ sizeLine then some (xs ++ ys) else none
  | _, _ => none
open Classical in
noncomputable def dRpt : FL := fun a b st => match b with
  | .int k => match seqL st a with
    | some xs => if -(2 ^ 63) ≤ k ∧ k < 2 ^ 63 ∧ xs.length * k.toNat ≤ sizeLine then some (List.replicate k.toNat xs).flatten else none
    | none => none
  | _ => none
open Classical in
noncomputable def eLcM (im : IM) (g : GM) (tt : TM) (el : EM) (vs : List Nat) : EM := fun env st => match im env st with
  | some (ds, gd, s1) => match lcGo gd g tt el (wipeE env vs) ds s1 with
    | some (ys, s2) => if ys.length ≤ sizeLine then some (.ref s2.length, s2 ++ [.lst ys]) else none
    | none => none
  | none => none
section
variable {X : Cx} {W : Wd} {a b : Expr} {pos : Pos} {ma mb : EM} {f : FL}
theorem jo_cat (hK : X.K = W.K) : OpR X (binaryOp .Add) (M2L W dCat) := by
  intro pins s σ H x y v u Q I rx ry ⟨ι, st, a, b, d, r, ha, hb, e, k⟩
  unfold dCat at e
  split at e
  · rename_i xs ys q1 q2
    split at e
    · rename_i hz
      cases e
      obtain ⟨p, us, rfl, h1, h2⟩ := seqL_ok r ha q1
      obtain ⟨p', us', rfl, h3, h4⟩ := seqL_ok r hb q2
      exact op_cat pins s σ H _ _ v u Q I rx ry ⟨p, p', us, us', rfl, rfl, h1, h3, by rw [← h2.length, ← h4.length]; exact hz, fun l hl => k.lstM r (h2.append h4) hl⟩
    · cases e
  · cases e
theorem jo_rpt (hK : X.K = W.K) : OpR X (binaryOp .Mult) (M2L W dRpt) := by
  intro pins s σ H x y v u Q I rx ry ⟨ι, st, a, b, d, r, ha, hb, e, k⟩
  unfold dRpt at e
  split at e
  · split at e
    · rename_i xs q
      split at e
      · rename_i h
        cases e
        cases rep_int hb
        obtain ⟨p, us, rfl, h1, h2⟩ := seqL_ok r ha q
        exact op_rep pins s σ H _ _ v u Q I rx ry ⟨p, _, us, rfl, rfl, h1, h.1, h.2.1, by rw [← h2.length]; exact h.2.2, fun l hl => k.lstM r (h2.rep _) hl⟩
      · cases e
    · cases e
  · cases e
theorem j_opM {op : Operator} (ho : OpR X (binaryOp op) (M2L W f)) (ha : PE X a (T W ma)) (hb : PE X b (T W mb)) : PE X (.BinOp a op b pos) (T W (eOpM f ma mb)) := (pe_op ho ha hb).imp fun σ H Q ⟨ι, st, env, d, st', r, n, e, k⟩ => by
  unfold eOpM at e
  split at e
  · rename_i x s1 e1
    split at e
    · rename_i y s2 e2
      rw [Option.map_eq_some_iff] at e
      obtain ⟨z, e3, q⟩ := e
      cases q
      exact T.of r n e1 fun v ι1 H1 g1 r1 p1 => T.of r1 (n.grow g1) e2 fun u ι2 H2 g2 r2 p2 => ⟨ι2, _, x, y, _, r2, Rep.grow g2 _ _ p1, p2, e3, k.go (g1.trans g2)⟩
    · cases e
  · cases e
end
section
variable {env : Env} {st : Store} {Q : D → Store → Prop}
theorem ev_opM {f : FL} {a b : EM} : EvE (eOpM f a b) env st Q ↔ EvE a env st fun x s1 => EvE b env s1 fun y s2 => ∃ z, f x y s2 = some z ∧ Q (.ref s2.length) (s2 ++ [.lst z]) := by
  unfold EvE eOpM
  constructor
  · rintro ⟨d, s, e, q⟩
    split at e
    · rename_i x s1 h
      split at e
      · rename_i y s2 h2
        rw [Option.map_eq_some_iff] at e
        obtain ⟨z, e1, e2⟩ := e
        cases e2
        exact ⟨x, s1, h, y, _, h2, _, e1, q⟩
      · cases e
    · cases e
  · rintro ⟨x, s1, h, y, s2, h2, z, e, q⟩
    exact ⟨_, _, by rw [h]; simp only [h2, e, Option.map_some], q⟩
theorem ev_lcM {im : IM} {g : GM} {tt : TM} {el : EM} {vs : List Nat} : EvE (eLcM im g tt el vs) env st Q ↔ EvI im env st fun ds gd s1 => EvL (lcGo gd g tt el (wipeE env vs) ds s1) fun ys s2 => ys.length ≤ sizeLine ∧ Q (.ref s2.length) (s2 ++ [.lst ys]) := by
  unfold EvE EvI EvL eLcM
  constructor
  · rintro ⟨d, s, e, q⟩
    split at e
    · rename_i ds gd s1 h
      split at e
      · rename_i ys s2 h2
        split at e
        · rename_i hz
          cases e
          exact ⟨_, _, _, h, ys, _, h2, hz, q⟩
        · cases e
      · cases e
    · cases e
  · rintro ⟨ds, gd, s1, h, ys, s2, h2, hz, q⟩
    exact ⟨_, _, by rw [h]; simp only [h2, if_pos hz], q⟩
theorem cat_ev {xs ys : List D} {d e : D} (h : seqL st d = some xs) (h2 : seqL st e = some ys) (hz : xs.length + ys.length ≤ sizeLine) : dCat d e st = some (xs ++ ys) := by
  simp only [dCat, h, h2, if_pos hz]
end
/-! ### a comprehension whose list is a cell -/
section
variable {W : Wd} {ι : Lay} {H : Hp}
theorem Gro.tell {p : Addr} : Gro (ι.hide p) H (ι.add p) H :=
  ⟨fun i a h => by
    show (ι.c ++ [p])[i]? = some a
    have h : ι.c[i]? = some a := h
    rw [List.getElem?_append_left (List.getElem?_eq_some_iff.mp h).1]; exact h, fun _ _ _ h => h, fun a u n _ m => n (by
    rcases m with m | m
    · rcases List.mem_append.mp m with q | q
      · exact .inl q
      · rw [List.mem_singleton.mp q]; exact .inr List.mem_cons_self
    · exact .inr (List.mem_cons_of_mem _ m))⟩
theorem RelH.tell {st : Store} {p : Addr} {ds : List D} {vs : List V} (r : RelH W (ι.hide p) H st) (hp : H p = some (.lst vs)) (hd : Reps W (ι.hide p) H ds vs) (np : p ∉ ι.k) : RelH W (ι.add p) H (st ++ [.lst ds]) where
  len := by
    show (ι.c ++ [p]).length = _
    rw [List.length_append, List.length_append, show ι.c.length = st.length from r.len]; rfl
  nd := by
    show (ι.c ++ [p]).Nodup
    rw [List.nodup_append]
    refine ⟨r.nd, by simp, fun a ha b hb e => ?_⟩
    rw [List.mem_singleton.mp hb] at e
    subst e
    exact r.dis a ha List.mem_cons_self
  dis := fun a m q => by
    rcases List.mem_append.mp m with z | z
    · exact r.dis a z (List.mem_cons_of_mem _ q)
    · rw [List.mem_singleton.mp z] at q; exact np q
  hidd := fun a m => r.hidd a (List.mem_cons_of_mem _ m)
  cell := fun i c e => by
    by_cases hi : i < st.length
    · rw [List.getElem?_append_left hi] at e
      obtain ⟨a, h1, h2⟩ := r.cell i c e
      exact ⟨a, Gro.tell.pre (H := H) i a h1, h2.move Gro.tell fun u q => q⟩
    · have hi2 : i = st.length := by
        have := (List.getElem?_eq_some_iff.mp e).1
        simp at this
        omega
      subst hi2
      rw [List.getElem?_append_right (Nat.le_refl _), Nat.sub_self] at e
      cases e
      refine ⟨p, ?_, vs, hp, Reps.gro Gro.tell _ _ hd⟩
      show (ι.c ++ [p])[st.length]? = _
      rw [← show ι.c.length = st.length from r.len]
      simp
end
section
variable {X : Cx} {W : Wd} 
theorem lc_ofM {im : IM} {g : GM} {tt : TM} {el : EM} {vs : List Nat} {σ : L2.St} {H : Hp} {Q : VK} (h : T W (eLcM im g tt el vs) σ H Q) : tLc (TIm W im) (TGm W g vs) (TB W tt) (T W el) vs σ H Q := by
  obtain ⟨ι, st, env, d, st', r, n, e, k⟩ := h
  unfold eLcM at e
  split at e
  · rename_i ds gd s1 e1
    split at e
    · rename_i ys s2 e2
      split at e
      · rename_i hz
        cases e
        refine ⟨ι, st, env, ds, gd, s1, r, n, e1, fun J ι1 H1 g1 r1 ok L hL => ?_⟩
        have n1 := n.grow g1
        refine ⟨fun i m H => i + m = ds.length ∧ ∃ ι2 s acc rest vacc, Grow ι1 H1 ι2 H ∧ Gro ι1 H1 (ι2.hide L) H ∧ RelH W (ι2.hide L) H s ∧ H L = some (.lst vacc) ∧ Reps W (ι2.hide L) H acc vacc ∧ lcGo gd g tt el (wipeE env vs) (ds.drop i) s = some (rest, s2) ∧ ys = acc ++ rest, ⟨ds.length, by omega, ι1, s1, [], ys, [], Grow.laid hL, Gro.hide hL, r1.hide hL, upd_same, Reps.nil, e2, rfl⟩, ?_⟩
        rintro i m H2 ⟨hm, ι2, s, acc, rest, vacc, g2, gg2, r2, hL2, hacc, hgo, hys⟩
        by_cases hi : i < ds.length
        · right
          have hd : ds.drop i = ds[i] :: ds.drop (i + 1) := List.drop_eq_getElem_cons hi
          rw [hd] at hgo
          unfold lcGo at hgo
          split at hgo
          · rename_i hgd
            obtain ⟨j1, j2⟩ := ok.go i _ H2 s _ gg2 r2 hgd (List.getElem?_eq_getElem hi)
            refine ⟨j1, fun H' => ∃ ι2 s acc rest vacc, Grow ι1 H1 ι2 H' ∧ Gro ι1 H1 (ι2.hide L) H' ∧ RelH W (ι2.hide L) H' s ∧ H' L = some (.lst vacc) ∧ Reps W (ι2.hide L) H' acc vacc ∧ lcGo gd g tt el (wipeE env vs) (ds.drop (i + 1)) s = some (rest, s2) ∧ ys = acc ++ rest, fun H' nx => ⟨m - 1, by omega, by omega, nx⟩, fun x H3 hy => ?_⟩
            obtain ⟨g3, r3, p3⟩ := j2 x H3 hy
            split at hgo
            · rename_i e3 q3
              have n3 : REnv W (ι2.hide L) H3 (wipeE env vs) (L2.wipe σ vs) := ((n1.wipe vs).gro gg2).grow g3
              refine ⟨_, s, _, _, e3, r3, n3, p3, q3, fun σ2 n4 w4 => ⟨w4.trans ?_, ?_⟩⟩
              · exact wipe_wipe σ vs
              have hLk : L ∈ (ι2.hide L).k := List.mem_cons_self
              have hLc : L ∉ (ι2.hide L).c := fun z => r2.dis L z hLk
              split at hgo
              · rename_i s4 q4
                refine TB.of r3 n4 q4 fun ι4 H4 g4 r4 => ?_
                rw [if_pos rfl]
                split at hgo
                · rename_i y s5 q5
                  split at hgo
                  · rename_i ys' s6 q6
                    cases hgo
                    refine T.of r4 (n4.grow g4) q5 fun v ι5 H5 g5 r5 p5 => ?_
                    have hk5 : ι5.k = L :: ι2.k := (g5.hid.trans g4.hid)
                    have e5 : ι5 = (Lay.hide ⟨ι5.c, ι2.k⟩ L) := by
                      cases ι5
                      simp only [Lay.hide]
                      exact congrArg _ hk5
                    have gg : Grow (ι2.hide L) H2 ι5 H5 := (g3.trans g4).trans g5
                    have hL5 : H5 L = some (.lst vacc) := gg.keep _ _ (.inl hLc) hL2
                    have hacc5 := Reps.append (Reps.grow gg _ _ hacc) (Reps.cons p5 Reps.nil)
                    rw [e5] at r5 hacc5 gg
                    have l5 : acc.length + 1 ≤ ys.length := by rw [hys]; simp
                    refine ⟨vacc, hL5, by rw [← hacc.length]; omega, ⟨ι5.c, ι2.k⟩, s5, acc ++ [y], ys', vacc ++ [v], ?_, ?_, r5.over List.mem_cons_self hL5 trivial, upd_same, Reps.gro (Gro.over List.mem_cons_self hL5 trivial) _ _ hacc5, q6, by rw [hys]; simp⟩
                    · refine ⟨fun i a h => gg.pre i a (g2.pre i a h), fun a o nn h => ?_, fun a m => ?_, g2.hid⟩
                      · have := ne_of_none h hL
                        exact kp_set this (gg.keep a o (nn.imp (fun nn z => by
                          rcases g2.new a z with q | q
                          · exact nn q
                          · rw [h] at q; cases q) id) (g2.keep a o nn h))
                      · rcases gg.new a m with q | q
                        · exact g2.new a q
                        · by_cases hc : a ∈ ι1.c
                          · exact .inl hc
                          · refine .inr ?_
                            cases e : H1 a with
                            | none => rfl
                            | some o => rw [g2.keep a o (.inl hc) e] at q; cases q
                    · refine ⟨fun i a h => gg.pre i a (gg2.pre i a h), fun a o nn h => ?_, fun a o nn h => ?_⟩
                      · have := ne_of_none h hL
                        exact kp_set this (gg.gro.keep a o (nn.imp (fun nn => gg2.notin a o nn h) id) (gg2.keep a o nn h))
                      · exact gg.gro.notin a o (gg2.notin a o nn h) (gg2.keep a o (.inl nn) h)
                  · cases hgo
                · cases hgo
              · rename_i s4 q4
                refine TB.of r3 n4 q4 fun ι4 H4 g4 r4 => ?_
                rw [if_neg Bool.false_ne_true]
                have hk5 : ι4.k = L :: ι2.k := g4.hid
                have e5 : ι4 = (Lay.hide ⟨ι4.c, ι2.k⟩ L) := by
                  cases ι4
                  simp only [Lay.hide]
                  exact congrArg _ hk5
                have gg : Grow (ι2.hide L) H2 ι4 H4 := g3.trans g4
                have hL5 : H4 L = some (.lst vacc) := gg.keep _ _ (.inl hLc) hL2
                have hacc5 := Reps.grow gg _ _ hacc
                rw [e5] at r4 hacc5 gg
                refine ⟨⟨ι4.c, ι2.k⟩, s4, acc, rest, vacc, ?_, ?_, r4, hL5, hacc5, hgo, hys⟩
                · refine ⟨fun i a h => gg.pre i a (g2.pre i a h), fun a o nn h => ?_, fun a m => ?_, g2.hid⟩
                  · exact gg.keep a o (nn.imp (fun nn z => by
                      rcases g2.new a z with q | q
                      · exact nn q
                      · rw [h] at q; cases q) id) (g2.keep a o nn h)
                  · rcases gg.new a m with q | q
                    · exact g2.new a q
                    · by_cases hc : a ∈ ι1.c
                      · exact .inl hc
                      · refine .inr ?_
                        cases e : H1 a with
                        | none => rfl
                        | some o => rw [g2.keep a o (.inl hc) e] at q; cases q
                · refine ⟨fun i a h => gg.pre i a (gg2.pre i a h), fun a o nn h => ?_, fun a o nn h => ?_⟩
                  · exact gg.gro.keep a o (nn.imp (fun nn => gg2.notin a o nn h) id) (gg2.keep a o nn h)
                  · exact gg.gro.notin a o (gg2.notin a o nn h) (gg2.keep a o (.inl nn) h)
              · cases hgo
            · cases hgo
          · cases hgo
        · left
          have hie : i = ds.length := by omega
          subst hie
          rw [List.drop_length] at hgo
          unfold lcGo at hgo
          split at hgo
          · rename_i hgd
            cases hgo
            refine ⟨ok.stop _ H2 _ gg2 r2 hgd, ?_⟩
            rw [List.append_nil] at hys
            subst hys
            exact k _ (ι2.add L) H2 (g1.trans ⟨fun i a h => by
              have := g2.pre i a h
              rw [show (ι2.add L).c = ι2.c ++ [L] from rfl, List.getElem?_append_left (List.getElem?_eq_some_iff.mp this).1]; exact this, g2.keep, fun a m => by
              rcases List.mem_append.mp m with q | q
              · exact g2.new a q
              · rw [List.mem_singleton.mp q]; exact .inr hL, g2.hid⟩) (r2.tell hL2 hacc (fun z => r1.free hL (.inr (g2.hid ▸ z)))) (by
              simp only [Rep]
              refine ⟨L, rfl, ?_⟩
              rw [← r2.len]
              show (ι2.c ++ [L])[_]? = _
              simp [Lay.hide])
          · cases hgo
      · cases e
    · cases e
  · cases e
where
  wipe_wipe (σ : L2.St) (vs : List Nat) : L2.wipe (L2.wipe σ vs) vs = L2.wipe σ vs := by
    have h : ∀ (us : List Nat) (τ : L2.St), (∀ v ∈ us, v ∈ vs) → L2.wipe (L2.wipe τ us) vs = L2.wipe τ vs := by
      intro us
      induction us with
      | nil => intro τ _; rfl
      | cons u us ih =>
        intro τ hu
        show L2.wipe ((L2.wipe τ us).set u none) vs = _
        rw [(wipe_set _ u none vs).1 (hu u List.mem_cons_self)]
        exact ih τ fun v hv => hu v (List.mem_cons_of_mem _ hv)
    exact h vs σ fun _ h => h
theorem j_lcM {elt tg iter : Expr} {ifs : List Expr} {scope : Scope} {own : List (Str × Nat)} {im : IM} {g : GM} {tt : TM} {el : EM} {pos : Pos} (hc : X.calm = true) (hN : X.N.Nodup) (hi : PI X tg iter (TIm W im)) (ok : BlkOk X.N X.env.scope scope own)
    (hg : ∀ (s : Shared) (H : Hp) (C : Addr) (cl : List (Str × Addr)) (fp : List Addr), PG (X.blk s H scope (compEnvC scope cl C X.env) fp) tg (TGm W g (own.map (·.2)))) (ht : ∀ (s : Shared) (H : Hp) (C : Addr) (cl : List (Str × Addr)) (fp : List Addr), PTs (X.blk s H scope (compEnvC scope cl C X.env) fp) ifs (TB W tt))
    (he : ∀ (s : Shared) (H : Hp) (C : Addr) (cl : List (Str × Addr)) (fp : List Addr), PE (X.blk s H scope (compEnvC scope cl C X.env) fp) elt (T W el)) (hs : ∀ x, foldedSetIterable iter X.env x = pure x := by intro _; rfl) :
    PE X (.ListComp elt [⟨tg, iter, ifs, 0⟩] scope pos) (T W (eLcM im g tt el (own.map (·.2)))) := (pe_lc hc hN hi ok hg ht he hs).imp fun _ _ _ => lc_ofM
theorem js_setLcM {i : Nat} {y : Str} {py : Pos} {elt tg iter : Expr} {ifs : List Expr} {scope : Scope} {own : List (Str × Nat)} {pos spos : Pos} {im : IM} {g : GM} {tt : TM} {el : EM} (hc : X.calm = true) (hN : X.N.Nodup) (hy : X.N[i]? = some y) (hyl : X.env.scope.names.lookup y = some .local)
    (hsw : swapsWith (.ListComp elt [⟨tg, iter, ifs, 0⟩] scope pos) (some (.Name y py)) spos.line X.env = pure true) (hi : PI X tg iter (TIm W im)) (ok : BlkOk X.N X.env.scope scope own)
    (hg : ∀ (s : Shared) (H : Hp) (C : Addr) (cl : List (Str × Addr)) (fp : List Addr), PG (X.blk s H scope (compEnvC scope cl C X.env) fp) tg (TGm W g (own.map (·.2)))) (ht : ∀ (s : Shared) (H : Hp) (C : Addr) (cl : List (Str × Addr)) (fp : List Addr), PTs (X.blk s H scope (compEnvC scope cl C X.env) fp) ifs (TB W tt))
    (he : ∀ (s : Shared) (H : Hp) (C : Addr) (cl : List (Str × Addr)) (fp : List Addr), PE (X.blk s H scope (compEnvC scope cl C X.env) fp) elt (T W el)) (hs : ∀ x, foldedSetIterable iter X.env x = pure x := by intro _; rfl) :
    PS X (.Assign [.Name y py] (.ListComp elt [⟨tg, iter, ifs, 0⟩] scope pos) spos) (TSt W (sSet i (eLcM im g tt el (own.map (·.2))))) := (ps_setLc hc hN hy hyl hsw hi ok hg ht he hs).imp fun D σ H h => by
  have h2 : T W (eLcM im g tt el (own.map (·.2))) σ H fun x H1 => gName i x σ H1 D.nx := set_of h
  exact lc_ofM h2
end
theorem sz0 : (0 ≤ sizeLine) = True := eq_true (by decide)
theorem sz1 : (1 ≤ sizeLine) = True := eq_true (by decide)
theorem sz2 : (2 ≤ sizeLine) = True := eq_true (by decide)
theorem sz3 : (3 ≤ sizeLine) = True := eq_true (by decide)
theorem sz4 : (4 ≤ sizeLine) = True := eq_true (by decide)
theorem sz5 : (5 ≤ sizeLine) = True := eq_true (by decide)
theorem sz6 : (6 ≤ sizeLine) = True := eq_true (by decide)
theorem sz7 : (7 ≤ sizeLine) = True := eq_true (by decide)
theorem sz8 : (8 ≤ sizeLine) = True := eq_true (by decide)
theorem sz9 : (9 ≤ sizeLine) = True := eq_true (by decide)
theorem sz10 : (10 ≤ sizeLine) = True := eq_true (by decide)
theorem sz11 : (11 ≤ sizeLine) = True := eq_true (by decide)
theorem sz12 : (12 ≤ sizeLine) = True := eq_true (by decide)
theorem s_rl : (("rotate" : Str) = "look") = False := eq_false (by decide)
theorem s_lr : (("look" : Str) = "rotate") = False := eq_false (by decide)
end My

namespace My
open PySem PySem.Spec PyProof.Rows L2
/-! ### x.count(y), flat items -/
def cntV (us : List V) (y : V) : Nat := us.countP fun z => eqV z y
def mCountL : MM := fun o as st => match as with
  | [y] => match seqL st o with
    | some ys => match sc y, scs ys with
      | some x, some us => some (.int (cntV us x), st)
      | _, _ => none
    | none => none
  | _ => none
def mCountT : MM := fun o as st => match as with
  | [y] => match seqT o with
    | some ys => match sc y, scs ys with
      | some x, some us => some (.int (cntV us x), st)
      | _, _ => none
    | none => none
  | _ => none
section
variable {X : Cx} {W : Wd}
theorem cnt_of {x : V} : ∀ {us : List V} {vs : List Value}, Vals us vs → us.all flatV = true → vs.countP (fun u => eqU x u) = cntV us x
  | _, _, .nil, _ => rfl
  | u :: us, v :: vs, .cons r t, f => by
    rw [List.all_cons, Bool.and_eq_true] at f
    unfold cntV
    rw [List.countP_cons, List.countP_cons, cnt_of t f.2, eqU_of r f.1]
    rfl
theorem jm_countL (hK : X.K = W.K) : MtR X "list.count" (MMt W mCountL) := by
  intro pins s σ H x xs v us Q I rx rxs ⟨ι, st, o, as, d, st', r, ho, ha, e, k⟩
  unfold mCountL at e
  split at e
  · rename_i y
    obtain ⟨w, rfl, hw⟩ := reps1 ha
    split at e
    · rename_i ys q
      obtain ⟨p, ws, rfl, h1, h2⟩ := seqL_ok r ho q
      split at e
      · rename_i x' us' q1 q2
        cases e
        have e1 := sc_ok q1 hw
        have e2 := scs_ok q2 h2
        subst e1 e2
        cases rx
        obtain ⟨u1, rfl, ru⟩ := vals1 rxs
        obtain ⟨its, rv, ⟨⟨cls, dd, data, sl⟩, n, ho, hc, hdn, hd⟩, hlen⟩ := I.list (SqL.of h1)
        simp only at hc hd
        subst hc hd
        refine call_meets PySem.F.slot_list_count ⟨_, ho, rfl⟩ PySem.F.entry_list_count (PySem.F.args_list_count_2 _ _) (SeqAt.list_countAt p its.toArray n dd sl u1 (eqU w)) ⟨ho, fun u' hu' => mem_eqAt ru (flat_sc q1) rv (flat_scs q2) u' (by simpa using hu'), ?_⟩
        have e2 := cnt_of (x := w) rv (flat_scs q2)
        have e3 : its.toArray.toList.countP (eqU w) = cntV ws w := e2
        rw [e3]
        exact ⟨.int (cntV ws w : Nat), H, I.tok _, ⟨_, rfl⟩, k.now r int_rep⟩
      · cases e
    · cases e
  · cases e
theorem jm_countT (hK : X.K = W.K) : MtR X "tuple.count" (MMt W mCountT) := by
  intro pins s σ H x xs v us Q I rx rxs ⟨ι, st, o, as, d, st', r, ho, ha, e, k⟩
  unfold mCountT at e
  split at e
  · rename_i y
    obtain ⟨w, rfl, hw⟩ := reps1 ha
    split at e
    · rename_i ys q
      obtain ⟨p, ws, rfl, h1, h2⟩ := seqT_ok ho q
      split at e
      · rename_i x' us' q1 q2
        cases e
        have e1 := sc_ok q1 hw
        have e2 := scs_ok q2 h2
        subst e1 e2
        cases rx
        obtain ⟨u1, rfl, ru⟩ := vals1 rxs
        obtain ⟨its, rv, ⟨⟨cls, dd, data, sl⟩, ho, hc, n, hd⟩, hlen⟩ := I.tuple (SqT.of h1)
        simp only at hc hd
        subst hc hd
        refine call_meets PySem.F.slot_tuple_count ⟨_, ho, rfl⟩ PySem.F.entry_tuple_count (PySem.F.args_tuple_count_2 _ _) (SeqAt.tuple_countAt p its.toArray n dd sl u1 (eqU w)) ⟨ho, fun u' hu' => mem_eqAt ru (flat_sc q1) rv (flat_scs q2) u' (by simpa using hu'), ?_⟩
        have e2 := cnt_of (x := w) rv (flat_scs q2)
        have e3 : its.toArray.toList.countP (eqU w) = cntV ws w := e2
        rw [e3]
        exact ⟨.int (cntV ws w : Nat), H, I.tok _, ⟨_, rfl⟩, k.now r int_rep⟩
      · cases e
    · cases e
  · cases e
end
/-! ### min, max of a tuple of whole numbers -/
theorem reads_ints {h : Heap} {vs : List Value} {ns : List Int} (i : IntsAre vs ns) : ∃ as, ReadsAll h vs (ns.map PyData.int) as := by
  induction i with
  | nil => exact ⟨_, .nil⟩
  | cons n t h ih =>
    obtain ⟨as, q⟩ := ih
    exact ⟨_, .cons (.int _ _) q⟩
theorem alike_ints (ns : List Int) : PySem.W.AlikeAll (ns.map PyData.int) := by
  refine ⟨fun x hx y hy => ?_, fun x hx e => ?_⟩
  · obtain ⟨i, _, rfl⟩ := List.mem_map.mp hx
    obtain ⟨j, _, rfl⟩ := List.mem_map.mp hy
    rfl
  · obtain ⟨i, _, rfl⟩ := List.mem_map.mp hx
    cases e
theorem depth_ints (ns : List Int) : PyData.depthAll (ns.map PyData.int) = 0 := by
  induction ns with
  | nil => rfl
  | cons n ns ih => simp only [List.map_cons, PyData.depthAll, ih, PyData.depth, Nat.max_self]

def fMinT : FM := ro fun ds _ => match ds with
  | [.tup xs] => match intsOf xs with
    | some ns => ns.min?.map .int
    | none => none
  | _ => none
def fMaxT : FM := ro fun ds _ => match ds with
  | [.tup xs] => match intsOf xs with
    | some ns => ns.max?.map .int
    | none => none
  | _ => none
section
variable {X : Cx} {W : Wd}
theorem jc_minT (hK : X.K = W.K) (hc : X.calm = true) (hu : X.A.units + 1 < cLine) : CallR X (.builtin "min") (MA W fMinT) := by
  intro pins s σ H xs us Q I rx ⟨ι, st, ds, d, st', r, h, e, k⟩
  replace e := ro_ok e
  obtain ⟨e, rfl⟩ := e
  split at e
  · rename_i ys
    obtain ⟨v, rfl, hv⟩ := reps1 h
    split at e
    · rename_i ns q
      rw [Option.map_eq_some_iff] at e
      obtain ⟨m, e1, rfl⟩ := e
      have e2 := intsOf_eq q
      subst e2
      obtain ⟨p, ws, rfl, h1, h2⟩ := seqT_ok hv (xs := ns.map .int) rfl
      have hw : ws = ns.map V.int := h2.ints
      subst hw
      obtain ⟨its, rv, ht, _⟩ := I.tuple (SqT.of h1)
      rw [Vals.ref1 rx]
      cases ns with
      | nil => cases e1
      | cons n ns =>
        have em : ns.foldl min n = m := Option.some.inj e1
        obtain ⟨as, rs⟩ := reads_ints (h := s.heap) rv.ints
        refine PySem.W.min_tuple_data (I.ok.hd hc) (isTuple_of ht) (x := .int n) (xs := ns.map .int) rs (alike_ints (n :: ns)) ?_ fun i v h' tk bs _ rd hk => ?_
        · show X.A.units + 1 + PyData.depthAll ((n :: ns).map PyData.int) < cLine
          rw [depth_ints]; exact hu
        · rw [PySem.W.minD_ints, em] at rd
          cases rd
          exact ⟨.int m, H, I.kept hk, ⟨_, rfl⟩, k.now r int_rep⟩
    · cases e
  · cases e
theorem jc_maxT (hK : X.K = W.K) (hc : X.calm = true) (hu : X.A.units + 1 < cLine) : CallR X (.builtin "max") (MA W fMaxT) := by
  intro pins s σ H xs us Q I rx ⟨ι, st, ds, d, st', r, h, e, k⟩
  replace e := ro_ok e
  obtain ⟨e, rfl⟩ := e
  split at e
  · rename_i ys
    obtain ⟨v, rfl, hv⟩ := reps1 h
    split at e
    · rename_i ns q
      rw [Option.map_eq_some_iff] at e
      obtain ⟨m, e1, rfl⟩ := e
      have e2 := intsOf_eq q
      subst e2
      obtain ⟨p, ws, rfl, h1, h2⟩ := seqT_ok hv (xs := ns.map .int) rfl
      have hw : ws = ns.map V.int := h2.ints
      subst hw
      obtain ⟨its, rv, ht, _⟩ := I.tuple (SqT.of h1)
      rw [Vals.ref1 rx]
      cases ns with
      | nil => cases e1
      | cons n ns =>
        have em : ns.foldl max n = m := Option.some.inj e1
        obtain ⟨as, rs⟩ := reads_ints (h := s.heap) rv.ints
        refine PySem.W.max_tuple_data (I.ok.hd hc) (isTuple_of ht) (x := .int n) (xs := ns.map .int) rs (alike_ints (n :: ns)) ?_ fun i v h' tk bs _ rd hk => ?_
        · show X.A.units + 1 + PyData.depthAll ((n :: ns).map PyData.int) < cLine
          rw [depth_ints]; exact hu
        · rw [PySem.W.maxD_ints, em] at rd
          cases rd
          exact ⟨.int m, H, I.kept hk, ⟨_, rfl⟩, k.now r int_rep⟩
    · cases e
  · cases e
end
/-! ### a comprehension within a comprehension -/
def relS (a b : Scope) : Scope := { a with names := a.names.map fun (n, k) => if (k == .free && b.kind == .function && b.names.lookup n == some .cell) then (n, .cell) else (n, k) }
theorem blk_in {Y : Cx} {s : Shared} {H : Hp} {sc0 sc scY : Scope} {cl : List (Str × Addr)} {C : Addr} {fp : List Addr} {N : List Str} {own : List (Str × Nat)} (hN : Y.N = N) (hS : Y.env.scope = scY) (h : blkC N (relS sc0 scY) sc own = true) :
    BlkOk (Y.blk s H sc0 (compEnvC sc0 cl C Y.env) fp).N (Y.blk s H sc0 (compEnvC sc0 cl C Y.env) fp).env.scope sc own := by
  subst hN hS
  exact blkOk_by h
/-- a comprehension over the images of xs that changes no cell -/
theorem lc_mapM {α : Type} {gd : Store → Prop} {g : GM} {tt : TM} {el : EM} {env : Env} {st : Store} {xs : List α} {g0 : α → D} {QL : List D → Store → Prop} (p : α → Bool) (f : α → D) (hg : gd st)
    (step : ∀ x ∈ xs, ∃ e1, g (g0 x) env = some e1 ∧ EvB tt e1 st fun b s1 => s1 = st ∧ b = p x ∧ (b = true → EvE el e1 st fun y s2 => s2 = st ∧ y = f x)) (done : QL ((xs.filter p).map f) st) : EvL (lcGo gd g tt el env (xs.map g0) st) QL := by
  refine lc_inv (fun i ys s => s = st ∧ ys = ((xs.take i).filter p).map f) ⟨rfl, by simp⟩ (fun i ys s _ h => h.1 ▸ hg) (fun i hi ys s ⟨h1, h2⟩ => ?_) (fun ys s ⟨h1, h2⟩ => ?_)
  · subst h1
    have hi2 : i < xs.length := by rwa [List.length_map] at hi
    rw [List.getElem_map]
    obtain ⟨e1, h3, b, s1, h4, rfl, h5, h6⟩ := step xs[i] (List.getElem_mem hi2)
    refine ⟨e1, h3, b, s1, h4, ?_⟩
    have tk : xs.take (i + 1) = xs.take i ++ [xs[i]] := by rw [List.take_add_one, List.getElem?_eq_getElem hi2]; rfl
    cases b with
    | true =>
      refine (if_pos rfl).mpr ?_
      refine EvE.mono (h6 rfl) fun y s2 ⟨q1, q2⟩ => ⟨q1, ?_⟩
      rw [tk, List.filter_append, List.map_append, h2, q2]
      simp [h5.symm]
    | false =>
      refine (if_neg Bool.false_ne_true).mpr ⟨rfl, ?_⟩
      rw [tk, List.filter_append, List.map_append, h2]
      simp [h5.symm]
  · rw [List.length_map, List.take_length] at h2
    rw [h1, h2]
    exact done
end My

namespace My
open PySem PySem.Spec PyProof.Rows L2
/-! ### tests that store a name: (x := e) op f -/
abbrev WM := Env → Store → Option (Bool × Env × Store)
def TBw (W : Wd) (m : WM) : TTw := fun σ H Q => ∃ ι st env b env' st', RelH W ι H st ∧ REnv W ι H env σ ∧ m env st = some (b, env', st') ∧ ∀ σ' ι' H', Grow ι H ι' H' → RelH W ι' H' st' → REnv W ι' H' env' σ' → Q b σ' H'
def wNamed (i : Nat) (f : D → D → Store → Option D) (me mo : EM) : WM := fun env st => match me env st with
  | some (v, s1) => match mo (env.set i (some v)) s1 with
    | some (u, s2) => match f v u s2 with
      | some (.bl b) => some (b, env.set i (some v), s2)
      | _ => none
    | none => none
  | none => none
def whileGoW (c : WM) (body : SM) : Nat → Env → Store → Option (Out × Store)
  | 0, _, _ => none
  | n + 1, env, st => match c env st with
    | some (true, e1, s1) => match body e1 s1 with
      | some (.nx e2, s2) => whileGoW c body n e2 s2
      | some (.ct e2, s2) => whileGoW c body n e2 s2
      | some (.bk e2, s2) => some (.nx e2, s2)
      | some (.rt d, s2) => some (.rt d, s2)
      | none => none
    | some (false, e1, s1) => some (.nx e1, s1)
    | none => none
def sWhileW (fuel : Nat) (c : WM) (body : SM) : SM := whileGoW c body fuel
def sIfW (c : WM) (a b : SM) : SM := fun env st => match c env st with
  | some (true, e1, s1) => a e1 s1
  | some (false, e1, s1) => b e1 s1
  | none => none
section
variable {X : Cx} {W : Wd} {pos : Pos} {me mo : EM} {f : D → D → Store → Option D}
theorem TBw.of {m : WM} {ι : Lay} {H : Hp} {st st' : Store} {env env' : Env} {σ : L2.St} {b : Bool} {Q : Bool → L2.St → Hp → Prop} (r : RelH W ι H st) (n : REnv W ι H env σ) (e : m env st = some (b, env', st')) (k : ∀ σ' ι' H', Grow ι H ι' H' → RelH W ι' H' st' → REnv W ι' H' env' σ' → Q b σ' H') : TBw W m σ H Q :=
  ⟨ι, st, env, b, env', st', r, n, e, k⟩
theorem jw_cmp {i : Nat} {x : Str} {e o : Expr} {p p2 : Pos} {op : CmpOp} (hN : X.N.Nodup) (hi : X.N[i]? = some x) (hx : Loc X.env.scope x) (ho : OpR X (compareOp op) (M2 W f)) (he : PE X e (T W me)) (hb : PE X o (T W mo)) (hm : behindInMarks op o = false)
    (hf : X.fn x = true ∨ X.env.scope.names.lookup x = some .local := by first | exact .inl rfl | exact .inr rfl | assumption) :
    PTw X (.Compare (.NamedExpr (.Name x p) e p2) [op] [o] pos) (TBw W (wNamed i f me mo)) := ⟨fun pins s σ H Q I ⟨ι, st, env, b, env', st', r, n, e, k⟩ => by
  refine (ptw_cmp ho (pew_named hN hi hx (pew_of he) hf) hb hm).run pins s σ H Q I ?_
  unfold wNamed at e
  split at e
  · rename_i v s1 e1
    split at e
    · rename_i u s2 e2
      split at e
      · rename_i e3
        cases e
        exact T.of r n e1 fun v' ι1 H1 g1 r1 p1 => T.of r1 ((n.grow g1).set i p1) e2 fun u' ι2 H2 g2 r2 p2 => ⟨ι2, st', v, u, .bl b, r2, Rep.grow g2 _ _ p1, p2, e3, fun w ι3 H3 g3 r3 p3 =>
          ⟨b, by simpa only [Rep] using p3, k _ _ _ ((g1.trans g2).trans g3) r3 ((((n.grow g1).set i p1).grow g2).grow g3)⟩⟩
      · cases e
    · cases e
  · cases e⟩
theorem js_whileW {fuel : Nat} {c : Expr} {body : List Stmt} {tc : WM} {bm : SM} (hp : PassesOwn (model X.prog X.w) X.A X.env X.xe) (hc : PTw X c (TBw W tc)) (hb : PSs X body (TSt W bm)) : PS X (.While c body [] pos) (TSt W (sWhileW fuel tc bm)) :=
  (ps_whileW hp hc hb pss_nil).imp fun D σ H ⟨ι, st, env, o, st', r, n, e, k⟩ => by
  unfold sWhileW at e
  refine ⟨fun m σ H2 => ∃ ι2 s env2, Grow ι H ι2 H2 ∧ RelH W ι2 H2 s ∧ REnv W ι2 H2 env2 σ ∧ whileGoW tc bm m env2 s = some (o, st'), ⟨fuel, ι, st, env, Grow.refl, r, n, e⟩, ?_⟩
  rintro m σ2 H2 ⟨ι2, s, env2, g2, r2, n2, hgo⟩
  cases m with
  | zero => cases hgo
  | succ m =>
    unfold whileGoW at hgo
    split at hgo
    · rename_i e1 s1 q1
      refine TBw.of r2 n2 q1 fun σ3 ι3 H3 g3 r3 n3 => ?_
      refine (if_pos rfl).mpr ⟨fun σ H4 => ∃ ι2 s env2, Grow ι H ι2 H4 ∧ RelH W ι2 H4 s ∧ REnv W ι2 H4 env2 σ ∧ whileGoW tc bm m env2 s = some (o, st'), fun σ' H' nx => ⟨m, Nat.lt_succ_self m, nx⟩, ?_⟩
      split at hgo
      · rename_i e2 s2 q2
        exact TSt.of r3 n3 q2 fun σ5 ι5 H5 g5 r5 n5 => ⟨ι5, s2, e2, (g2.trans g3).trans g5, r5, n5, hgo⟩
      · rename_i e2 s2 q2
        exact TSt.of r3 n3 q2 fun σ5 ι5 H5 g5 r5 n5 => ⟨ι5, s2, e2, (g2.trans g3).trans g5, r5, n5, hgo⟩
      · rename_i e2 s2 q2
        cases hgo
        exact TSt.of r3 n3 q2 fun σ5 ι5 H5 g5 r5 n5 => k _ _ _ ((g2.trans g3).trans g5) r5 n5
      · rename_i d s2 q2
        cases hgo
        exact TSt.of r3 n3 q2 fun v ι5 H5 g5 r5 n5 => k _ _ _ ((g2.trans g3).trans g5) r5 n5
      · cases hgo
    · rename_i e1 s1 q1
      cases hgo
      refine TBw.of r2 n2 q1 fun σ3 ι3 H3 g3 r3 n3 => (if_neg Bool.false_ne_true).mpr ?_
      exact k _ _ _ (g2.trans g3) r3 n3
    · cases hgo
theorem js_ifW {c : Expr} {ss1 ss2 : List Stmt} {tc : WM} {a b : SM} (hc : PTw X c (TBw W tc)) (ha : PSs X ss1 (TSt W a)) (hb : PSs X ss2 (TSt W b)) : PS X (.If c ss1 ss2 pos) (TSt W (sIfW tc a b)) := (ps_ifW hc ha hb).imp fun D σ H ⟨ι, st, env, o, st', r, n, e, k⟩ => by
  unfold sIfW at e
  split at e
  · rename_i e1 s1 q
    exact TBw.of r n q fun σ' ι1 H1 g1 r1 n1 => (if_pos rfl).mpr (TSt.of r1 n1 e (OkS.go k g1))
  · rename_i e1 s1 q
    exact TBw.of r n q fun σ' ι1 H1 g1 r1 n1 => (if_neg Bool.false_ne_true).mpr (TSt.of r1 n1 e (OkS.go k g1))
  · cases e
end
/-! what the mirrors answer -/
def EvW2 (c : WM) (env : Env) (st : Store) (Q : Bool → Env → Store → Prop) : Prop := ∃ b e s, c env st = some (b, e, s) ∧ Q b e s
section
variable {env : Env} {st : Store} {QS : Out → Store → Prop} {QW : Bool → Env → Store → Prop}
theorem ev_named {i : Nat} {f : D → D → Store → Option D} {me mo : EM} : EvW2 (wNamed i f me mo) env st QW ↔ EvE me env st fun v s1 => EvE mo (env.set i (some v)) s1 fun u s2 => ∃ b, f v u s2 = some (.bl b) ∧ QW b (env.set i (some v)) s2 := by
  unfold EvW2 EvE wNamed
  constructor
  · rintro ⟨b, e1, s, e, q⟩
    split at e
    · rename_i v s1 h
      split at e
      · rename_i u s2 h2
        split at e
        · rename_i b' h3
          cases e
          exact ⟨_, _, h, _, _, h2, _, h3, q⟩
        · cases e
      · cases e
    · cases e
  · rintro ⟨v, s1, h, u, s2, h2, b, h3, q⟩
    exact ⟨b, _, s2, by rw [h]; simp only [h2, h3], q⟩
theorem ev_ifW {c : WM} {a b : SM} : EvS (sIfW c a b) env st QS ↔ EvW2 c env st fun k e s => if k = true then EvS a e s QS else EvS b e s QS := by
  unfold EvW2 EvS sIfW
  constructor
  · rintro ⟨o, s, e, q⟩
    split at e
    · rename_i e1 s1 h
      exact ⟨true, e1, s1, h, (if_pos rfl).mpr ⟨o, s, e, q⟩⟩
    · rename_i e1 s1 h
      exact ⟨false, e1, s1, h, (if_neg Bool.false_ne_true).mpr ⟨o, s, e, q⟩⟩
    · cases e
  · rintro ⟨k, e1, s1, h, q⟩
    cases k with
    | true => obtain ⟨o, s, e, q⟩ := (if_pos rfl).mp q; exact ⟨o, s, by rw [h]; exact e, q⟩
    | false => obtain ⟨o, s, e, q⟩ := (if_neg Bool.false_ne_true).mp q; exact ⟨o, s, by rw [h]; exact e, q⟩
theorem whileW_inv {c : WM} {body : SM} {fuel : Nat} (I : Nat → Env → Store → Prop) (hf : ∃ n, n < fuel ∧ I n env st)
    (step : ∀ n env st, I n env st → EvW2 c env st fun b e1 s1 => if b = true then EvS body e1 s1 fun o s => match o with
      | .nx e => ∃ m, m < n ∧ I m e s
      | .ct e => ∃ m, m < n ∧ I m e s
      | .bk e => QS (.nx e) s
      | .rt d => QS (.rt d) s else QS (.nx e1) s1) : EvS (sWhileW fuel c body) env st QS := by
  have main : ∀ (n m : Nat) (env : Env) (st : Store), n < m → I n env st → ∃ o s, whileGoW c body m env st = some (o, s) ∧ QS o s := by
    intro n
    induction n using Nat.strongRecOn with
    | ind n ih =>
      intro m env st hm hI
      obtain ⟨m, rfl⟩ : ∃ k, m = k + 1 := ⟨m - 1, by omega⟩
      obtain ⟨b, e1, s1, h, q⟩ := step n env st hI
      unfold whileGoW
      rw [h]
      cases b with
      | false => exact ⟨_, _, rfl, (if_neg Bool.false_ne_true).mp q⟩
      | true =>
        obtain ⟨o, s, h2, q2⟩ := (if_pos rfl).mp q
        dsimp only
        rw [h2]
        cases o with
        | nx e => obtain ⟨k, hk, hI2⟩ := q2; exact ih k hk m e s (by omega) hI2
        | ct e => obtain ⟨k, hk, hI2⟩ := q2; exact ih k hk m e s (by omega) hI2
        | bk e => exact ⟨_, _, rfl, q2⟩
        | rt d => exact ⟨_, _, rfl, q2⟩
  obtain ⟨n, hn, hI⟩ := hf
  exact main n fuel env st hn hI
end
theorem putj_at {st l : Store} {i : Nat} {w : D} : (st ++ l).set (st.length + i) w = st ++ l.set i w := by rw [List.set_append_right _ _ (by omega), Nat.add_sub_cancel_left]
/-- the whole numbers from lo on -/
def upTo (lo : Int) (n : Nat) : List Int := (List.range n).map fun i => lo + (i : Nat)
theorem intsTo_up (lo : Int) (n : Nat) : intsTo lo n = (upTo lo n).map .int := by
  unfold intsTo upTo
  rw [List.map_map]
  rfl
theorem mem_upTo {lo z : Int} {n : Nat} : z ∈ upTo lo n ↔ lo ≤ z ∧ z < lo + n := by
  unfold upTo
  rw [List.mem_map]
  constructor
  · rintro ⟨i, hi, rfl⟩
    have := List.mem_range.mp hi
    omega
  · rintro ⟨h1, h2⟩
    exact ⟨(z - lo).toNat, List.mem_range.mpr (by omega), by omega⟩
theorem upTo_asc (lo : Int) (n : Nat) : (upTo lo n).Pairwise (· < ·) := by
  unfold upTo
  rw [List.pairwise_map]
  exact List.pairwise_lt_range.imp fun {a b} h => by omega
theorem upTo_len (lo : Int) (n : Nat) : (upTo lo n).length = n := by simp [upTo]
end My

namespace My
open PySem PySem.Spec PyProof.Rows L2
/-! ### list(zip(a, b)) of two tuples -/
open Classical in
noncomputable def eLz (ma mb : EM) : EM := fun env st => match ma env st with
  | some (x, s1) => match mb env s1 with
    | some (y, s2) => match seqT x, seqT y with
      | some xs, some ys => if (zipped xs ys).length ≤ sizeLine then some (.lst (zipped xs ys), s2) else none
      | _, _ => none
    | none => none
  | none => none
/-! ### dict comprehensions with tuples as keys -/
open Classical in
noncomputable def dcGo (gd : Store → Prop) (g : GM) (tk tv : EM) (env : Env) : List D → List (List Key) → List D → Store → Option (List (List Key) × List D × Store)
  | [], ks, vs, st => if gd st then some (ks, vs, st) else none
  | d :: ds, ks, vs, st => if gd st then match g d env with
      | some e2 => match tk e2 st with
        | some (k, s1) => match tv e2 s1 with
          | some (v, s2) => match tkeyOf k with
            | some kk => if ks.length < sizeLine then dcGo gd g tk tv env ds (kPutK ks kk) (kPutV ks vs kk v) s2 else none
            | none => none
          | none => none
        | none => none
      | none => none
    else none
noncomputable def eDcT (im : IM) (g : GM) (tk tv : EM) (vs : List Nat) : EM := fun env st => match im env st with
  | some (ds, gd, s1) => match dcGo gd g tk tv (wipeE env vs) ds [] [] s1 with
    | some (ks, ws, s2) => some (.dt ks ws, s2)
    | none => none
  | none => none
section
variable {env : Env} {st : Store} {Q : D → Store → Prop}
theorem ev_lz {ma mb : EM} : EvE (eLz ma mb) env st Q ↔ EvE ma env st fun x s1 => EvE mb env s1 fun y s2 => ∃ xs ys, seqT x = some xs ∧ seqT y = some ys ∧ (zipped xs ys).length ≤ sizeLine ∧ Q (.lst (zipped xs ys)) s2 := by
  unfold EvE eLz
  constructor
  · rintro ⟨d, s, e, q⟩
    split at e
    · rename_i x s1 h
      split at e
      · rename_i y s2 h2
        split at e
        · rename_i xs ys h3 h4
          split at e
          · rename_i hz
            cases e
            exact ⟨x, s1, h, y, _, h2, xs, ys, h3, h4, hz, q⟩
          · cases e
        · cases e
      · cases e
    · cases e
  · rintro ⟨x, s1, h, y, s2, h2, xs, ys, h3, h4, hz, q⟩
    exact ⟨_, s2, by rw [h]; simp only [h2, h3, h4, if_pos hz], q⟩
def EvD (r : Option (List (List Key) × List D × Store)) (Q : List (List Key) → List D → Store → Prop) : Prop := ∃ ks vs s, r = some (ks, vs, s) ∧ Q ks vs s
theorem ev_dcT {im : IM} {g : GM} {tk tv : EM} {vs : List Nat} : EvE (eDcT im g tk tv vs) env st Q ↔ EvI im env st fun ds gd s1 => EvD (dcGo gd g tk tv (wipeE env vs) ds [] [] s1) fun ks ws s2 => Q (.dt ks ws) s2 := by
  unfold EvE EvI EvD eDcT
  constructor
  · rintro ⟨d, s, e, q⟩
    split at e
    · rename_i ds gd s1 h
      split at e
      · rename_i ks ws s2 h2
        cases e
        exact ⟨_, _, _, h, ks, ws, _, h2, q⟩
      · cases e
    · cases e
  · rintro ⟨ds, gd, s1, h, ks, ws, s2, h2, q⟩
    exact ⟨_, s2, by rw [h]; simp only [h2], q⟩
/-- a dict comprehension by what it holds after each turn -/
theorem dc_inv {gd : Store → Prop} {g : GM} {tk tv : EM} {env : Env} {ds : List D} {st : Store} {QD : List (List Key) → List D → Store → Prop} (I : Nat → List (List Key) → List D → Store → Prop) (h0 : I 0 [] [] st) (hg : ∀ i ks vs st, i ≤ ds.length → I i ks vs st → gd st)
    (step : ∀ i (hi : i < ds.length) ks vs st, I i ks vs st → ks.length < sizeLine ∧ ∃ e1, g ds[i] env = some e1 ∧ EvE tk e1 st fun k s1 => EvE tv e1 s1 fun v s2 => ∃ kk, tkeyOf k = some kk ∧ I (i + 1) (kPutK ks kk) (kPutV ks vs kk v) s2)
    (done : ∀ ks vs st, I ds.length ks vs st → QD ks vs st) : EvD (dcGo gd g tk tv env ds [] [] st) QD := by
  have main : ∀ (m i : Nat) (ks : List (List Key)) (vs : List D) (st : Store), i + m = ds.length → I i ks vs st → EvD (dcGo gd g tk tv env (ds.drop i) ks vs st) QD := by
    intro m
    induction m with
    | zero =>
      intro i ks vs st hm hI
      have : i = ds.length := by omega
      subst this
      rw [List.drop_length]
      unfold dcGo
      rw [if_pos (hg _ _ _ _ (Nat.le_refl _) hI)]
      exact ⟨ks, vs, st, rfl, done _ _ _ hI⟩
    | succ m ih =>
      intro i ks vs st hm hI
      have hi : i < ds.length := by omega
      rw [List.drop_eq_getElem_cons hi]
      unfold dcGo
      rw [if_pos (hg _ _ _ _ (Nat.le_of_lt hi) hI)]
      obtain ⟨hz, e1, h1, k, s1, h2, v, s2, h3, kk, h4, h5⟩ := step i hi ks vs st hI
      rw [h1]
      dsimp only
      rw [h2]
      dsimp only
      rw [h3]
      dsimp only
      rw [h4]
      dsimp only
      rw [if_pos hz]
      exact ih (i + 1) _ _ _ (by omega) h5
  have := main ds.length 0 [] [] st (by omega) h0
  simpa using this
end
theorem fldj_at {s : Store} {i : Nat} {n f : Str} {v : D} {fs fs' : List Str} {vs vs' : List D} (h : s[i]? = some (.ins n fs vs)) (e : fPutF fs f = fs') (e2 : fPutV fs vs f v = vs') (hl : fs.length < 1000 := by decide) : fldPut n f (.ref i) v s = some (s.set i (.ins n fs' vs')) := by
  simp only [fldPut, h]
  rw [if_pos ⟨trivial, hl⟩, e, e2]
theorem insAj_cell {s : Store} {i : Nat} {n : Str} {fs : List Str} {vs : List D} (h : s[i]? = some (.ins n fs vs)) : insA s (.ref i) = some (n, fs, vs) := by
  simp only [insA, h]
theorem insAj_tree {s : Store} {n : Str} {fs : List Str} {vs : List D} : insA s (.ins n fs vs) = some (n, fs, vs) := rfl
end My

namespace My
open PySem PySem.Spec PyProof.Rows L2
/-! ### the zip of two tuples that still holds the pair it handed out -/
section
variable {prog : Program} {w : World} {A : Around} {E : Value → Shared → Prop} {s : Shared}
theorem tz_next_item {zp ta to' pr j1 j2 m1 m2 : Addr} {fl : Bool} {op : Obj} {q1 q2 : Nat} {xs ys : Array Value} {x y : Value} {Q : Value → Shared → Prop} (ap : ZipApart zp ta to' j1 j2 m1 m2)
    (zz : IsZipHeld s.heap zp ta to' pr fl) (hp : s.heap.get? pr = some op) (zi : IsPair s.heap ta (.ref j1) (.ref j2))
    (a1 : s.heap.IsTupleIter j1 m1 q1) (a2 : s.heap.IsTupleIter j2 m2 q2) (b1 : s.heap.IsTuple m1 xs) (b2 : s.heap.IsTuple m2 ys) (ex : xs[q1]? = some x) (ey : ys[q2]? = some y)
    (want : ∀ h', IsZipHeld h' zp ta to' pr true → h'.IsTupleIter j1 m1 (q1 + 1) → h'.IsTupleIter j2 m2 (q2 + 1) → IsPair h' s.heap.objs.size x y → h'.objs.size = s.heap.objs.size + 1 →
      (∀ b o, b ≠ zp → b ≠ j1 → b ≠ j2 → s.heap.get? b = some o → h'.get? b = some o) → Q (.ref s.heap.objs.size) { s with heap := h' }) :
    wpAny (model prog w) A (Builtin.«zip.__next__» ⟨[.ref zp], []⟩) (fun fin s' => ∃ v, fin = .done (.ret v) ∧ Q v s') E s := by
  show wpAny _ _ (field (.ref zp) 2 >>= _) _ _ _
  refine wpAny_bind (wpAny_field zz rfl (x := .bool false) rfl ?_)
  show wpAny _ _ (field (.ref zp) 3 >>= _) _ _ _
  refine wpAny_bind (wpAny_field zz rfl (x := .ref ta) rfl ?_)
  refine wpAny_bind (wpAny_seqItems zi rfl ?_)
  show wpAny _ _ (Builtin.SmallTypes.ownedTupleIsFree (.ref zp) >>= _) _ _ _
  refine wpAny_bind (wpAny_tupleHeld_zip zz hp fun g1 z1 t1 => ?_)
  simp only [Bool.false_eq_true, if_false]
  refine wpAny_bind ?_
  rw [← Array.forIn_toList]
  simp only [List.forIn_cons, List.forIn_nil]
  refine wpAny_bind (wpAny_bind (wpAny_holding ?_))
  show wpAny _ _ (Builtin.SmallTypes.nextOf (.ref j1) >>= _) _ _ _
  refine wpAny_bind (RZ.nextOf_tuple_item (s := { s with heap := g1 }) (a1.extBut t1.extBut ap.i1z) (b1.extBut t1.extBut ap.l1z) ex fun g2 c1 t2 => wpAny_pure ?_)
  refine wpAny_pure ?_
  refine wpAny_bind (wpAny_bind (wpAny_holding ?_))
  show wpAny _ _ (Builtin.SmallTypes.nextOf (.ref j2) >>= _) _ _ _
  refine wpAny_bind (RZ.nextOf_tuple_item (s := { s with heap := g2 }) ((a2.extBut t1.extBut ap.i2z).extBut t2.extBut ap.i12.symm) ((b2.extBut t1.extBut ap.l2z).extBut t2.extBut ap.l2i1) ey fun g3 c2 t3 => wpAny_pure ?_)
  refine wpAny_pure (wpAny_pure ?_)
  show wpAny _ _ (newTuple [x, y] >>= _) _ _ _
  refine wpAny_bind (wpAny_newTuple ?_)
  have sz : g3.objs.size = s.heap.objs.size := by rw [t3.1, t2.1, t1.1]
  have z3 : IsZipHeld g3 zp ta to' pr true := t3.extBut _ _ ap.i2z.symm (t2.extBut _ _ ap.i1z.symm z1)
  have kp : ∀ b o, b ≠ zp → b ≠ j1 → b ≠ j2 → s.heap.get? b = some o → g3.get? b = some o := fun b o n1 n2 n3 e => t3.extBut _ _ n3 (t2.extBut _ _ n2 (t1.extBut _ _ n1 e))
  have c1' : g3.IsTupleIter j1 m1 (q1 + 1) := c1.extBut t3.extBut ap.i12
  refine wpAny_pure ⟨_, rfl, ?_⟩
  show Q (.ref g3.objs.size) _
  have new : IsPair (g3.push { cls := .type "tuple", data := .seq #[x, y] }) g3.objs.size x y := Heap.get?_push_size _ rfl
  have sz4 : (g3.push { cls := .type "tuple", data := .seq #[x, y] }).objs.size = g3.objs.size + 1 := Heap.size_push ..
  rw [sz] at new sz4 ⊢
  refine want _ (Heap.get?_push_of_some _ z3) ?_ ?_ new sz4 fun b o n1 n2 n3 e => Heap.get?_push_of_some _ (kp b o n1 n2 n3 e)
  · obtain ⟨o, e, r⟩ := c1'
    exact ⟨o, Heap.get?_push_of_some _ e, r⟩
  · obtain ⟨o, e, r⟩ := c2
    exact ⟨o, Heap.get?_push_of_some _ e, r⟩
theorem tz_pyNext_item {zp ta to' pr j1 j2 m1 m2 : Addr} {fl : Bool} {op : Obj} {q1 q2 : Nat} {xs ys : Array Value} {x y : Value} {Q : Option Value → Shared → Prop} (ap : ZipApart zp ta to' j1 j2 m1 m2)
    (zz : IsZipHeld s.heap zp ta to' pr fl) (hp : s.heap.get? pr = some op) (zi : IsPair s.heap ta (.ref j1) (.ref j2))
    (a1 : s.heap.IsTupleIter j1 m1 q1) (a2 : s.heap.IsTupleIter j2 m2 q2) (b1 : s.heap.IsTuple m1 xs) (b2 : s.heap.IsTuple m2 ys) (ex : xs[q1]? = some x) (ey : ys[q2]? = some y)
    (want : ∀ h', IsZipHeld h' zp ta to' pr true → h'.IsTupleIter j1 m1 (q1 + 1) → h'.IsTupleIter j2 m2 (q2 + 1) → IsPair h' s.heap.objs.size x y → h'.objs.size = s.heap.objs.size + 1 →
      (∀ b o, b ≠ zp → b ≠ j1 → b ≠ j2 → s.heap.get? b = some o → h'.get? b = some o) → Q (some (.ref s.heap.objs.size)) { s with heap := h' }) :
    wpAny (model prog w) A (pyNext (.ref zp)) Q E s := by
  have ty : s.TypeIs (.ref zp) "zip" := ⟨_, zz, rfl⟩
  unfold pyNext
  refine wpAny_bind (wpAny_attempt (wpAny_callSpecial?_slot (name := Str.ofString "__next__") ty F.slot_zip_next ?_))
  exact wpAny_call_entry F.slot_zip_next ty F.entry_zip_next (tz_next_item ap zz hp zi a1 a2 b1 b2 ex ey fun h' r1 r2 r3 r4 r5 r6 => wpAny_pure (want h' r1 r2 r3 r4 r5 r6)) (F.args_zip_next_1 _)
theorem tz_next_end {zp ta to' pr j1 j2 m1 m2 : Addr} {fl : Bool} {op : Obj} {q1 q2 : Nat} {xs ys : Array Value} {Q : PySem.Fin → Shared → Prop} (calm : A.handled = none) (ap : ZipApart zp ta to' j1 j2 m1 m2)
    (zz : IsZipHeld s.heap zp ta to' pr fl) (hp : s.heap.get? pr = some op) (zi : IsPair s.heap ta (.ref j1) (.ref j2))
    (a1 : s.heap.IsTupleIter j1 m1 q1) (a2 : s.heap.IsTupleIter j2 m2 q2) (b1 : s.heap.IsTuple m1 xs) (b2 : s.heap.IsTuple m2 ys) (stop : xs[q1]? = none ∨ ys[q2]? = none)
    (want : ∀ h' e, (∀ b o, b ≠ zp → b ≠ j1 → b ≠ j2 → s.heap.get? b = some o → h'.get? b = some o) → (∃ o, h'.get? e = some o ∧ o.cls = .type "StopIteration") → E (.ref e) { s with heap := h' }) :
    wpAny (model prog w) A (Builtin.«zip.__next__» ⟨[.ref zp], []⟩) Q E s := by
  show wpAny _ _ (field (.ref zp) 2 >>= _) _ _ _
  refine wpAny_bind (wpAny_field zz rfl (x := .bool false) rfl ?_)
  show wpAny _ _ (field (.ref zp) 3 >>= _) _ _ _
  refine wpAny_bind (wpAny_field zz rfl (x := .ref ta) rfl ?_)
  refine wpAny_bind (wpAny_seqItems zi rfl ?_)
  show wpAny _ _ (Builtin.SmallTypes.ownedTupleIsFree (.ref zp) >>= _) _ _ _
  refine wpAny_bind (wpAny_tupleHeld_zip zz hp fun g1 z1 t1 => ?_)
  simp only [Bool.false_eq_true, if_false]
  refine wpAny_bind ?_
  rw [← Array.forIn_toList]
  simp only [List.forIn_cons, List.forIn_nil]
  refine wpAny_bind (wpAny_bind (wpAny_holding ?_))
  show wpAny _ _ (Builtin.SmallTypes.nextOf (.ref j1) >>= _) _ _ _
  cases ex : xs[q1]? with
  | none =>
    refine wpAny_bind (RZ.nextOf_tuple_end (s := { s with heap := g1 }) calm (a1.extBut t1.extBut ap.i1z) (b1.extBut t1.extBut ap.l1z) ex fun g2 e t2 he => ?_)
    exact want g2 e (fun b o n1 n2 _ x => t2 _ _ n2 (t1.extBut _ _ n1 x)) he
  | some x =>
    have ey : ys[q2]? = none := stop.resolve_left (by rw [ex]; simp)
    refine wpAny_bind (RZ.nextOf_tuple_item (s := { s with heap := g1 }) (a1.extBut t1.extBut ap.i1z) (b1.extBut t1.extBut ap.l1z) ex fun g2 c1 t2 => wpAny_pure ?_)
    refine wpAny_pure ?_
    refine wpAny_bind (wpAny_bind (wpAny_holding ?_))
    show wpAny _ _ (Builtin.SmallTypes.nextOf (.ref j2) >>= _) _ _ _
    refine wpAny_bind (RZ.nextOf_tuple_end (s := { s with heap := g2 }) calm ((a2.extBut t1.extBut ap.i2z).extBut t2.extBut ap.i12.symm) ((b2.extBut t1.extBut ap.l2z).extBut t2.extBut ap.l2i1) ey fun g3 e t3 he => ?_)
    exact want g3 e (fun b o n1 n2 n3 x => t3 _ _ n3 (t2.extBut _ _ n2 (t1.extBut _ _ n1 x))) he
theorem tz_pyNext_end {zp ta to' pr j1 j2 m1 m2 : Addr} {fl : Bool} {op : Obj} {q1 q2 : Nat} {xs ys : Array Value} {Q : Option Value → Shared → Prop} (calm : A.handled = none) (ap : ZipApart zp ta to' j1 j2 m1 m2)
    (zz : IsZipHeld s.heap zp ta to' pr fl) (hp : s.heap.get? pr = some op) (zi : IsPair s.heap ta (.ref j1) (.ref j2))
    (a1 : s.heap.IsTupleIter j1 m1 q1) (a2 : s.heap.IsTupleIter j2 m2 q2) (b1 : s.heap.IsTuple m1 xs) (b2 : s.heap.IsTuple m2 ys) (stop : xs[q1]? = none ∨ ys[q2]? = none)
    (want : ∀ h', (∀ b o, b ≠ zp → b ≠ j1 → b ≠ j2 → s.heap.get? b = some o → h'.get? b = some o) → Q none { s with heap := h' }) :
    wpAny (model prog w) A (pyNext (.ref zp)) Q E s := by
  have ty : s.TypeIs (.ref zp) "zip" := ⟨_, zz, rfl⟩
  unfold pyNext
  refine wpAny_bind (wpAny_attempt (wpAny_callSpecial?_slot (name := Str.ofString "__next__") ty F.slot_zip_next ?_))
  refine wpAny_call_entry F.slot_zip_next ty F.entry_zip_next (tz_next_end calm ap zz hp zi a1 a2 b1 b2 stop fun h' e kp he => ?_) (F.args_zip_next_1 _)
  obtain ⟨o, ho, hc⟩ := he
  refine wpAny_bind (wpAny_isInstance (T := "StopIteration") (b := true) ⟨o, ho, hc⟩ isSubtype_stop ?_)
  exact wpAny_pure (want _ kp)
end
/-- the pairs that were handed out -/
def PairsAt (h : Heap) (xs ys : Array Value) (as : List Addr) : Prop := ∀ (j : Nat) (a : Addr), as[j]? = some a → ∃ x y, xs[j]? = some x ∧ ys[j]? = some y ∧ IsPair h a x y
section
variable {prog : Program} {w : World} {A : Around} {s : Shared} {R : Result → Shared → Prop}
/-- the turns of list.extend over such a zip -/
theorem tz_loop {zp ta to' j1 j2 m1 m2 S : Addr} {xs ys : Array Value} {n : Nat} {res : Value} {bsz : Nat} {kq : Addr → Obj → Prop} (calm : A.handled = none) (ap : ZipApart zp ta to' j1 j2 m1 m2) (hn : n = min xs.size ys.size) (hz : n ≤ sizeLine)
    (nS : S ≠ zp ∧ S ≠ j1 ∧ S ≠ j2 ∧ S ≠ ta ∧ S ≠ m1 ∧ S ≠ m2)
    (want : ∀ h' as c, as.length = n → PairsAt h' xs ys as → (∀ a ∈ as, bsz ≤ a) → as.Nodup → h'.get? S = some { cls := .type "list", dict := none, data := .seq (as.map Value.ref).toArray c, slots := #[] } →
      (∀ b o, b ≠ S → b ≠ zp → b ≠ j1 → b ≠ j2 → kq b o → h'.get? b = some o) → R (.ok (.ret res)) { s with heap := h' }) :
    ∀ (k i : Nat) (h : Heap) (pr : Addr) (fl : Bool) (op : Obj) (as : List Addr) (c : Nat), n - i = k → i ≤ n → as.length = i → IsZipHeld h zp ta to' pr fl → h.get? pr = some op → pr ≠ zp → pr ≠ j1 → pr ≠ j2 → pr ≠ S → IsPair h ta (.ref j1) (.ref j2) →
      h.IsTupleIter j1 m1 i → h.IsTupleIter j2 m2 i → h.IsTuple m1 xs → h.IsTuple m2 ys → PairsAt h xs ys as → (∀ a ∈ as, bsz ≤ a ∧ a < h.objs.size ∧ a ≠ S ∧ a ≠ zp ∧ a ≠ j1 ∧ a ≠ j2) → as.Nodup → bsz ≤ h.objs.size →
      h.get? S = some { cls := .type "list", dict := none, data := .seq (as.map Value.ref).toArray c, slots := #[] } →
      (∀ b o, b ≠ S → b ≠ zp → b ≠ j1 → b ≠ j2 → kq b o → h.get? b = some o) →
      codeAny (model prog w) A (.builtin "list.extend.loop" ⟨[.ref S, .ref zp, res], []⟩) R { s with heap := h } := by
  obtain ⟨s1, s2, s3, s4, s5, s6⟩ := nS
  intro k
  induction k with
  | zero =>
    intro i h pr fl op as c hk hi la zz hp p1 p2 p3 p4 zi a1 a2 b1 b2 pa aa nd bs hS kp
    have ein : i = n := by omega
    refine codeAny_builtin PySem.F.entry_extend_loop ?_
    rw [Around.under_plainId PySem.F.plain_extend_loop _]
    show wpAny _ A.in1 (pyNext (.ref zp) >>= _) _ _ _
    refine wpAny_bind (tz_pyNext_end (s := { s with heap := h }) (A := A.in1) calm ap zz hp zi a1 a2 b1 b2 ?_ fun h' k2 => ?_)
    · by_cases q : xs.size ≤ i
      · exact .inl (Array.getElem?_eq_none q)
      · exact .inr (Array.getElem?_eq_none (by omega))
    · refine wpAny_pure (want h' as c (by omega) (fun j a e => ?_) (fun a ha => (aa a ha).1) nd (k2 S _ s1 s2 s3 hS) fun b o n1 n2 n3 n4 e => k2 b o n2 n3 n4 (kp b o n1 n2 n3 n4 e))
      obtain ⟨x, y, e1, e2, e3⟩ := pa j a e
      obtain ⟨_, _, _, q2, q3, q4⟩ := aa a (List.mem_of_getElem? e)
      exact ⟨x, y, e1, e2, k2 a _ q2 q3 q4 e3⟩
  | succ k ih =>
    intro i h pr fl op as c hk hi la zz hp p1 p2 p3 p4 zi a1 a2 b1 b2 pa aa nd bs hS kp
    have lt1 : i < xs.size := by omega
    have lt2 : i < ys.size := by omega
    refine codeAny_builtin PySem.F.entry_extend_loop ?_
    rw [Around.under_plainId PySem.F.plain_extend_loop _]
    show wpAny _ A.in1 (pyNext (.ref zp) >>= _) _ _ _
    refine wpAny_bind (tz_pyNext_item (s := { s with heap := h }) (A := A.in1) ap zz hp zi a1 a2 b1 b2 (Array.getElem?_eq_getElem lt1) (Array.getElem?_eq_getElem lt2) fun h' r1 r2 r3 r4 r5 r6 => ?_)
    dsimp only at r4 r5 r6 ⊢
    have hS' := r6 S _ s1 s2 s3 hS
    show wpAny _ A.in1 (updateSeq S (·.push (Value.ref h.objs.size)) >>= _) _ _ _
    refine wpAny_bind (wpAny_updateSeq (hz := ?_) hS' rfl (wpAny_pure ⟨plainId_quiet PySem.F.plain_extend_loop _, ?_⟩))
    · have up : ∀ b o, b ≠ S → h'.get? b = some o → (h'.update S (Obj.mapSeq (·.push (Value.ref h.objs.size)))).get? b = some o := fun b o nb e => (Heap.get?_update_other _ _ (Ne.symm nb)).trans e
      have hSlt : S < h.objs.size := Heap.lt_size hS
      have fresh : ∀ b o, h.get? b = some o → b ≠ h.objs.size := fun b o e => Nat.ne_of_lt (Heap.lt_size e)
      have self := Heap.get?_update_self (Obj.mapSeq (·.push (Value.ref h.objs.size))) hS' rfl
      have self2 : ∃ c', (h'.update S (Obj.mapSeq (·.push (Value.ref h.objs.size)))).get? S = some { cls := .type "list", dict := none, data := .seq ((as ++ [h.objs.size]).map Value.ref).toArray c', slots := #[] } := by
        rw [self]
        simp [Obj.mapSeq]
      obtain ⟨c', self2⟩ := self2
      have usz : (h'.update S (Obj.mapSeq (·.push (Value.ref h.objs.size)))).objs.size = h.objs.size + 1 := by rw [Heap.size_update, r5]
      obtain ⟨o1, e1, f1⟩ := r2
      obtain ⟨o2, e2, f2⟩ := r3
      obtain ⟨o3, e3, f3⟩ := b1
      obtain ⟨o4, e4, f4⟩ := b2
      have nz := fresh zp _ zz
      refine ih (i + 1) _ pr true op (as ++ [h.objs.size]) c' (by omega) (by omega) (by rw [List.length_append, la]; rfl) (up _ _ (Ne.symm s1) r1) (up _ _ p4 (r6 _ _ p1 p2 p3 hp)) p1 p2 p3 p4 (up _ _ (Ne.symm s4) (r6 _ _ ap.TIz ap.TIi1 ap.TIi2 zi))
        ⟨o1, up _ _ (Ne.symm s2) e1, f1⟩ ⟨o2, up _ _ (Ne.symm s3) e2, f2⟩ ⟨o3, up _ _ (Ne.symm s5) (r6 _ _ ap.l1z ap.l1i1 ap.l1i2 e3), f3⟩ ⟨o4, up _ _ (Ne.symm s6) (r6 _ _ ap.l2z ap.l2i1 ap.l2i2 e4), f4⟩ ?_ ?_ ?_ (show bsz ≤ (h'.update S (Obj.mapSeq (·.push (Value.ref h.objs.size)))).objs.size by rw [usz]; omega) self2 fun b o n1 n2 n3 n4 e => up b o n1 (r6 b o n2 n3 n4 (kp b o n1 n2 n3 n4 e))
      · intro j a e
        by_cases q : j < as.length
        · rw [List.getElem?_append_left q] at e
          obtain ⟨x, y, g1, g2, g3⟩ := pa j a e
          obtain ⟨_, _, n1, n2, n3, n4⟩ := aa a (List.mem_of_getElem? e)
          exact ⟨x, y, g1, g2, up _ _ n1 (r6 _ _ n2 n3 n4 g3)⟩
        · have ej : j = i := by
            have := (List.getElem?_eq_some_iff.mp e).1
            rw [List.length_append, List.length_singleton] at this
            omega
          subst ej
          rw [List.getElem?_append_right (by omega), la, Nat.sub_self] at e
          cases e
          exact ⟨_, _, Array.getElem?_eq_getElem lt1, Array.getElem?_eq_getElem lt2, up _ _ (Nat.ne_of_gt hSlt) r4⟩
      · intro a ha
        rcases List.mem_append.mp ha with q | q
        · obtain ⟨m0, m1', n1, n2, n3, n4⟩ := aa a q
          exact ⟨m0, show a < (h'.update S (Obj.mapSeq (·.push (Value.ref h.objs.size)))).objs.size by rw [usz]; exact Nat.lt_succ_of_lt m1', n1, n2, n3, n4⟩
        · rw [List.mem_singleton.mp q]
          obtain ⟨_, y1, _⟩ := a1
          obtain ⟨_, y2, _⟩ := a2
          exact ⟨bs, show h.objs.size < (h'.update S (Obj.mapSeq (·.push (Value.ref h.objs.size)))).objs.size by rw [usz]; omega, Nat.ne_of_gt hSlt, Ne.symm nz, Ne.symm (fresh _ _ y1), Ne.symm (fresh _ _ y2)⟩
      · refine List.nodup_append.mpr ⟨nd, by simp, fun a ha b hb e => ?_⟩
        rw [List.mem_singleton.mp hb] at e
        exact Nat.ne_of_lt (aa a ha).2.1 e
    · rw [List.size_toArray, List.length_map]
      omega
end
end My

namespace My
open PySem PySem.Spec PyProof.Rows L2
theorem zip_len0 : typeLookup (.type "zip") "__len__" = pure none := am_miss_of_fast (by decide +kernel)
theorem zip_hint0 : typeLookup (.type "zip") "__length_hint__" = pure none := am_miss_of_fast (by decide +kernel)
section
variable {prog : Program} {w : World} {A : Around} {s : Shared} {R : Result → Shared → Prop}
theorem tz_extend {zp ta to' j1 j2 m1 m2 S : Addr} {xs ys : Array Value} {n c0 : Nat} {res va vb : Value} (calm : A.handled = none) (ap : ZipApart zp ta to' j1 j2 m1 m2) (hn : n = min xs.size ys.size) (hz : n ≤ sizeLine)
    (nS : S ≠ zp ∧ S ≠ j1 ∧ S ≠ j2 ∧ S ≠ ta ∧ S ≠ m1 ∧ S ≠ m2 ∧ S ≠ to') (zz : IsZip s.heap zp ta to' .none) (zi : IsPair s.heap ta (.ref j1) (.ref j2)) (zo : IsPair s.heap to' va vb)
    (a1 : s.heap.IsTupleIter j1 m1 0) (a2 : s.heap.IsTupleIter j2 m2 0) (b1 : s.heap.IsTuple m1 xs) (b2 : s.heap.IsTuple m2 ys) (hS : s.heap.get? S = some { cls := .type "list", data := .seq #[] c0 })
    (want : ∀ h' as c, as.length = n → PairsAt h' xs ys as → (∀ a ∈ as, s.heap.objs.size ≤ a) → as.Nodup → h'.get? S = some { cls := .type "list", dict := none, data := .seq (as.map Value.ref).toArray c, slots := #[] } →
      (∀ b o, b ≠ S → b ≠ zp → b ≠ j1 → b ≠ j2 → b ≠ to' → s.heap.get? b = some o → h'.get? b = some o) → R (.ok (.ret res)) { s with heap := h' }) :
    wpAny (model prog w) A.in1 (Builtin.List.listExtendWith (.ref S) (.ref zp) res)
      (fun fin s' => match fin with | .done f => R (.ok f) s' | .again c' => c'.quiet = true ∧ codeAny (model prog w) A c' R s') (fun e s' => R (.error e) s') s := by
  have ty : s.TypeIs (.ref zp) "zip" := ⟨_, zz, rfl⟩
  unfold Builtin.List.listExtendWith
  refine wpAny_bind (wpAny_typeOf ty ?_)
  have h1 : Builtin.List.listSameRef (.ref S) (.ref zp) = false := by simp [Builtin.List.listSameRef, nS.1]
  have h2 : (Value.type "zip" == Value.type "list") = false := by decide
  have h3 : (Value.type "zip" == Value.type "tuple") = false := by decide
  simp only [h1, h2, h3, Bool.or_false, Bool.false_eq_true, if_false]
  refine wpAny_bind (wpAny_pyIter_zip zz ?_)
  refine wpAny_bind (wpAny_holding ?_)
  unfold Builtin.List.listLengthHint
  refine wpAny_bind (wpAny_specialOf ty zip_len0 ?_)
  show wpAny _ A.in1 (specialOf (Value.ref zp) (Str.ofString "__length_hint__") >>= _) _ _ _
  refine wpAny_bind (wpAny_specialOf ty zip_hint0 ?_)
  refine wpAny_pure ?_
  simp only [Bool.true_or, if_true]
  refine wpAny_bind (wpAny_rule ?_)
  refine wpAny_bind ?_
  show wpAny _ A.in1 (updateSeq S (·.push .none) >>= fun _ => updateSeq S (·.pop)) _ _ _
  refine wpAny_bind (wpAny_updateSeq hS rfl ?_)
  have hS2 := Heap.get?_update_self (Obj.mapSeq (·.push Value.none)) hS rfl
  refine wpAny_updateSeq (hz := by seq_fits) hS2 rfl ?_
  have hS3 := Heap.get?_update_self (Obj.mapSeq (·.pop)) hS2 rfl
  have far : ∀ b o, b ≠ S → s.heap.get? b = some o → ((s.heap.update S (Obj.mapSeq (·.push Value.none))).update S (Obj.mapSeq (·.pop))).get? b = some o :=
    fun b o nb e => (Heap.get?_update_other _ _ (Ne.symm nb)).trans ((Heap.get?_update_other _ _ (Ne.symm nb)).trans e)
  have hsz : ((s.heap.update S (Obj.mapSeq (·.push Value.none))).update S (Obj.mapSeq (·.pop))).objs.size = s.heap.objs.size := by rw [Heap.size_update, Heap.size_update]
  have hS4 : ∃ c, ((s.heap.update S (Obj.mapSeq (·.push Value.none))).update S (Obj.mapSeq (·.pop))).get? S = some { cls := .type "list", dict := none, data := .seq #[] c, slots := #[] } := by
    rw [hS3]
    simp [Obj.mapSeq]
  obtain ⟨c4, hS4⟩ := hS4
  obtain ⟨n1, n2, n3, n4, n5, n6, n7⟩ := nS
  have zz' := far _ _ (Ne.symm n1) zz
  have zi' := far _ _ (Ne.symm n4) zi
  have zo' := far _ _ (Ne.symm n7) zo
  have mv : ∀ {b o}, b ≠ S → s.heap.get? b = some o → _ := fun {b o} nb e => far b o nb e
  obtain ⟨o1, e1, f1⟩ := a1
  obtain ⟨o2, e2, f2⟩ := a2
  obtain ⟨o3, e3, f3⟩ := b1
  obtain ⟨o4, e4, f4⟩ := b2
  have e1' := far _ _ (Ne.symm n2) e1
  have e2' := far _ _ (Ne.symm n3) e2
  have e3' := far _ _ (Ne.symm n5) e3
  have e4' := far _ _ (Ne.symm n6) e4
  generalize (s.heap.update S (Obj.mapSeq (·.push Value.none))).update S (Obj.mapSeq (·.pop)) = g at *
  refine wpAny_pure ⟨plainId_quiet PySem.F.plain_extend_loop _, ?_⟩
  refine codeAny_builtin PySem.F.entry_extend_loop ?_
  rw [Around.under_plainId PySem.F.plain_extend_loop _]
  show wpAny _ A.in1 (pyNext (.ref zp) >>= _) _ _ _
  by_cases hn0 : n = 0
  · refine wpAny_bind (RZ.pyNext_zipT_end (s := { s with heap := g }) (A := A.in1) calm ap zz' zi' zo' ⟨o1, e1', f1⟩ ⟨o2, e2', f2⟩ ⟨o3, e3', f3⟩ ⟨o4, e4', f4⟩ ?_ fun h' kp => ?_)
    · by_cases q : xs.size = 0
      · exact .inl (Array.getElem?_eq_none (by omega))
      · exact .inr (Array.getElem?_eq_none (by omega))
    · refine wpAny_pure (want h' [] c4 (by rw [hn0]; rfl) (fun j a e => by simp at e) (fun a h => by simp at h) .nil (kp S _ n1 n7 n2 n3 hS4) fun b o m1 m2 m3 m4 m5 e => kp b o m2 m5 m3 m4 (far b o m1 e))
  · have lt1 : 0 < xs.size := by omega
    have lt2 : 0 < ys.size := by omega
    refine wpAny_bind (RZ.pyNext_zipT_item (s := { s with heap := g }) (A := A.in1) ap zz' zi' zo' ⟨o1, e1', f1⟩ ⟨o2, e2', f2⟩ ⟨o3, e3', f3⟩ ⟨o4, e4', f4⟩ (Array.getElem?_eq_getElem lt1) (Array.getElem?_eq_getElem lt2) fun h' r1 r2 r3 r4 r5 r6 r7 => ?_)
    have hS5 := r7 S _ n1 n7 n2 n3 hS4
    have up : ∀ b o, b ≠ S → h'.get? b = some o → (h'.update S (Obj.mapSeq (·.push (Value.ref g.objs.size)))).get? b = some o := fun b o nb e => (Heap.get?_update_other _ _ (Ne.symm nb)).trans e
    have self := Heap.get?_update_self (Obj.mapSeq (·.push (Value.ref g.objs.size))) hS5 rfl
    have self2 : ∃ c', (h'.update S (Obj.mapSeq (·.push (Value.ref g.objs.size)))).get? S = some { cls := .type "list", dict := none, data := .seq ([g.objs.size].map Value.ref).toArray c', slots := #[] } := by
      rw [self]
      simp [Obj.mapSeq]
    obtain ⟨c5, self2⟩ := self2
    have usz : (h'.update S (Obj.mapSeq (·.push (Value.ref g.objs.size)))).objs.size = g.objs.size + 1 := by rw [Heap.size_update, r6]
    have gS : S ≠ g.objs.size := Nat.ne_of_lt (Heap.lt_size hS4)
    have gz : zp ≠ g.objs.size := Nat.ne_of_lt (Heap.lt_size zz')
    have g1' : j1 ≠ g.objs.size := Nat.ne_of_lt (Heap.lt_size e1')
    have g2' : j2 ≠ g.objs.size := Nat.ne_of_lt (Heap.lt_size e2')
    obtain ⟨p1, y1, w1⟩ := r3
    obtain ⟨p2, y2, w2⟩ := r4
    show wpAny _ A.in1 (updateSeq S (·.push (Value.ref g.objs.size)) >>= _) _ _ _
    refine wpAny_bind (wpAny_updateSeq hS5 rfl (wpAny_pure ⟨plainId_quiet PySem.F.plain_extend_loop _, ?_⟩))
    refine tz_loop (s := s) (bsz := s.heap.objs.size) (kq := fun b o => b ≠ to' ∧ s.heap.get? b = some o) calm ap hn hz ⟨n1, n2, n3, n4, n5, n6⟩ (fun h2 as c q1 q2 q3 q4 q5 q6 => want h2 as c q1 q2 q3 q4 q5 fun b o m1 m2 m3 m4 m5 e => q6 b o m1 m2 m3 m4 ⟨m5, e⟩)
      (n - 1) 1 (h'.update S (Obj.mapSeq (·.push (Value.ref g.objs.size)))) g.objs.size false _ [g.objs.size] c5 rfl (by omega) rfl (up _ _ (Ne.symm n1) r1) (up _ _ (Ne.symm gS) r5) (Ne.symm gz) (Ne.symm g1') (Ne.symm g2') (Ne.symm gS) (up _ _ (Ne.symm n4) (r7 _ _ ap.TIz ap.TITO ap.TIi1 ap.TIi2 zi'))
      ⟨p1, up _ _ (Ne.symm n2) y1, w1⟩ ⟨p2, up _ _ (Ne.symm n3) y2, w2⟩ ⟨o3, up _ _ (Ne.symm n5) (r7 _ _ ap.l1z ap.l1TO ap.l1i1 ap.l1i2 e3'), f3⟩ ⟨o4, up _ _ (Ne.symm n6) (r7 _ _ ap.l2z ap.l2TO ap.l2i1 ap.l2i2 e4'), f4⟩ ?_ ?_ (by simp) ?_ self2 ?_
    · intro j a e
      cases j with
      | zero => cases e; exact ⟨_, _, Array.getElem?_eq_getElem lt1, Array.getElem?_eq_getElem lt2, up _ _ (Ne.symm gS) r5⟩
      | succ j => simp at e
    · intro a ha
      rw [List.mem_singleton.mp ha]
      exact ⟨Nat.le_of_eq hsz.symm, by rw [usz]; exact Nat.lt_succ_self _, Ne.symm gS, Ne.symm gz, Ne.symm g1', Ne.symm g2'⟩
    · rw [usz, hsz]; exact Nat.le_succ _
    · rintro b o m1 m2 m3 m4 ⟨m5, e⟩
      exact up b o m1 (r7 b o m2 m5 m3 m4 (far b o m1 e))
end
section
variable {prog : Program} {w : World} {A : Around} {E : Value → Shared → Prop} {s : Shared}
/-- list(z), z a zip of two tuples that has not begun -/
theorem tz_list {zp ta to' j1 j2 m1 m2 : Addr} {xs ys : Array Value} {n : Nat} {va vb : Value} {Q : Value → Shared → Prop} (calm : A.handled = none) (ap : ZipApart zp ta to' j1 j2 m1 m2) (hn : n = min xs.size ys.size) (hz : n ≤ sizeLine)
    (zz : IsZip s.heap zp ta to' .none) (zi : IsPair s.heap ta (.ref j1) (.ref j2)) (zo : IsPair s.heap to' va vb)
    (a1 : s.heap.IsTupleIter j1 m1 0) (a2 : s.heap.IsTupleIter j2 m2 0) (b1 : s.heap.IsTuple m1 xs) (b2 : s.heap.IsTuple m2 ys)
    (want : ∀ h' as c, as.length = n → PairsAt h' xs ys as → (∀ a ∈ as, s.heap.objs.size < a) → as.Nodup → h'.get? s.heap.objs.size = some { cls := .type "list", dict := none, data := .seq (as.map Value.ref).toArray c, slots := #[] } →
      (∀ b o, b ≠ zp → b ≠ j1 → b ≠ j2 → b ≠ to' → s.heap.get? b = some o → h'.get? b = some o) → Q (.ref s.heap.objs.size) { s with heap := h' }) :
    wpAny (model prog w) A (call (.type "list") [.ref zp]) Q E s := by
  have below : ∀ b o, s.heap.get? b = some o → b < s.heap.objs.size := fun b o e => Heap.lt_size e
  refine callType_codes (Q₁ := fun obj s₁ => obj = .ref s.heap.objs.size ∧ s₁ = { s with heap := s.heap.push { cls := .type "list", data := .seq #[] } }) F.called_list (F.typeCall_list_1 _) F.entry_list_init
    (code_list_new _ ⟨rfl, rfl⟩) fun obj t ht => ?_
  obtain ⟨rfl, rfl⟩ := ht
  have hS : (s.heap.push { cls := .type "list", data := .seq #[] }).get? s.heap.objs.size = some { cls := .type "list", data := .seq #[] } := Heap.get?_push_size _ rfl
  refine ⟨⟨_, hS, rfl⟩, F.args_list_init_2 _ _, ?_⟩
  show wpAny _ _ (do let old ← Builtin.List.listItems (.ref s.heap.objs.size); Builtin.List.listUpdate (.ref s.heap.objs.size) (fun _ => #[]); letGo old.toList.reverse; Builtin.List.listExtendWith (.ref s.heap.objs.size) (.ref zp) .none) _ _ _
  refine wpAny_bind ?_
  unfold Builtin.List.listItems
  refine wpAny_bind (wpAny_seqItems hS rfl (wpAny_pure ?_))
  show wpAny _ _ (updateSeq s.heap.objs.size (fun _ => #[]) >>= fun _ => letGo (#[] : Array Value).toList.reverse >>= fun _ => Builtin.List.listExtendWith (.ref s.heap.objs.size) (.ref zp) .none) _ _ _
  refine wpAny_bind (wpAny_updateSeq hS rfl ?_)
  have self := Heap.get?_update_self (Obj.mapSeq (fun _ => (#[] : Array Value))) hS rfl
  have up : ∀ b o, s.heap.get? b = some o → ((s.heap.push { cls := .type "list", data := .seq #[] }).update s.heap.objs.size (Obj.mapSeq (fun _ => (#[] : Array Value)))).get? b = some o :=
    fun b o e => (Heap.get?_update_other _ _ (Nat.ne_of_gt (below b o e))).trans (Heap.get?_push_of_some _ e)
  have usz : ((s.heap.push { cls := .type "list", data := .seq #[] }).update s.heap.objs.size (Obj.mapSeq (fun _ => (#[] : Array Value)))).objs.size = s.heap.objs.size + 1 := by rw [Heap.size_update, Heap.size_push]
  have self2 : ∃ c, ((s.heap.push { cls := .type "list", data := .seq #[] }).update s.heap.objs.size (Obj.mapSeq (fun _ => (#[] : Array Value)))).get? s.heap.objs.size = some { cls := .type "list", data := .seq #[] c } := by
    rw [self]
    simp [Obj.mapSeq]
  obtain ⟨c0, self2⟩ := self2
  obtain ⟨p1, y1, w1⟩ := a1
  obtain ⟨p2, y2, w2⟩ := a2
  obtain ⟨p3, y3, w3⟩ := b1
  obtain ⟨p4, y4, w4⟩ := b2
  have ne : ∀ {b o}, s.heap.get? b = some o → s.heap.objs.size ≠ b := fun {b o} e => Nat.ne_of_gt (below b o e)
  refine wpAny_bind (wpAny_letGo ?_)
  generalize hg : (s.heap.push { cls := .type "list", data := .seq #[] }).update s.heap.objs.size (Obj.mapSeq (fun _ => (#[] : Array Value))) = g at *
  refine tz_extend (A := A.in1) (s := { s with heap := g }) (S := s.heap.objs.size) calm ap hn hz ⟨ne zz, ne y1, ne y2, ne zi, ne y3, ne y4, ne zo⟩ (up _ _ zz) (up _ _ zi) (up _ _ zo) ⟨p1, up _ _ y1, w1⟩ ⟨p2, up _ _ y2, w2⟩ ⟨p3, up _ _ y3, w3⟩ ⟨p4, up _ _ y4, w4⟩ self2 ?_
  intro h' as c q1 q2 q3 q4 q5 q6
  refine ⟨rfl, want h' as c q1 q2 (fun a ha => ?_) q4 q5 fun b o m2 m3 m4 m5 e => q6 b o (Nat.ne_of_lt (below b o e)) m2 m3 m4 m5 (up b o e)⟩
  have := q3 a ha
  have e2 : g.objs.size = s.heap.objs.size + 1 := usz
  have : g.objs.size ≤ a := this
  omega
end
end My

namespace My
open PySem PySem.Spec PyProof.Rows L2
/-- many new objects at once -/
theorem inv_many {X : Cx} {pins : List (Addr × Obj)} {σ : L2.St} {H H' : Hp} {s : Shared} {h' : Heap} {t' : Nat} (I : Inv X pins σ H s) (k : ∀ b u, s.heap.get? b = some u → h'.get? b = some u) (low : ∀ b, b < s.heap.objs.size → H' b = H b)
    (new : ∀ b u, s.heap.objs.size ≤ b → H' b = some u → ObjOk X.prog X.w H' h' b u) : Inv X pins σ H' { s with heap := h', toks := t' } := by
  have old : ∀ b o, H b = some o → H' b = some o := fun b o e => by
    by_cases q : b < s.heap.objs.size
    · rw [low b q]; exact e
    · rw [I.hok.fresh (Nat.le_of_not_lt q)] at e; cases e
  refine I.un ⟨fun b u q _ _ _ => k b u q, fun b u q _ _ _ => ⟨u.slots, k b u q⟩, fun b u q n _ => ?_, fun b u q _ => ⟨u, k b u q⟩, fun b xs q => old _ _ q, fun b u xs q => old _ _ q, fun b ps q => ⟨#[], by rw [old _ _ q]; simp⟩⟩ fun b u e => ?_
  · rw [low b (Heap.lt_size q)]; exact n
  · by_cases q : b < s.heap.objs.size
    · rw [low b q] at e
      exact (I.hok b u e).stay (fun c v _ z => k c v z) (fun c z => old _ _ z) fun c xs z => old _ _ z
    · exact new b u (Nat.le_of_not_lt q) e
end My

namespace My
open PySem PySem.Spec PyProof.Rows L2
/-! ### list(zip(a, b)), a and b tuples -/
/-- the pairs, laid one behind the other -/
def layP (H : Hp) : List Addr → List V → List V → Hp
  | a :: as, x :: xs, y :: ys => layP (upd H a (.tup [x, y])) as xs ys
  | _, _, _ => H
theorem layP_ne : ∀ {as : List Addr} {xs ys : List V} {H : Hp} {b : Addr}, b ∉ as → layP H as xs ys b = H b
  | [], _, _, _, _, _ => by unfold layP; rfl
  | a :: as, [], _, _, _, _ => by unfold layP; rfl
  | a :: as, x :: xs, [], _, _, _ => by unfold layP; rfl
  | a :: as, x :: xs, y :: ys, H, b, n => by
    unfold layP
    rw [layP_ne (fun m => n (List.mem_cons_of_mem _ m)), upd_ne (fun z => n (by rw [z]; exact List.mem_cons_self))]
theorem layP_at : ∀ {as : List Addr} {xs ys : List V} {H : Hp} {j : Nat} {a : Addr} {x y : V}, as.Nodup → as[j]? = some a → xs[j]? = some x → ys[j]? = some y → layP H as xs ys a = some (.tup [x, y])
  | [], _, _, _, _, _, _, _, _, e, _, _ => by simp at e
  | b :: as, [], _, _, j, _, _, _, _, _, e, _ => by simp at e
  | b :: as, x :: xs, [], _, j, _, _, _, _, _, _, e => by simp at e
  | b :: as, x :: xs, y :: ys, H, 0, a, x', y', nd, e1, e2, e3 => by
    simp at e1 e2 e3
    subst e1 e2 e3
    unfold layP
    rw [layP_ne (List.nodup_cons.mp nd).1, upd_same]
  | b :: as, x :: xs, y :: ys, H, j + 1, a, x', y', nd, e1, e2, e3 => by
    unfold layP
    exact layP_at (List.nodup_cons.mp nd).2 (by simpa using e1) (by simpa using e2) (by simpa using e3)
theorem layP_of : ∀ {as : List Addr} {xs ys : List V} {H : Hp} {b : Addr} {u : HO}, as.Nodup → layP H as xs ys b = some u → H b = some u ∨ ∃ (j : Nat) (x y : V), as[j]? = some b ∧ xs[j]? = some x ∧ ys[j]? = some y ∧ u = .tup [x, y]
  | [], _, _, _, _, _, _, e => .inl (by unfold layP at e; exact e)
  | a :: as, [], _, _, _, _, _, e => .inl (by unfold layP at e; exact e)
  | a :: as, x :: xs, [], _, _, _, _, e => .inl (by unfold layP at e; exact e)
  | a :: as, x :: xs, y :: ys, H, b, u, nd, e => by
    unfold layP at e
    rcases layP_of (List.nodup_cons.mp nd).2 e with h | ⟨j, x', y', h1, h2, h3, h4⟩
    · by_cases z : b = a
      · subst z
        rw [upd_same] at h
        cases h
        exact .inr ⟨0, x, y, rfl, rfl, rfl, rfl⟩
      · rw [upd_ne z] at h
        exact .inl h
    · exact .inr ⟨j + 1, x', y', by simpa using h1, by simpa using h2, by simpa using h3, h4⟩
theorem Reps.of_idx {W : Wd} {ι : Lay} {H : Hp} : ∀ {ds : List D} {vs : List V}, ds.length = vs.length → (∀ (j : Nat) (d : D) (v : V), ds[j]? = some d → vs[j]? = some v → Rep W ι H d v) → Reps W ι H ds vs
  | [], [], _, _ => Reps.nil
  | [], _ :: _, h, _ => by simp at h
  | _ :: _, [], h, _ => by simp at h
  | d :: ds, v :: vs, h, k => Reps.cons (k 0 d v rfl rfl) (Reps.of_idx (by simpa using h) fun j d' v' e1 e2 => k (j + 1) d' v' (by simpa using e1) (by simpa using e2))
theorem vals_refs : ∀ as : List Addr, Vals (as.map V.ref) (as.map Value.ref)
  | [] => .nil
  | _ :: as => .cons rfl (vals_refs as)
section
variable {X : Cx} {W : Wd} {e e2 : Expr} {p p2 pos pos2 : Pos} {ma mb : EM}
theorem j_lz (hK : X.K = W.K) (hgl : Gl X "list") (hml : X.mg "list" = none) (hg : Gl X "zip") (hm : X.mg "zip" = none) (ha : PE X e (T W ma)) (hb : PE X e2 (T W mb)) (hc : X.calm = true := by rfl)
    (hs : starEach [e, e2] X.env = (false, eval e X.env) :: starEach [e2] X.env := by rfl) (hs2 : starEach [e2] X.env = [(false, eval e2 X.env)] := by rfl) (hpl : (backTo pos2 (starEach [e2] X.env)).any (·.1) = false := by rfl)
    (ho : starEach [.Call (.Name "zip" p2) [e, e2] [] pos2] X.env = (false, eval (.Call (.Name "zip" p2) [e, e2] [] pos2) X.env) :: starEach [] X.env := by rfl) :
    PE X (.Call (.Name "list" p) [.Call (.Name "zip" p2) [e, e2] [] pos2] [] pos) (T W (eLz ma mb)) := by
  refine ⟨fun pins s σ H Q I ⟨ι, st, env, d, st', r, n, q, k⟩ => ?_⟩
  unfold eLz at q
  split at q
  · rename_i dx s1 e1
    split at q
    · rename_i dy s2 e2'
      split at q
      · rename_i xs ys hx hy
        split at q
        · rename_i hz
          cases q
          refine Call_ (ld_blt I hgl hml PyProof.Rows.boot_list (PyProof.Rows.callWith_type1 ?_ ho rfl))
          rw [ho]
          show wpAny _ _ (spliced ((false, eval (.Call (.Name "zip" p2) [e, e2] [] pos2) X.env) :: backTo pos (starEach [] X.env))) _ _ s
          refine Calls.spliced_cons ?_
          refine Call_ (ld_blt I hg hm PyProof.Rows.boot_zip (PyProof.Rows.callWith_type1 (thn ((ja_cons ha (ja_cons hb ja_nil hs2) hs).run pos2 pins s σ H _ I (TA.of r n (d := [dx, dy]) (st' := st') (by unfold aCons; rw [e1]; dsimp only; rw [e2']; rfl) fun vs ι1 H1 g1 r1 p1 => ⟨ι1, rfl, g1, r1, p1⟩ : TAs W _ σ H fun vs H1 => ∃ ι1, True = True ∧ Grow ι H ι1 H1 ∧ RelH W ι1 H1 st' ∧ Reps W ι1 H1 [dx, dy] vs)) fun us sA ⟨vs, H1, I1, rr, ι1, _, g1, r1, p1⟩ => ?_) hs hpl))
          obtain ⟨v, u, rfl, hv, hu⟩ := reps2 p1
          cases dx <;> simp only [seqT] at hx <;> try cases hx
          cases dy <;> simp only [seqT] at hy <;> try cases hy
          simp only [Rep] at hv hu
          obtain ⟨a, rfl, va, ea, ra⟩ := hv
          obtain ⟨b, rfl, vb, eb, rb⟩ := hu
          obtain ⟨its, rv, pa, _⟩ := I1.tuple (.inl (.inl ea))
          obtain ⟨its2, rv2, pb, _⟩ := I1.tuple (.inl (.inl eb))
          have la := ra.length
          have lb := rb.length
          have lv := rv.length
          have lv2 := rv2.length
          have lz : (zipped xs ys).length = min xs.length ys.length := by unfold zipped; rw [List.length_zipWith]
          obtain ⟨o1, ho1, w1⟩ := id pa
          obtain ⟨o2, ho2, w2⟩ := id pb
          have us2 : us = [Value.ref a, Value.ref b] := by
            cases rr with
            | cons r' rr =>
              cases rr with
              | cons r'' rr =>
                cases rr
                cases r'
                cases r''
                rfl
          subst us2
          refine RZ.call_zipT (show sA.heap.IsTuple a its.toArray from pa) (show sA.heap.IsTuple b its2.toArray from pb) fun h' hz' hTI hTO h1 h2 hsz hk => ?_
          refine Calls.spliced_nil ?_
          refine tz_list (s := { sA with heap := h' }) (n := min its.toArray.size its2.toArray.size) (I1.ok.hd hc) (PySem.W.ktu_apart sA.heap.objs.size a b (Heap.lt_size ho1) (Heap.lt_size ho2)) rfl (by simp only [List.size_toArray]; omega) hz' hTI hTO h1 h2 ⟨_, hk _ _ ho1, w1⟩ ⟨_, hk _ _ ho2, w2⟩ fun h'' as c q1 q2 q3 q4 q5 q6 => ?_
          have lA : as.length = min xs.length ys.length := by rw [q1]; simp only [List.size_toArray]; omega
          obtain ⟨L, hL⟩ : ∃ L, L = sA.heap.objs.size + 5 := ⟨_, rfl⟩
          have hLs : h'.objs.size = L := hsz.trans hL.symm
          have q3 : ∀ a ∈ as, L < a := fun a m => by
            have z := q3 a m
            rw [← hLs]
            exact z
          have q5 : h''.get? L = some { cls := .type "list", dict := none, data := .seq (as.map Value.ref).toArray c, slots := #[] } := by
            rw [← hLs]
            exact q5
          show EP X pins σ Q (.ref h'.objs.size) _
          rw [hLs]
          have hle : sA.heap.objs.size ≤ L := by rw [hL]; exact Nat.le_add_right _ _
          have old : ∀ {b' : Addr}, b' < sA.heap.objs.size → b' ∉ as ∧ b' ≠ L := fun {b'} hb' => ⟨fun m => Nat.lt_irrefl _ (Nat.lt_trans (q3 _ m) (Nat.lt_of_lt_of_le hb' hle)), Nat.ne_of_lt (Nat.lt_of_lt_of_le hb' hle)⟩
          have nL : L ∉ as := fun m => Nat.lt_irrefl _ (q3 _ m)
          have low : ∀ b', b' < sA.heap.objs.size → upd (layP H1 as va vb) L (.lst (as.map V.ref)) b' = H1 b' := fun b' hb' => by
            rw [upd_ne (old hb').2, layP_ne (old hb').1]
          have sm : Same H1 (upd (layP H1 as va vb) L (.lst (as.map V.ref))) := fun b' o eo => by
            by_cases hb' : b' < sA.heap.objs.size
            · rw [low b' hb']; exact eo
            · rw [I1.hok.fresh (Nat.le_of_not_lt hb')] at eo; cases eo
          have lz' : as.length ≤ sizeLine := by omega
          have IN : Inv X pins σ (upd (layP H1 as va vb) L (.lst (as.map V.ref))) { sA with heap := h'', toks := sA.toks } := by
            refine inv_many I1 (fun b' u hu' => ?_) low (fun b' u hb' eu => ?_)
            · have hlu := Heap.lt_size hu'
              exact q6 b' u (Nat.ne_of_lt (Nat.lt_of_lt_of_le hlu (Nat.le_add_right _ _))) (Nat.ne_of_lt hlu) (Nat.ne_of_lt (Nat.lt_of_lt_of_le hlu (Nat.le_add_right _ _))) (Nat.ne_of_lt (Nat.lt_of_lt_of_le hlu (Nat.le_add_right _ _))) (hk b' u hu')
            · by_cases z : b' = L
              · subst z
                rw [upd_same] at eu
                cases eu
                exact ⟨by simpa using lz', as.map Value.ref, c, vals_refs as, q5⟩
              · rw [upd_ne z] at eu
                rcases layP_of q4 eu with h3 | ⟨j, x, y, f1, f2, f3, rfl⟩
                · rw [I1.hok.fresh hb'] at h3; cases h3
                · obtain ⟨x', y', f4, f5, f6⟩ := q2 j b' f1
                  obtain ⟨x2, f7, f8⟩ := rv.get f2
                  obtain ⟨y2, f9, f10⟩ := rv2.get f3
                  simp only [List.getElem?_toArray] at f4 f5
                  have z1 : x' = x2 := Option.some.inj (f4.symm.trans f7)
                  have z2 : y' = y2 := Option.some.inj (f5.symm.trans f9)
                  subst z1 z2
                  exact ⟨by show 2 ≤ sizeLine; decide, [x', y'], .cons f8 (.cons f10 .nil), ⟨_, f6, rfl, _, rfl⟩⟩
          refine ⟨.ref L, _, IN, rfl, k _ ι1 _ (g1.trans (Grow.same sm)) (r1.same sm) ?_⟩
          · simp only [Rep]
            refine ⟨L, rfl, r1.free (I1.hok.fresh hle), as.map V.ref, upd_same, Reps.of_idx (by rw [lz, List.length_map, lA]) fun j d v f1 f2 => ?_⟩
            have hj : j < min xs.length ys.length := by
              have := (List.getElem?_eq_some_iff.mp f1).1
              omega
            have hjx : j < xs.length := by omega
            have hjy : j < ys.length := by omega
            obtain ⟨x, g2, g3⟩ := ra.get (List.getElem?_eq_getElem hjx)
            obtain ⟨y, g4, g5⟩ := rb.get (List.getElem?_eq_getElem hjy)
            have hja : j < as.length := by omega
            rw [List.getElem?_map, List.getElem?_eq_getElem hja] at f2
            cases f2
            have f1' : d = .tup [xs[j], ys[j]] := by
              unfold zipped at f1
              rw [List.getElem?_zipWith, List.getElem?_eq_getElem hjx, List.getElem?_eq_getElem hjy] at f1
              cases f1
              rfl
            subst f1'
            simp only [Rep]
            refine ⟨as[j], rfl, [x, y], ?_, Reps.cons (Rep.grow (Grow.same sm) _ _ g3) (Reps.cons (Rep.grow (Grow.same sm) _ _ g5) Reps.nil)⟩
            rw [upd_ne (fun z => nL (by rw [← z]; exact List.getElem_mem hja))]
            exact layP_at q4 (List.getElem?_eq_getElem hja) g2 g4
        · cases q
      · cases q
    · cases q
  · cases q
end
end My

namespace My
open PySem PySem.Spec PyProof.Rows L2
/-! ### dict comprehensions whose keys are tuples (after HandS.DictComp, which has ints and texts) -/
abbrev St := L2.St
/-- a turn of such a comprehension writes -/
theorem d_dictSetT {X : Cx} {pins : List (Addr × Obj)} {σ : L2.St} {H : Hp} {s : Shared} {E : Value → Shared → Prop} {Dd kb : Addr} {kvs : List (List Key × V)} {ky : List Key} {v : V} {u r : Value} {Q : Unit → Shared → Prop} (hu : X.A.units < cLine) (Jv : Inv X pins σ H s) (eD : H Dd = some (.dT kvs)) (lz : kvs.length < sizeLine)
    (eb : H kb = some (.tup (ky.map kV))) (ry : RelV (.ref kb) u) (rv : RelV v r) (fin : ∀ s', Inv X pins σ (upd H Dd (.dT (putK kvs ky v))) s' → Q () s') : wpAny (model X.prog X.w) X.A (dictSet Dd u r) Q E s := by
  cases (show u = Value.ref kb from ry)
  obtain ⟨z, hd, xs, rel, dd⟩ := dt_of Jv.hok eD
  have lx : xs.length ≤ sizeLine := by rw [← Paired.length rel]; exact z
  have lp : (putK kvs ky v).length ≤ sizeLine := by have := length_putK kvs ky v; omega
  refine wpAny_dictSet_heap (hsz := lx) (show (tupleKind (mixKind X.prog X.w)).room X.A from hu) (key_of Jv.hok eb) dd fun g' dg sb => fin _ ?_
  obtain ⟨q, es, ep, hq, h2, h3, h4, _, h5⟩ := dg
  refine d_write Jv (by rw [eD]; exact True.intro) sb ⟨q, hq⟩ ⟨lp, hd, _, (rel.put ky eb rv).keeps fun c ys ec => ?_, q, es, ep, hq, h2, h3, h4, h5⟩
  rw [upd_ne (ne_of ec eD (fun z => nomatch z))]
  exact ec
section
variable {X : Cx}
/-- {ky: v for target in itx if ..}, keys tuples: Dd the new dict -/
def tDcT (wit : TI) (g : TG) (tt : TT) (tk tv : TE) (vs : List Nat) : TE := fun σ H Q => wit σ H fun J H1 => ∀ Dd, H1 Dd = none → ∃ Wf : Nat → Nat → Hp → Prop, (∃ m, Wf 0 m (upd H1 Dd (.dT []))) ∧ ∀ i m H, Wf i m H →
  (J.stop i H ∧ Q (.ref Dd) H) ∨ (J.go i H ∧ ∃ Nn : Hp → Prop, (∀ H', Nn H' → ∃ m', m' < m ∧ Wf (i + 1) m' H') ∧ ∀ x H', J.yld i H x H' → g x (wipe σ vs) H' fun σ2 G2 => wipe σ2 vs = wipe σ vs ∧ tt σ2 G2 fun b G3 =>
    if b = true then tk σ2 G3 fun y H4 => tv σ2 H4 fun z G5 => ∃ kvs ky, (∃ kb, y = .ref kb ∧ G5 kb = some (.tup (ky.map kV))) ∧ G5 Dd = some (.dT kvs) ∧ kvs.length < sizeLine ∧ Nn (upd G5 Dd (.dT (putK kvs ky z))) else Nn G3)
theorem dcT_core {pins : List (Addr × Obj)} {s : Shared} {σ : St} {H : Hp} {Q : VK} {kex vax trg itx : Expr} {tests : List Expr} {sco : Scope} {ow : List (Str × Nat)} {po pos' : Pos} {wit : TI} {g : TG} {tt : TT} {tk tv : TE} {use : Option (Value → Sem Unit)} {Qf : Value → Shared → Prop}
    (hu : X.A.units + 1 < cLine) (clm : X.calm = true) (hnd : X.N.Nodup) (Jv : Inv X pins σ H s) (hit : PI X trg itx wit) (okb : BlkOk X.N X.env.scope sco ow)
    (hg : ∀ (s : Shared) (H : Hp) (C : Addr) (cl : List (Str × Addr)) (ff : List Addr), PG (X.blk s H sco (compEnvC sco cl C X.env) ff) trg g) (ht : ∀ (s : Shared) (H : Hp) (C : Addr) (cl : List (Str × Addr)) (ff : List Addr), PTs (X.blk s H sco (compEnvC sco cl C X.env) ff) tests tt)
    (hk : ∀ (s : Shared) (H : Hp) (C : Addr) (cl : List (Str × Addr)) (ff : List Addr), PE (X.blk s H sco (compEnvC sco cl C X.env) ff) kex tk)
    (he : ∀ (s : Shared) (H : Hp) (C : Addr) (cl : List (Str × Addr)) (ff : List Addr), PE (X.blk s H sco (compEnvC sco cl C X.env) ff) vax tv) (fld : ∀ x, foldedSetIterable itx X.env x = pure x)
    (hyp : tDcT wit g tt tk tv (ow.map (·.2)) σ H Q)
    (hfin : ∀ Dd C s' m H', Inv X pins σ H' s' → Q (.ref Dd) H' → s'.heap.Ns C m → FpOk X pins H' C → compPost (model X.prog X.w) X.A X.xe use Qf (.ref Dd) C (.ok .next) s') :
    wpAny (model X.prog X.w) X.A (comprehension (.DictComp kex vax [⟨trg, itx, tests, 0⟩] sco po) sco X.env pos' newDict false (eval itx X.env) use) Qf X.xe s := by
  have frees : ∀ y ∈ sco.names, y.2 = .free → ∃ c, X.env.cells.lookup y.1 = some c := fun y hy e => by
    rcases okb.free y hy e with ky | ky
    · exact Jv.ok.has _ (.inl ky)
    · exact Jv.ok.has _ (.inr ky)
  refine wpAny_comprehension_free (use := use) rfl fld (closure_ok frees) okb.kind (fun y hy e => by rw [okb.uniq y hy, e])
    (thn (hit.run pins s σ H _ Jv hyp) fun xv c1 hx => thn hx fun itv c2 h2 => ?_)
  obtain ⟨itr, ff, tq, J, G2, e, J2v, Tn, tn2, f2a, q⟩ := h2
  subst e
  refine wpAny_newObj_type (newEnv_comp (?_))
  generalize eDd : c2.heap.objs.size = Dd
  have fresh0 : G2 Dd = none := J2v.hok.fresh (Nat.le_of_eq eDd)
  obtain ⟨Wf, ⟨m0a, w0a⟩, tur⟩ := q Dd fresh0
  -- the new list
  generalize es3 : ({ c2 with heap := c2.heap.push { cls := .type "dict", data := .dict #[] } } : Shared) = c3
  have J3v : Inv X pins σ (upd G2 Dd (.dT [])) c3 := by
    rw [← es3]
    refine J2v.laid (t' := c2.toks) (fun b o e => Heap.get?_push_of_some _ e) (Nat.le_of_eq eDd) ?_
    rw [← eDd]
    exact dt_empty c2.heap J2v.big
  have h3a : c3.heap = c2.heap.push { cls := .type "dict", data := .dict #[] } := by rw [← es3]
  have szd : ∀ b ∈ ff, b < c2.heap.objs.size := fun b hb => by
    obtain ⟨o, e, _⟩ := Tn.obj _ _ tn2 b hb
    exact Heap.lt_size e
  have f3a : ∀ b ∈ ff, FpOk X pins (upd G2 Dd (.dT [])) b ∧ b < c3.heap.objs.size := fun b hb => by
    have hlt := szd b hb
    refine ⟨⟨?_, (f2a b hb).2⟩, by rw [h3a, Heap.size_push]; exact Nat.lt_succ_of_lt hlt⟩
    rw [upd_ne (by rw [← eDd]; exact Nat.ne_of_lt hlt)]
    exact (f2a b hb).1
  have tn3 : tq 0 c3.heap := Tn.keep _ _ _ tn2 fun b _ o e => by rw [h3a]; exact Heap.get?_push_of_some _ e
  have J4v := block_start J3v okb hnd f3a
  have rg := hg c3 (upd G2 Dd (.dT [])) c3.heap.objs.size (cellsFrom (c3.heap.objs.size + 1) sco.names (cloFrom X.env.cells sco.names [])) ff
  have rt := ht c3 (upd G2 Dd (.dT [])) c3.heap.objs.size (cellsFrom (c3.heap.objs.size + 1) sco.names (cloFrom X.env.cells sco.names [])) ff
  have rk := hk c3 (upd G2 Dd (.dT [])) c3.heap.objs.size (cellsFrom (c3.heap.objs.size + 1) sco.names (cloFrom X.env.cells sco.names [])) ff
  have re := he c3 (upd G2 Dd (.dT [])) c3.heap.objs.size (cellsFrom (c3.heap.objs.size + 1) sco.names (cloFrom X.env.cells sco.names [])) ff
  show codeAny _ _ (.compStart (.DictComp kex vax [⟨trg, itx, tests, 0⟩] sco po) 0 (.ref itr) (.ref Dd) (compEnvC sco (cellsFrom (c3.heap.objs.size + 1) sco.names (cloFrom X.env.cells sco.names [])) c3.heap.objs.size X.env)) (compPost (model X.prog X.w) X.A X.xe use Qf (.ref Dd) c3.heap.objs.size) { c3 with heap := pushCells (c3.heap.push { cls := .type "dict", data := .dict #[] }) sco.names }
  have nff : ∀ b ∈ ff, (upd G2 Dd (.dT [])) b = none := fun b hb => (f3a b hb).1.1
  generalize ecv : compEnvC sco (cellsFrom (c3.heap.objs.size + 1) sco.names (cloFrom X.env.cells sco.names [])) c3.heap.objs.size X.env = cv at J4v rg rt rk re ⊢
  have cLo : cv.locals = c3.heap.objs.size := by subst ecv; rfl
  generalize eG3 : upd G2 Dd (.dT []) = G3 at J3v J4v rg rt rk re w0a nff f3a
  generalize es4 : ({ c3 with heap := pushCells (c3.heap.push { cls := .type "dict", data := .dict #[] }) sco.names } : Shared) = c4 at J4v ⊢
  have tn4 : tq 0 c4.heap := Tn.keep _ _ _ tn3 fun b _ o e => by rw [← es4]; exact pushCells_keeps _ _ _ _ (Heap.get?_push_of_some _ e)
  have stays : ∀ {σ' : St} {H' : Hp} {s' : Shared}, Inv (X.blk c3 G3 sco cv ff) [] σ' H' s' → (∀ b ∈ ff, H' b = none) → ∀ b ∈ ff, FpOk (X.blk c3 G3 sco cv ff) [] H' b := fun {σ' H' s'} Jw hn b hb =>
    ⟨hn b hb, (Jw.ok.exf b hb).1, Jw.ok.exfs b hb, .inl hb, fun x c e => (Jw.ok.exf b hb).2 x c e, fun p hp => absurd (show p ∈ ([] : List (Addr × Obj)) ++ [] from hp) (by simp)⟩
  have lp : codeAny (model X.prog X.w) X.A (.compLoop (.DictComp kex vax [⟨trg, itx, tests, 0⟩] sco po) 0 (.ref itr) (.ref Dd) cv) (compPost (model X.prog X.w) X.A X.xe use Qf (.ref Dd) c3.heap.objs.size) c4 := by
    refine compLoop_anyD (fun n s' => ∃ i H', Inv (X.blk c3 G3 sco cv ff) [] (wipe σ (ow.map (·.2))) H' s' ∧ tq i s'.heap ∧ (∀ b ∈ ff, H' b = none) ∧ Wf i n H') ?_ m0a ⟨0, G3, J4v, tn4, nff, w0a⟩
    rintro n c5 ⟨i, G5, J5v, tn5, n5a, w5a⟩
    rcases tur i n G5 w5a with ⟨stop, qq⟩ | ⟨goes, Nn, hNn, step⟩
    · have tdn := Tn.done (X.blk c3 G3 sco cv ff) rfl rfl rfl clm i [] c5 _ G5 (fun _ _ => False) J5v (stays J5v n5a) tn5 stop
      refine thnF tdn fun r c6 ⟨hr, J6v⟩ => ?_
      subst hr
      -- back in the def's context
      have J7v : Inv X pins σ G5 c6 := J3v.call' (ch := ff) J6v.os J6v.base J6v.hok J6v.bare fun b hb => ⟨(f3a b hb).1.2.2.2.1, (f3a b hb).1.2.1, (f3a b hb).1.2.2.2.2.1, (f3a b hb).1.2.2.2.2.2⟩
      have noC : G5 c3.heap.objs.size = none := by
        have z : G5 cv.locals = none := J6v.free
        rw [cLo] at z
        exact z
      obtain ⟨m, hn, _⟩ := J6v.loc
      have hn : c6.heap.Ns cv.locals m := hn
      rw [cLo] at hn
      exact hfin Dd c3.heap.objs.size c6 m G5 J7v qq hn (J3v.fpOk (Nat.le_refl _) noC)
    · have tit := Tn.item (X.blk c3 G3 sco cv ff) rfl rfl rfl clm i [] c5 _ G5 (fun _ _ => False) J5v (stays J5v n5a) tn5 goes
      refine thnF tit fun r c6 ⟨u, hr, h6a⟩ => ?_
      subst hr
      refine thnF h6a fun _ c7 ⟨x, G7, J7v, r7a, y7a, tn7, n7a⟩ => ?_
      have J7w := J7v.pinned (stays J7v n7a) (Tn.obj _ _ tn7)
      refine thnF (rg.run _ c7 _ G7 x u _ J7w r7a (step x G7 y7a)) fun _ c8 ⟨σ8, G8, J8v, ew8, q8a⟩ => ?_
      refine thnF (rt.run _ c8 σ8 G8 _ J8v q8a) fun b c9 ⟨G9, J9v, q9a⟩ => ?_
      -- the turn's end
      have endT : ∀ {s' : Shared} {H' : Hp}, Inv (X.blk c3 G3 sco cv ff) ([] ++ pinsAt ff c7.heap) σ8 H' s' → Nn H' → ∃ m, m < n ∧ ∃ i H', Inv (X.blk c3 G3 sco cv ff) [] (wipe σ (ow.map (·.2))) H' s' ∧ tq i s'.heap ∧ (∀ b ∈ ff, H' b = none) ∧ Wf i m H' := fun {s' H'} Jw nx => by
        obtain ⟨m', hlt, w'⟩ := hNn H' nx
        have pn2 : ∀ b ∈ ff, ∀ o, c7.heap.get? b = some o → s'.heap.get? b = some o ∧ H' b = none := fun b hb o e =>
          let z := Jw.pin (b, o) (List.mem_append_right _ (List.mem_append_right _ (mem_pinsAt hb e)))
          ⟨z.1, z.2.1⟩
        have hlen : (wipe σ (ow.map (·.2))).length = σ8.length := by rw [← ew8, wipe_length]
        refine ⟨m', hlt, i + 1, H', (Jw.unpinned (pins := [])).weak hlen (fun j v e => ?_), Tn.keep _ _ _ tn7 fun b hb o e => (pn2 b hb o e).1, fun b hb => ?_, w'⟩
        · rw [← ew8] at e
          exact (wipe_some e).1
        · obtain ⟨o, e, _⟩ := Tn.obj _ _ tn7 b hb
          exact (pn2 b hb o e).2
      cases b with
      | false =>
        simp only [Bool.false_eq_true, if_false] at q9a ⊢
        exact endT J9v q9a
      | true =>
        simp only [if_true] at q9a ⊢
        refine thnF (rk.run _ c9 σ8 G9 _ J9v q9a) fun z c10 ⟨yk, G10, J10v, r10a, q10a⟩ => ?_
        refine thnF (re.run _ c10 σ8 G10 _ J10v q10a) fun z2 c11 ⟨yv, G11, J11v, r11a, kvs, ky, ⟨kb, eky, ekb⟩, eD11, lz11, nx⟩ => ?_
        subst eky
        exact d_dictSetT (X := X.blk c3 G3 sco cv ff) (Nat.lt_of_succ_lt hu) J11v eD11 lz11 ekb r10a r11a fun c12 J12v => endT J12v nx
  exact codeAny_compStart_dict lp (Tn.self X.A 0 _ _ _ tn4 lp)
/-- as a value -/
theorem pe_dcT {kex vax trg itx : Expr} {tests : List Expr} {sco : Scope} {ow : List (Str × Nat)} {po : Pos} {wit : TI} {g : TG} {tt : TT} {tk tv : TE} (hu : X.A.units + 1 < cLine) (clm : X.calm = true) (hnd : X.N.Nodup) (hit : PI X trg itx wit) (okb : BlkOk X.N X.env.scope sco ow)
    (hg : ∀ (s : Shared) (H : Hp) (C : Addr) (cl : List (Str × Addr)) (ff : List Addr), PG (X.blk s H sco (compEnvC sco cl C X.env) ff) trg g) (ht : ∀ (s : Shared) (H : Hp) (C : Addr) (cl : List (Str × Addr)) (ff : List Addr), PTs (X.blk s H sco (compEnvC sco cl C X.env) ff) tests tt)
    (hk : ∀ (s : Shared) (H : Hp) (C : Addr) (cl : List (Str × Addr)) (ff : List Addr), PE (X.blk s H sco (compEnvC sco cl C X.env) ff) kex tk)
    (he : ∀ (s : Shared) (H : Hp) (C : Addr) (cl : List (Str × Addr)) (ff : List Addr), PE (X.blk s H sco (compEnvC sco cl C X.env) ff) vax tv) (fld : ∀ x, foldedSetIterable itx X.env x = pure x := by intro _; rfl) :
    PE X (.DictComp kex vax [⟨trg, itx, tests, 0⟩] sco po) (tDcT wit g tt tk tv (ow.map (·.2))) := by
  refine ⟨fun pins s σ H Q Jv hyp => ?_⟩
  rw [arm_eval_DictComp]
  refine dcT_core hu clm hnd Jv hit okb hg ht hk he fld hyp fun Dd C s' m H' Jw q hn f => ⟨m, hn, fun h'' sb => ?_⟩
  obtain ⟨f0, f1, f2a, f3a, f4, f5⟩ := f
  exact ⟨.ref Dd, H', Jw.turned (t' := s'.toks) (fun b o hb e => (sb.2 b hb).trans e) f0 f1 f3a f4 f5, rfl, q⟩
end
section
variable {X : Cx} {W : Wd}
theorem dcT_of {im : IM} {g : GM} {tk tv : EM} {vs : List Nat} {σ : L2.St} {H : Hp} {Q : VK} (h : T W (eDcT im g tk tv vs) σ H Q) : tDcT (TIm W im) (TGm W g vs) (TB W bYes) (T W tk) (T W tv) vs σ H Q := by
  obtain ⟨ι, st, env, d, st', r, n, e, k⟩ := h
  unfold eDcT at e
  split at e
  · rename_i ds gd s1 e1
    split at e
    · rename_i ks' ws' s2 e2
      cases e
      refine ⟨ι, st, env, ds, gd, s1, r, n, e1, fun J ι1 H1 g1 r1 ok L hL => ?_⟩
      have n1 := n.grow g1
      refine ⟨fun i m H => i + m = ds.length ∧ ∃ ι2 s ks acc vacc, Grow ι1 H1 ι2 H ∧ Gro ι1 H1 (ι2.hide L) H ∧ RelH W (ι2.hide L) H s ∧ H L = some (.dT (ks.zip vacc)) ∧ ks.length = acc.length ∧ Reps W (ι2.hide L) H acc vacc ∧ dcGo gd g tk tv (wipeE env vs) (ds.drop i) ks acc s = some (ks', ws', st'),
        ⟨ds.length, by omega, ι1, s1, [], [], [], Grow.laid hL, Gro.hide hL, r1.hide hL, upd_same, rfl, Reps.nil, e2⟩, ?_⟩
      rintro i m H2 ⟨hm, ι2, s, ks, acc, vacc, g2, gg2, r2, hL2, hkl, hacc, hgo⟩
      by_cases hi : i < ds.length
      · right
        have hd : ds.drop i = ds[i] :: ds.drop (i + 1) := List.drop_eq_getElem_cons hi
        rw [hd] at hgo
        unfold dcGo at hgo
        split at hgo
        · rename_i hgd
          obtain ⟨j1, j2⟩ := ok.go i _ H2 s _ gg2 r2 hgd (List.getElem?_eq_getElem hi)
          refine ⟨j1, fun H' => ∃ ι2 s ks acc vacc, Grow ι1 H1 ι2 H' ∧ Gro ι1 H1 (ι2.hide L) H' ∧ RelH W (ι2.hide L) H' s ∧ H' L = some (.dT (ks.zip vacc)) ∧ ks.length = acc.length ∧ Reps W (ι2.hide L) H' acc vacc ∧ dcGo gd g tk tv (wipeE env vs) (ds.drop (i + 1)) ks acc s = some (ks', ws', st'), fun H' nx => ⟨m - 1, by omega, by omega, nx⟩, fun x H3 hy => ?_⟩
          obtain ⟨g3, r3, p3⟩ := j2 x H3 hy
          split at hgo
          · rename_i e3 q3
            have n3 : REnv W (ι2.hide L) H3 (wipeE env vs) (L2.wipe σ vs) := ((n1.wipe vs).gro gg2).grow g3
            refine ⟨_, s, _, _, e3, r3, n3, p3, q3, fun σ2 n4 w4 => ⟨w4.trans (lc_of.wipe_wipe σ vs), ?_⟩⟩
            have hLk : L ∈ (ι2.hide L).k := List.mem_cons_self
            have hLc : L ∉ (ι2.hide L).c := fun z => r2.dis L z hLk
            refine TB.of r3 n4 (m := bYes) (st' := s) (d := true) rfl fun ι4 H4 g4 r4 => ?_
            rw [if_pos rfl]
            split at hgo
            · rename_i y s5 q5
              split at hgo
              · rename_i z s6 q6
                split at hgo
                · rename_i kk q7
                  split at hgo
                  · rename_i hz
                    refine T.of r4 (n4.grow g4) q5 fun v ι5 H5 g5 r5 p5 => ?_
                    refine T.of r5 ((n4.grow g4).grow g5) q6 fun u ι6 H6 g6 r6 p6 => ?_
                    have hk6 : ι6.k = L :: ι2.k := g6.hid.trans (g5.hid.trans g4.hid)
                    have e6 : ι6 = (Lay.hide ⟨ι6.c, ι2.k⟩ L) := by
                      cases ι6
                      simp only [Lay.hide]
                      exact congrArg _ hk6
                    have gg : Grow (ι2.hide L) H2 ι6 H6 := ((g3.trans g4).trans g5).trans g6
                    have hL6 : H6 L = some (.dT (ks.zip vacc)) := gg.keep _ _ (.inl hLc) hL2
                    have hacc6 := Reps.grow gg _ _ hacc
                    obtain ⟨kb, us, rfl, hkb, hku⟩ : ∃ kb us, v = .ref kb ∧ H6 kb = some (.tup (kk.map kV)) ∧ True := by
                      unfold tkeyOf at q7
                      split at q7
                      · rename_i dsk
                        have p5' := Rep.grow g6 _ _ p5
                        simp only [Rep] at p5'
                        obtain ⟨kb, rfl, wsk, h6, h7⟩ := p5'
                        have e7 := keysOf_ok q7 h7
                        subst e7
                        exact ⟨kb, (), rfl, h6, trivial⟩
                      · cases q7
                    obtain ⟨us', f1, f2, f3⟩ := kPut_ok (k := kk) hacc6 hkl p6
                    rw [e6] at r6 gg f3
                    have lzz : (ks.zip vacc).length < sizeLine := by rw [List.length_zip, ← hacc.length, ← hkl]; omega
                    refine ⟨_, kk, ⟨kb, rfl, hkb⟩, hL6, lzz, ⟨ι6.c, ι2.k⟩, s6, _, _, us', ?_, ?_, r6.over List.mem_cons_self hL6 trivial, by rw [upd_same, f1], f2, Reps.gro (Gro.over List.mem_cons_self hL6 trivial) _ _ f3, hgo⟩
                    · refine ⟨fun i a h => gg.pre i a (g2.pre i a h), fun a o nn h => ?_, fun a m => ?_, g2.hid⟩
                      · have := ne_of_none h hL
                        exact kp_set this (gg.keep a o (nn.imp (fun nn z => by
                          rcases g2.new a z with q | q
                          · exact nn q
                          · rw [h] at q; cases q) id) (g2.keep a o nn h))
                      · rcases gg.new a m with q | q
                        · exact g2.new a q
                        · by_cases hc : a ∈ ι1.c
                          · exact .inl hc
                          · refine .inr ?_
                            cases e : H1 a with
                            | none => rfl
                            | some o => rw [g2.keep a o (.inl hc) e] at q; cases q
                    · refine ⟨fun i a h => gg.pre i a (gg2.pre i a h), fun a o nn h => ?_, fun a o nn h => ?_⟩
                      · have := ne_of_none h hL
                        exact kp_set this (gg.gro.keep a o (nn.imp (fun nn => gg2.notin a o nn h) id) (gg2.keep a o nn h))
                      · exact gg.gro.notin a o (gg2.notin a o nn h) (gg2.keep a o (.inl nn) h)
                  · cases hgo
                · cases hgo
              · cases hgo
            · cases hgo
          · cases hgo
        · cases hgo
      · left
        have hie : i = ds.length := by omega
        subst hie
        rw [List.drop_length] at hgo
        unfold dcGo at hgo
        split at hgo
        · rename_i hgd
          cases hgo
          refine ⟨ok.stop _ H2 _ gg2 r2 hgd, ?_⟩
          refine k _ ι2 H2 (g1.trans g2) r2.show ?_
          simp only [Rep]
          refine ⟨L, rfl, fun z => ?_, vacc, hL2, hkl, Reps.gro Gro.show _ _ hacc⟩
          rcases z with z | z
          · exact r2.dis L z List.mem_cons_self
          · rw [g2.hid] at z
            exact r1.free hL (.inr z)
        · cases hgo
    · cases e
  · cases e
theorem j_dcT {kex vax tg iter : Expr} {scope : Scope} {own : List (Str × Nat)} {pos : Pos} {im : IM} {g : GM} {tk tv : EM} (hu : X.A.units + 1 < cLine) (hc : X.calm = true) (hN : X.N.Nodup) (hi : PI X tg iter (TIm W im)) (ok : BlkOk X.N X.env.scope scope own)
    (hg : ∀ (s : Shared) (H : Hp) (C : Addr) (cl : List (Str × Addr)) (fp : List Addr), PG (X.blk s H scope (compEnvC scope cl C X.env) fp) tg (TGm W g (own.map (·.2))))
    (hk : ∀ (s : Shared) (H : Hp) (C : Addr) (cl : List (Str × Addr)) (fp : List Addr), PE (X.blk s H scope (compEnvC scope cl C X.env) fp) kex (T W tk))
    (he : ∀ (s : Shared) (H : Hp) (C : Addr) (cl : List (Str × Addr)) (fp : List Addr), PE (X.blk s H scope (compEnvC scope cl C X.env) fp) vax (T W tv)) (hs : ∀ x, foldedSetIterable iter X.env x = pure x := by intro _; rfl) :
    PE X (.DictComp kex vax [⟨tg, iter, [], 0⟩] scope pos) (T W (eDcT im g tk tv (own.map (·.2)))) := (pe_dcT hu hc hN hi ok hg (fun _ _ _ _ _ => jts_nil) hk he hs).imp fun _ _ _ => dcT_of
end
end My

namespace My
open PySem PySem.Spec PyProof.Rows L2
/-! ### dict(xs) of a list of pairs, d.update(d2) of dicts with tuples as keys -/
section
variable {κ : Type} [DecidableEq κ]
/-- entries put one behind the other -/
def mrgK : List κ → List D → List κ → List D → List κ
  | ks, vs, k :: r, v :: q => mrgK (kPutK ks k) (kPutV ks vs k v) r q
  | ks, _, _, _ => ks
def mrgV : List κ → List D → List κ → List D → List D
  | ks, vs, k :: r, v :: q => mrgV (kPutK ks k) (kPutV ks vs k v) r q
  | _, vs, _, _ => vs
def mrgZ (kvs more : List (κ × V)) : List (κ × V) := more.foldl (fun acc kv => putK acc kv.1 kv.2) kvs
theorem mrgZ_len : ∀ (more kvs : List (κ × V)), (mrgZ kvs more).length ≤ kvs.length + more.length
  | [], kvs => Nat.le_refl _
  | p :: r, kvs => by
    have h1 := mrgZ_len r (putK kvs p.1 p.2)
    have h2 := length_putK kvs p.1 p.2
    show (mrgZ (putK kvs p.1 p.2) r).length ≤ _
    rw [List.length_cons]
    omega
theorem mrg_ok {W : Wd} {ι : Lay} {H : Hp} : ∀ {ks2 : List κ} {ds2 : List D} {us2 : List V} {ks : List κ} {ds : List D} {us : List V}, Reps W ι H ds us → ks.length = ds.length → Reps W ι H ds2 us2 → ks2.length = ds2.length →
    ∃ us', mrgZ (ks.zip us) (ks2.zip us2) = (mrgK ks ds ks2 ds2).zip us' ∧ (mrgK ks ds ks2 ds2).length = (mrgV ks ds ks2 ds2).length ∧ Reps W ι H (mrgV ks ds ks2 ds2) us'
  | [], [], us2, ks, ds, us, h, hl, h2, hl2 => ⟨us, by rw [h2.nil_of]; rfl, by unfold mrgK mrgV; exact hl, by unfold mrgV; exact h⟩
  | [], _ :: _, _, _, _, _, _, _, _, hl2 => by simp at hl2
  | _ :: _, [], _, _, _, _, _, _, _, hl2 => by simp at hl2
  | k :: ks2, d :: ds2, us2, ks, ds, us, h, hl, h2, hl2 => by
    obtain ⟨u, r, rfl, hu, hr⟩ := h2.uncons
    obtain ⟨us1, f1, f2, f3⟩ := kPut_ok (k := k) h hl hu
    obtain ⟨us', g1, g2, g3⟩ := mrg_ok f3 f2 hr (by simpa using hl2)
    refine ⟨us', ?_, by unfold mrgK mrgV; exact g2, by unfold mrgV; exact g3⟩
    rw [List.zip_cons_cons]
    show mrgZ (putK (ks.zip us) k u) (ks2.zip r) = _
    rw [f1, g1]
    rfl
end
/-! hash values of pairs of whole numbers -/
def hK0 : Key → Int
  | .inl i => hashInt i
  | .inr _ => 0
def hKs (k : List Key) : Int := reduceHash (Builtin.Tuple.tupleHashOf (k.map hK0))
def intsK (k : List Key) : Bool := k.all fun x => x.isLeft
theorem hKs_eq {P : Program} {w : World} {k : List Key} (h : intsK k = true) : (tupleKind (mixKind P w)).hash k = hKs k := by
  show reduceHash (Builtin.Tuple.tupleHashOf (k.map (keyH w))) = _
  unfold hKs
  have : k.map (keyH w) = k.map hK0 := List.map_congr_left fun x hx => by
    have := List.all_eq_true.mp h x hx
    cases x with
    | inl i => rfl
    | inr y => cases this
  rw [this]
/-- dict(xs) of pairs whose keys are tuples -/
def pairsT : List D → Option (List (List Key) × List D)
  | [] => some ([], [])
  | .tup [k, v] :: r => match tkeyOf k, pairsT r with
    | some kk, some (ks, vs) => some (kk :: ks, v :: vs)
    | _, _ => none
  | _ => none
def pairsK : List D → Option (List Key × List D)
  | [] => some ([], [])
  | .tup [k, v] :: r => match keyOf k, pairsK r with
    | some kk, some (ks, vs) => some (kk :: ks, v :: vs)
    | _, _ => none
  | _ => none
def fDictP : FM := fun as st => match as with
  | [d] => match seqL st d with
    | some xs => match pairsK xs with
      | some (ks, vs) => some (.dk (mrgK [] [] ks vs) (mrgV [] [] ks vs), st)
      | none => none
    | none => none
  | _ => none
def fDictPT : FM := fun as st => match as with
  | [d] => match seqL st d with
    | some xs => match pairsT xs with
      | some (ks, vs) => some (.dt (mrgK [] [] ks vs) (mrgV [] [] ks vs), st)
      | none => none
    | none => none
  | _ => none
open Classical in
noncomputable def mUpdT : MM := fun o as st => match o, as with
  | .ref n, [.dt ks2 vs2] => match st[n]? with
    | some (.dt ks vs) => if ks.length + ks2.length ≤ sizeLine ∧ (∀ k ∈ ks2, intsK k = true) ∧ (ks2.map hKs).Nodup then some (.non, st.set n (.dt (mrgK ks vs ks2 vs2) (mrgV ks vs ks2 vs2))) else none
    | _ => none
  | _, _ => none
theorem KT.mrg {H : Hp} : ∀ {k2 : List (List Key × V)} {x2 : List (List Key × Addr × Value)} {kvs : List (List Key × V)} {xs : List (List Key × Addr × Value)}, KT H k2 x2 → KT H kvs xs → KT H (mrgZ kvs k2) (storedAllH xs x2)
  | [], _, kvs, xs, .nil, h => h
  | _ :: _, _, kvs, xs, .cons (a := p) (b := q) e t, h => by
    obtain ⟨e1, e2, e3⟩ := e
    show KT H (mrgZ (putK kvs p.1 p.2) _) (storedAllH (storedH xs q.1 q.2.1 q.2.2) _)
    rw [← e1]
    exact KT.mrg t (KT.put h p.1 e2 e3)
theorem kt_keys {H : Hp} : ∀ {l : List (List Key × V)} {m : List (List Key × Addr × Value)}, KT H l m → l.map Prod.fst = m.map (·.1)
  | [], _, .nil => rfl
  | _ :: _, _, .cons (a := p) (b := q) e t => by rw [List.map_cons, List.map_cons, kt_keys t, e.1]
theorem KT.all {P : Program} {w : World} {H : Hp} {h : Heap} (ok : HOk P w H h) : ∀ {l : List (List Key × V)} {m : List (List Key × Addr × Value)}, KT H l m → ∀ x ∈ m, (tupleKind (mixKind P w)).is h x.1 x.2.1 ∧ H x.2.1 = some (.tup (x.1.map kV))
  | [], _, .nil, x, hx => by simp at hx
  | _ :: _, _, .cons (a := p) (b := q) e t, x, hx => by
    obtain ⟨e1, e2, e3⟩ := e
    rcases List.mem_cons.mp hx with z | z
    · subst z
      rw [e1] at e2
      exact ⟨key_of ok e2, e2⟩
    · exact KT.all ok t x z
section
variable {X : Cx} {W : Wd}
/-- the pairs as they lie -/
theorem triples {ι : Lay} {H : Hp} : ∀ {ds : List D} {vs : List V} {ks : List (List Key)} {ws : List D}, Reps W ι H ds vs → pairsT ds = some (ks, ws) → ∃ (qs : List (Addr × List Key × Addr × V)), vs = qs.map (fun q => V.ref q.1) ∧ ks = qs.map (fun q => q.2.1) ∧ Reps W ι H ws (qs.map fun q => q.2.2.2) ∧
    ∀ q ∈ qs, H q.1 = some (.tup [.ref q.2.2.1, q.2.2.2]) ∧ H q.2.2.1 = some (.tup (q.2.1.map kV))
  | [], vs, ks, ws, h, e => by
    cases e
    exact ⟨[], by rw [h.nil_of]; rfl, rfl, Reps.nil, fun q hq => by simp at hq⟩
  | d :: ds, vs, ks, ws, h, e => by
    obtain ⟨v, r, rfl, hv, hr⟩ := h.uncons
    unfold pairsT at e
    split at e
    · rename_i z; cases z
    · rename_i k v2 r2 z
      cases z
      split at e
      · rename_i kk ks2 vs2 e1 e2
        cases e
        obtain ⟨qs, f1, f2, f3, f4⟩ := triples hr e2
        simp only [Rep] at hv
        obtain ⟨a, rfl, us, ha, hu⟩ := hv
        obtain ⟨u1, u2, rfl, hk, hw⟩ := reps2 hu
        unfold tkeyOf at e1
        split at e1
        · rename_i dk
          simp only [Rep] at hk
          obtain ⟨b, rfl, us2, hb, hu2⟩ := hk
          have e7 := keysOf_ok e1 hu2
          subst e7
          refine ⟨(a, kk, b, u2) :: qs, by rw [f1]; rfl, by rw [f2]; rfl, Reps.cons hw f3, fun q hq => ?_⟩
          rcases List.mem_cons.mp hq with z | z
          · subst z; exact ⟨ha, hb⟩
          · exact f4 q z
        · cases e1
      · cases e
    · cases e
theorem kt_of {H : Hp} {pins : List (Addr × Obj)} {σ : L2.St} {s : Shared} (I : Inv X pins σ H s) : ∀ {qs : List (Addr × List Key × Addr × V)}, (∀ q ∈ qs, H q.1 = some (.tup [.ref q.2.2.1, q.2.2.2]) ∧ H q.2.2.1 = some (.tup (q.2.1.map kV))) →
    ∃ xs : List (List Key × Addr × Value), KT H (qs.map fun q => (q.2.1, q.2.2.2)) xs ∧ xs.length = qs.length ∧ ∀ (j : Nat) (q : Addr × List Key × Addr × V), qs[j]? = some q → ∃ u, xs[j]? = some (q.2.1, q.2.2.1, u) ∧ s.heap.IsTuple q.1 #[.ref q.2.2.1, u]
  | [], _ => ⟨[], .nil, rfl, fun j q e => by simp at e⟩
  | q :: qs, h => by
    obtain ⟨xs, f1, f2, f3⟩ := kt_of I fun z hz => h z (List.mem_cons_of_mem _ hz)
    obtain ⟨h1, h2⟩ := h q List.mem_cons_self
    obtain ⟨its, rv, ht, _⟩ := I.tuple (.inl (.inl h1))
    obtain ⟨u, y, ei, ru, ry⟩ := vals2 rv
    subst ei
    cases (show u = Value.ref q.2.2.1 from ru)
    refine ⟨(q.2.1, q.2.2.1, y) :: xs, .cons ⟨rfl, h2, ry⟩ f1, by simp [f2], fun j z e => ?_⟩
    cases j with
    | zero =>
      simp at e
      subst e
      exact ⟨y, rfl, ht⟩
    | succ j =>
      obtain ⟨u', g1, g2⟩ := f3 j z (by simpa using e)
      exact ⟨u', by simpa using g1, g2⟩
theorem jc_dictPT (hc : X.calm = true) (hu : X.A.units + 2 < cLine) : CallR X (.type "dict") (MA W fDictPT) := by
  intro pins s σ H xs us Q I rx ⟨ι, st, ds, d, st', r, h, e, k⟩
  unfold fDictPT at e
  split at e
  · obtain ⟨v, rfl, hv⟩ := reps1 h
    split at e
    · rename_i ys q
      split at e
      · rename_i ks ws e2
        cases e
        obtain ⟨a, vs, rfl, ha, hvs⟩ := seqL_ok r hv q
        obtain ⟨qs, rfl, rfl, f3, f4⟩ := triples hvs e2
        obtain ⟨xs2, g1, g2, g3⟩ := kt_of I f4
        obtain ⟨z, its, n, rvs, hl⟩ := I.lstM ha
        obtain ⟨u, eu, ru⟩ := vals1 rx
        subst eu
        cases ru
        rw [List.length_map] at z
        have ei : its = (qs.map (·.1)).map Value.ref := by
          have rvs' : Vals ((qs.map (·.1)).map V.ref) its := by rw [List.map_map]; exact rvs
          exact refs_at rvs'
        have hlen : its.length = qs.length := by rw [ei]; simp
        have kin := KT.all I.hok g1
        let ps : List (Value × Value) := xs2.map fun x => (Value.ref x.2.1, x.2.2)
        let Ts : Nat → Addr := fun j => (qs.map (·.1)).getD j 0
        have hps : ps.length = qs.length := by simp [ps, g2]
        refine PySem.call_dict_pairsH (knd := tupleKind (mixKind X.prog X.w)) (ps := xs2) (PairArg.list a its.toArray Ts ps) (I.ok.hd hc) (show X.A.units + 2 < cLine from hu) ⟨⟨_, n, hl.2, rfl, rfl, rfl⟩, by simp only [List.size_toArray]; omega, fun j key vv e => ?_⟩ ⟨by rw [hps, g2], fun i key vv e => ?_⟩ (fun h' hk x hx => ?_) (by rw [hps]; exact z) fun h' tk hd' hk => ?_
        · have hj : j < qs.length := by rw [← hps]; exact (List.getElem?_eq_some_iff.mp e).1
          obtain ⟨u, f5, f6⟩ := g3 j _ (List.getElem?_eq_getElem hj)
          have e' : (ps[j]?) = some (Value.ref qs[j].2.2.1, u) := by
            show (xs2.map _)[j]? = _
            rw [List.getElem?_map, f5]; rfl
          rw [e'] at e
          cases e
          have hT : Ts j = qs[j].1 := by
            show (qs.map (·.1)).getD j 0 = _
            rw [List.getD_eq_getElem?_getD, List.getElem?_map, List.getElem?_eq_getElem hj]; rfl
          rw [hT]
          refine ⟨?_, .inl f6⟩
          rw [List.getElem?_toArray, ei, List.getElem?_map, List.getElem?_map, List.getElem?_eq_getElem hj]; rfl
        · have e' : (xs2.map fun x => (Value.ref x.2.1, x.2.2))[i]? = some (key, vv) := e
          rw [List.getElem?_map, Option.map_eq_some_iff] at e'
          obtain ⟨x, f5, f6⟩ := e'
          cases f6
          exact ⟨x.1, x.2.1, f5, rfl⟩
        · obtain ⟨o, items, m, w1, w2⟩ := (kin x hx).1
          exact ⟨o, items, m, hk _ _ (Nat.ne_of_lt (Heap.lt_size w1)) (by simp) w1, w2⟩
        · have hp : H s.heap.objs.size = none := I.hok.fresh (Nat.le_refl _)
          have km := KT.mrg g1 (.nil : KT H [] [])
          obtain ⟨us', m1, m2, m3⟩ := mrg_ok (κ := List Key) (ks2 := qs.map fun q => q.2.1) (ks := []) (ds := []) (us := []) (W := W) (ι := ι) (H := H) Reps.nil rfl f3 (by rw [f3.length]; simp)
          have ez : (qs.map fun q => q.2.1).zip (qs.map fun q => q.2.2.2) = qs.map fun q => (q.2.1, q.2.2.2) := by rw [List.zip_map']
          rw [ez] at m1
          have m1' : mrgZ [] (qs.map fun q => (q.2.1, q.2.2.2)) = (mrgK [] [] (qs.map fun q => q.2.1) ws).zip us' := m1
          rw [m1'] at km
          have hle : ((mrgK [] [] (qs.map fun q => q.2.1) ws).zip us').length ≤ sizeLine := by
            rw [← m1']
            have := mrgZ_len (qs.map fun q => (q.2.1, q.2.2.2)) []
            rw [List.length_map, List.length_nil] at this
            omega
          obtain ⟨o', es, ep, d1, d2, d3, d4, _, d5⟩ := hd'
          refine ⟨.ref s.heap.objs.size, upd H s.heap.objs.size (.dT ((mrgK [] [] (qs.map fun q => q.2.1) ws).zip us')), I.laid (t' := tk) (fun b o z => hk b o (by simp) z) (Nat.le_refl _)
            ⟨hle, beq_eq_false_iff_ne.mpr (Nat.ne_of_gt I.big), _, km.keeps (fun b ys z => kp_new hp z), o', es, ep, d1, d2, d3, d4, d5⟩, rfl, k _ ι _ (Grow.laid hp) (r.laid hp) ?_⟩
          simp only [Rep]
          exact ⟨_, rfl, r.free hp, us', upd_same, m2, Reps.grow (Grow.laid hp) _ _ m3⟩
      · cases e
    · cases e
  · cases e
/-- the same with keys that are ints or texts -/
theorem pairs_k {ι : Lay} {H : Hp} : ∀ {ds : List D} {vs : List V} {ks : List Key} {ws : List D}, Reps W ι H ds vs → pairsK ds = some (ks, ws) → ∃ (ps : List Addr) (us : List V), vs = ps.map V.ref ∧ ks.length = ws.length ∧ Reps W ι H ws us ∧ Paired (fun p kv => SqT W.K H p [kV kv.1, kv.2]) ps (ks.zip us)
  | [], vs, ks, ws, h, e => by
    cases e
    exact ⟨[], [], by rw [h.nil_of]; rfl, rfl, Reps.nil, .nil⟩
  | d :: ds, vs, ks, ws, h, e => by
    obtain ⟨v, r, rfl, hv, hr⟩ := h.uncons
    unfold pairsK at e
    split at e
    · rename_i z; cases z
    · rename_i k v2 r2 z
      cases z
      split at e
      · rename_i kk ks2 vs2 e1 e2
        cases e
        obtain ⟨ps, us, f1, f2, f3, f4⟩ := pairs_k hr e2
        simp only [Rep] at hv
        obtain ⟨a, rfl, us1, ha, hu⟩ := hv
        obtain ⟨u1, u2, rfl, hk, hw⟩ := reps2 hu
        cases keyOf_ok e1 hk
        exact ⟨a :: ps, u2 :: us, by rw [f1]; rfl, by simp [f2], Reps.cons hw f3, .cons (.inl (.inl ha)) f4⟩
      · cases e
    · cases e
theorem mergeK_eq : ∀ (more kvs : List (Key × V)), mergeK kvs more = mrgZ kvs more := fun _ _ => rfl
theorem jc_dictP (hK : X.K = W.K) (hc : X.calm = true) : CallR X (.type "dict") (MA W fDictP) := by
  intro pins s σ H xs us Q I rx ⟨ι, st, ds, d, st', r, h, e, k⟩
  unfold fDictP at e
  split at e
  · obtain ⟨v, rfl, hv⟩ := reps1 h
    split at e
    · rename_i ys q
      split at e
      · rename_i ks ws e2
        cases e
        obtain ⟨a, vs, rfl, ha, hvs⟩ := seqL_ok r hv q
        obtain ⟨ps, us1, rfl, f2, f3, f4⟩ := pairs_k hvs e2
        refine call_dictP hc pins s σ H _ us Q I rx ⟨a, ps, _, rfl, SqL.of ha, hK ▸ f4, fun p hp => ?_⟩
        obtain ⟨us', m1, m2, m3⟩ := mrg_ok (κ := Key) (ks2 := ks) (ks := []) (ds := []) (us := []) (W := W) (ι := ι) (H := H) Reps.nil rfl f3 f2
        have m1' : mergeK [] (ks.zip us1) = (mrgK [] [] ks ws).zip us' := m1
        rw [m1']
        refine k _ ι _ (Grow.laid hp) (r.laid hp) ?_
        simp only [Rep]
        exact ⟨_, rfl, r.free hp, us', upd_same, m2, Reps.grow (Grow.laid hp) _ _ m3⟩
      · cases e
    · cases e
  · cases e
theorem jm_updT (hu : X.A.units + 1 < cLine) : MtR X "dict.update" (MMt W mUpdT) := by
  intro pins s σ H x xs v us Q I rx rxs ⟨ι, st, o, as, d, st', r, ho, ha, e, k⟩
  unfold mUpdT at e
  split at e
  · rename_i n ks2 vs2
    obtain ⟨p, c, rfl, h1, h2, h3⟩ := rep_ref r ho
    obtain ⟨wv, rfl, hw⟩ := reps1 ha
    rw [h2] at e
    obtain ⟨z, hz, mz⟩ := h3.there
    split at e
    · rename_i ks vs q
      cases q
      split at e
      · rename_i hl
        cases e
        obtain ⟨hl, hint, hnd⟩ := hl
        obtain ⟨us1, h4, h5, h6⟩ := h3
        simp only [Rep] at hw
        obtain ⟨p2, rfl, nh, us2, h7, h8, h9⟩ := hw
        obtain rfl : v = Value.ref p := rx
        obtain ⟨u, eu, ru⟩ := vals1 rxs
        subst eu
        cases ru
        have hne : p ≠ p2 := fun z => nh (.inl (z ▸ List.mem_of_getElem? h1))
        obtain ⟨z1, y1, xs1, kt1, dd1⟩ := dt_of I.hok h4
        obtain ⟨z2, y2, xs2, kt2, dd2⟩ := dt_of I.hok h7
        obtain ⟨us', m1, m2, m3⟩ := mrg_ok h6 h5 h9 h8
        have l1 : (ks.zip us1).length = ks.length := by rw [List.length_zip, ← h6.length, h5, Nat.min_self]
        have l2 : (ks2.zip us2).length = ks2.length := by rw [List.length_zip, ← h9.length, h8, Nat.min_self]
        have km := KT.mrg kt2 kt1
        rw [m1] at km
        have hle : ((mrgK ks vs ks2 vs2).zip us').length ≤ sizeLine := by
          rw [← m1]
          have := mrgZ_len (ks2.zip us2) (ks.zip us1)
          omega
        have kin := KT.all I.hok kt2
        have keysEq : xs2.map (fun x => (tupleKind (mixKind X.prog X.w)).hash x.1) = ks2.map hKs := by
          have hk : xs2.map (·.1) = ks2 := by
            have : (ks2.zip us2).map Prod.fst = xs2.map (·.1) := kt_keys kt2
            rw [← this]
            exact List.map_fst_zip (by rw [← h9.length, h8]; exact Nat.le_refl _)
          rw [← hk, List.map_map]
          refine List.map_congr_left fun x hx => hKs_eq (hint x.1 ?_)
          rw [← hk]
          exact List.mem_map.mpr ⟨x, hx, rfl⟩
        refine PySem.call_update_dictH (knd := tupleKind (mixKind X.prog X.w)) (show X.A.units + 1 < cLine from hu) hne y2 dd1 dd2 (.inr ⟨fun x hx => ?_, by rw [keysEq]; exact hnd⟩) (by rw [← Paired.length kt1, ← Paired.length kt2, l1, l2]; exact hl) fun h' d1 _ sb => ?_
        · obtain ⟨o, items, m, w1, w2, _⟩ := (kin x hx).1
          exact ⟨o, w1, w2⟩
        · have g : Grow ι H ι (upd H p (.dT ((mrgK ks vs ks2 vs2).zip us'))) := Grow.put h1 hz mz
          obtain ⟨o', es, ep, e1, e2, e3, e4, _, e5⟩ := d1
          refine ⟨.non, upd H p (.dT ((mrgK ks vs ks2 vs2).zip us')), d_write (t' := s.toks) I (by rw [h4]; exact True.intro) sb ⟨o', e1⟩ ⟨hle, y1, _, km.keeps fun c ys ec => ?_, o', es, ep, e1, e2, e3, e4, e5⟩, rfl,
            k _ _ _ g (r.put h1 ⟨us', upd_same, m2, Reps.grow g _ _ m3⟩) non_rep⟩
          rw [upd_ne (ne_of ec h4 (fun z => nomatch z))]
          exact ec
      · cases e
    · cases e
  · cases e
end
end My

namespace My
open PySem PySem.Spec PyProof.Rows L2
theorem hu2_of {A : Around} {k : Nat} (hr : Room k A) : A.units + 2 < cLine := Nat.lt_of_le_of_lt (Nat.add_le_add_left (by decide : 2 ≤ 64) _) hr.units
/-! ### list(range(..)), tuple(range(..)) -/
def RgW (a b : Int) : Prop := -(2 ^ 62) ≤ a ∧ a < 2 ^ 62 ∧ -(2 ^ 62) ≤ b ∧ b < 2 ^ 62 ∧ (b - a).toNat ≤ 2 ^ 24
open Classical in
noncomputable def eLrg1 (m : EM) : EM := fun env st => match m env st with
  | some (.int j, s1) => if RgW 0 j then some (.lst (intsTo 0 j.toNat), s1) else none
  | _ => none
open Classical in
noncomputable def eLrg2 (m m2 : EM) : EM := fun env st => match m env st with
  | some (.int i, s1) => match m2 env s1 with
    | some (.int j, s2) => if RgW i j then some (.lst (intsTo i (j - i).toNat), s2) else none
    | _ => none
  | _ => none
open Classical in
noncomputable def eTrg1 (m : EM) : EM := fun env st => match m env st with
  | some (.int j, s1) => if RgW 0 j then some (.tup (intsTo 0 j.toNat), s1) else none
  | _ => none
open Classical in
noncomputable def eTrg2 (m m2 : EM) : EM := fun env st => match m env st with
  | some (.int i, s1) => match m2 env s1 with
    | some (.int j, s2) => if RgW i j then some (.tup (intsTo i (j - i).toNat), s2) else none
    | _ => none
  | _ => none
section
variable {X : Cx} {W : Wd} {e e2 : Expr} {p p2 pos pos2 : Pos} {m m2 : EM}
theorem rg_reps {ι : Lay} {H : Hp} (a b : Int) : Reps W ι H (intsTo a (b - a).toNat) (rgV a b) := by
  unfold intsTo rgV
  exact Reps.map fun i _ => by simp only [Rep]
theorem j_lrg1 (hc : X.calm = true) (hgl : Gl X "list") (hml : X.mg "list" = none) (hg : Gl X "range") (hm : X.mg "range" = none) (ha : PE X e (T W m)) (na : starEach [e] X.env = (false, eval e X.env) :: starEach [] X.env := by rfl)
    (no : starEach [.Call (.Name "range" p2) [e] [] pos2] X.env = (false, eval (.Call (.Name "range" p2) [e] [] pos2) X.env) :: starEach [] X.env := by rfl) : PE X (.Call (.Name "list" p) [.Call (.Name "range" p2) [e] [] pos2] [] pos) (T W (eLrg1 m)) :=
  (pe_listRg hc hgl hml (prg_1 hg hm ha na) no).imp fun σ H Q ⟨ι, st, env, d, st', r, n, q, k⟩ => by
    unfold eLrg1 at q
    split at q
    · rename_i j s1 e1
      split at q
      · rename_i hz
        cases q
        refine T.of r n e1 fun v ι1 H1 g1 r1 p1 => ?_
        simp only [Rep] at p1
        subst p1
        refine ⟨j, rfl, hz, fun q hq => ?_⟩
        have := rg_reps (W := W) (ι := ι1) (H := H1) 0 j
        rw [Int.sub_zero] at this
        exact (k.go g1).lst r1 this hq
      · cases q
    · cases q
theorem j_lrg2 (hc : X.calm = true) (hgl : Gl X "list") (hml : X.mg "list" = none) (hg : Gl X "range") (hm : X.mg "range" = none) (ha : PE X e (T W m)) (hb : PE X e2 (T W m2)) (na : starEach [e, e2] X.env = (false, eval e X.env) :: starEach [e2] X.env := by rfl) (nb : starEach [e2] X.env = (false, eval e2 X.env) :: starEach [] X.env := by rfl) (hp : (backTo pos2 (starEach [e2] X.env)).any (·.1) = false := by rfl)
    (no : starEach [.Call (.Name "range" p2) [e, e2] [] pos2] X.env = (false, eval (.Call (.Name "range" p2) [e, e2] [] pos2) X.env) :: starEach [] X.env := by rfl) : PE X (.Call (.Name "list" p) [.Call (.Name "range" p2) [e, e2] [] pos2] [] pos) (T W (eLrg2 m m2)) :=
  (pe_listRg hc hgl hml (prg_2 hg hm ha hb na nb hp) no).imp fun σ H Q ⟨ι, st, env, d, st', r, n, q, k⟩ => by
    unfold eLrg2 at q
    split at q
    · rename_i i s1 e1
      split at q
      · rename_i j s2 e2'
        split at q
        · rename_i hz
          cases q
          refine T.of r n e1 fun v ι1 H1 g1 r1 p1 => T.of r1 (n.grow g1) e2' fun v2 ι2 H2 g2 r2 p2 => ?_
          simp only [Rep] at p1 p2
          subst p1 p2
          exact ⟨i, j, rfl, rfl, hz, fun q hq => (k.go (g1.trans g2)).lst r2 (rg_reps i j) hq⟩
        · cases q
      · cases q
    · cases q
theorem j_trg1 (hc : X.calm = true) (hgl : Gl X "tuple") (hml : X.mg "tuple" = none) (hg : Gl X "range") (hm : X.mg "range" = none) (ha : PE X e (T W m)) (na : starEach [e] X.env = (false, eval e X.env) :: starEach [] X.env := by rfl)
    (no : starEach [.Call (.Name "range" p2) [e] [] pos2] X.env = (false, eval (.Call (.Name "range" p2) [e] [] pos2) X.env) :: starEach [] X.env := by rfl) : PE X (.Call (.Name "tuple" p) [.Call (.Name "range" p2) [e] [] pos2] [] pos) (T W (eTrg1 m)) :=
  (pe_tupRg hc hgl hml (prg_1 hg hm ha na) no).imp fun σ H Q ⟨ι, st, env, d, st', r, n, q, k⟩ => by
    unfold eTrg1 at q
    split at q
    · rename_i j s1 e1
      split at q
      · rename_i hz
        cases q
        refine T.of r n e1 fun v ι1 H1 g1 r1 p1 => ?_
        simp only [Rep] at p1
        subst p1
        refine ⟨j, rfl, hz, fun q hq => ?_⟩
        have := rg_reps (W := W) (ι := ι1) (H := H1) 0 j
        rw [Int.sub_zero] at this
        exact (k.go g1).tup r1 this hq
      · cases q
    · cases q
theorem j_trg2 (hc : X.calm = true) (hgl : Gl X "tuple") (hml : X.mg "tuple" = none) (hg : Gl X "range") (hm : X.mg "range" = none) (ha : PE X e (T W m)) (hb : PE X e2 (T W m2)) (na : starEach [e, e2] X.env = (false, eval e X.env) :: starEach [e2] X.env := by rfl) (nb : starEach [e2] X.env = (false, eval e2 X.env) :: starEach [] X.env := by rfl) (hp : (backTo pos2 (starEach [e2] X.env)).any (·.1) = false := by rfl)
    (no : starEach [.Call (.Name "range" p2) [e, e2] [] pos2] X.env = (false, eval (.Call (.Name "range" p2) [e, e2] [] pos2) X.env) :: starEach [] X.env := by rfl) : PE X (.Call (.Name "tuple" p) [.Call (.Name "range" p2) [e, e2] [] pos2] [] pos) (T W (eTrg2 m m2)) :=
  (pe_tupRg hc hgl hml (prg_2 hg hm ha hb na nb hp) no).imp fun σ H Q ⟨ι, st, env, d, st', r, n, q, k⟩ => by
    unfold eTrg2 at q
    split at q
    · rename_i i s1 e1
      split at q
      · rename_i j s2 e2'
        split at q
        · rename_i hz
          cases q
          refine T.of r n e1 fun v ι1 H1 g1 r1 p1 => T.of r1 (n.grow g1) e2' fun v2 ι2 H2 g2 r2 p2 => ?_
          simp only [Rep] at p1 p2
          subst p1 p2
          exact ⟨i, j, rfl, rfl, hz, fun q hq => (k.go (g1.trans g2)).tup r2 (rg_reps i j) hq⟩
        · cases q
      · cases q
    · cases q
end
section
variable {env : Env} {st : Store} {Q : D → Store → Prop} {m m2 : EM}
theorem ev_lrg1 : EvE (eLrg1 m) env st Q ↔ EvE m env st fun d s1 => ∃ j, d = .int j ∧ RgW 0 j ∧ Q (.lst (intsTo 0 j.toNat)) s1 := by
  unfold EvE eLrg1
  constructor
  · rintro ⟨d, s, e, q⟩
    split at e
    · rename_i j s1 h
      split at e
      · rename_i hz
        cases e
        exact ⟨_, _, h, j, rfl, hz, q⟩
      · cases e
    · cases e
  · rintro ⟨d, s, h, j, rfl, hz, q⟩
    exact ⟨_, s, by rw [h]; simp only [if_pos hz], q⟩
theorem ev_lrg2 : EvE (eLrg2 m m2) env st Q ↔ EvE m env st fun d s1 => EvE m2 env s1 fun d2 s2 => ∃ i j, d = .int i ∧ d2 = .int j ∧ RgW i j ∧ Q (.lst (intsTo i (j - i).toNat)) s2 := by
  unfold EvE eLrg2
  constructor
  · rintro ⟨d, s, e, q⟩
    split at e
    · rename_i i s1 h
      split at e
      · rename_i j s2 h2
        split at e
        · rename_i hz
          cases e
          exact ⟨_, _, h, _, _, h2, i, j, rfl, rfl, hz, q⟩
        · cases e
      · cases e
    · cases e
  · rintro ⟨d, s, h, d2, s2, h2, i, j, rfl, rfl, hz, q⟩
    exact ⟨_, s2, by rw [h]; simp only [h2, if_pos hz], q⟩
theorem ev_trg1 : EvE (eTrg1 m) env st Q ↔ EvE m env st fun d s1 => ∃ j, d = .int j ∧ RgW 0 j ∧ Q (.tup (intsTo 0 j.toNat)) s1 := by
  unfold EvE eTrg1
  constructor
  · rintro ⟨d, s, e, q⟩
    split at e
    · rename_i j s1 h
      split at e
      · rename_i hz
        cases e
        exact ⟨_, _, h, j, rfl, hz, q⟩
      · cases e
    · cases e
  · rintro ⟨d, s, h, j, rfl, hz, q⟩
    exact ⟨_, s, by rw [h]; simp only [if_pos hz], q⟩
theorem ev_trg2 : EvE (eTrg2 m m2) env st Q ↔ EvE m env st fun d s1 => EvE m2 env s1 fun d2 s2 => ∃ i j, d = .int i ∧ d2 = .int j ∧ RgW i j ∧ Q (.tup (intsTo i (j - i).toNat)) s2 := by
  unfold EvE eTrg2
  constructor
  · rintro ⟨d, s, e, q⟩
    split at e
    · rename_i i s1 h
      split at e
      · rename_i j s2 h2
        split at e
        · rename_i hz
          cases e
          exact ⟨_, _, h, _, _, h2, i, j, rfl, rfl, hz, q⟩
        · cases e
      · cases e
    · cases e
  · rintro ⟨d, s, h, d2, s2, h2, i, j, rfl, rfl, hz, q⟩
    exact ⟨_, s2, by rw [h]; simp only [h2, if_pos hz], q⟩
end
/-! ### what dict(..) of pairs holds -/
theorem pairsK_map {α : Type} (f : α → Int) (g : α → D) : ∀ xs : List α, pairsK (xs.map fun x => .tup [.int (f x), g x]) = some (xs.map fun x => Sum.inl (f x), xs.map g)
  | [] => rfl
  | x :: xs => by
    simp only [List.map_cons, pairsK, keyOf, pairsK_map f g xs]
theorem pairsT_map {α : Type} (f f2 : α → Int) (g : α → D) : ∀ xs : List α, pairsT (xs.map fun x => .tup [.tup [.int (f x), .int (f2 x)], g x]) = some (xs.map fun x => [Sum.inl (f x), Sum.inl (f2 x)], xs.map g)
  | [] => rfl
  | x :: xs => by
    simp only [List.map_cons, pairsT, tkeyOf, keysOf, keyOf, Option.map_some, pairsT_map f f2 g xs]
section
variable {κ : Type} [DecidableEq κ]
theorem kHas_iff {k : κ} : ∀ {ks : List κ}, kHas ks k = true ↔ k ∈ ks
  | [] => by simp [kHas]
  | j :: ks => by
    show (decide (j = k) || kHas ks k) = true ↔ _
    rw [Bool.or_eq_true, kHas_iff, List.mem_cons, decide_eq_true_eq]
    constructor
    · rintro (h | h)
      · exact .inl h.symm
      · exact .inr h
    · rintro (h | h)
      · exact .inl h.symm
      · exact .inr h
/-- new keys stand behind the old ones -/
theorem mrg_new : ∀ {k2 : List κ} {v2 : List D} {ks : List κ} {vs : List D}, k2.length = v2.length → k2.Nodup → (∀ k ∈ k2, k ∉ ks) → mrgK ks vs k2 v2 = ks ++ k2 ∧ mrgV ks vs k2 v2 = vs ++ v2
  | [], [], ks, vs, _, _, _ => ⟨by unfold mrgK; simp, by unfold mrgV; simp⟩
  | [], _ :: _, _, _, h, _, _ => by simp at h
  | _ :: _, [], _, _, h, _, _ => by simp at h
  | k :: k2, v :: v2, ks, vs, h, nd, hf => by
    have hn : ¬ kHas ks k = true := fun z => hf k List.mem_cons_self (kHas_iff.mp z)
    have e1 : kPutK ks k = ks ++ [k] := by unfold kPutK; rw [if_neg hn]
    have e2 : kPutV ks vs k v = vs ++ [v] := by unfold kPutV; rw [if_neg hn]
    have nd2 := List.nodup_cons.mp nd
    have ih := mrg_new (k2 := k2) (v2 := v2) (ks := ks ++ [k]) (vs := vs ++ [v]) (by simpa using h) nd2.2 fun j hj z => by
      rcases List.mem_append.mp z with z | z
      · exact hf j (List.mem_cons_of_mem _ hj) z
      · rw [List.mem_singleton] at z
        subst z
        exact nd2.1 hj
    unfold mrgK mrgV
    rw [e1, e2, ih.1, ih.2]
    simp
end
end My

namespace My
open PySem PySem.Spec PyProof.Rows L2
/-! ### pairs of small numbers have hash values of their own -/
def gT (m p1 p2 p5 c a31 a33 a63 : Nat) (hashes : List Int) : Int :=
  let acc := hashes.foldl (init := p5) fun acc h =>
    let acc := (acc + (h % (m : Int)).toNat * p2) % m
    let acc := (acc * a31) % m + acc / a33
    (acc * p1) % m
  let acc := (acc + (hashes.length ^^^ (p5 ^^^ c))) % m
  if acc == m - 1 then 1546275796 else if acc < a63 then acc else (acc : Int) - m
theorem gT_eq (hs : List Int) : Builtin.Tuple.tupleHashOf hs = gT (2 ^ 64) 11400714785074694791 14029467366897019727 2870177450012600261 3527539 (2 ^ 31) (2 ^ 33) (2 ^ 63) hs := rfl
def gA (m p2 : Nat) (x : Nat) (h : Nat) : Nat := (x + h * p2) % m
def gR (m a31 a33 : Nat) (a : Nat) : Nat := (a * a31) % m + a / a33
def gS (m p1 p2 a31 a33 : Nat) (x : Nat) (h : Nat) : Nat := (gR m a31 a33 (gA m p2 x h) * p1) % m
def gE (m c : Nat) (x : Nat) : Nat := (x + c) % m
def gF (m a63 : Nat) (x : Nat) : Int := if x == m - 1 then 1546275796 else if x < a63 then x else (x : Int) - m
theorem gT_two (m p1 p2 p5 c a31 a33 a63 : Nat) (x y : Int) : gT m p1 p2 p5 c a31 a33 a63 [x, y] = gF m a63 (gE m (2 ^^^ (p5 ^^^ c)) (gS m p1 p2 a31 a33 (gS m p1 p2 a31 a33 p5 (x % (m : Int)).toNat) (y % (m : Int)).toNat)) := rfl
theorem p64 : (2 : Nat) ^ 64 = 18446744073709551616 := by decide
theorem p31 : (2 : Nat) ^ 31 = 2147483648 := by decide
theorem p33 : (2 : Nat) ^ 33 = 8589934592 := by decide
theorem p63 : (2 : Nat) ^ 63 = 9223372036854775808 := by decide
theorem pxr : (2 ^^^ (2870177450012600261 ^^^ 3527539) : Nat) = 2870177450013471924 := by decide
def hA (x : Nat) (h : Nat) : Nat := gA 18446744073709551616 14029467366897019727 x h
def hR (a : Nat) : Nat := gR 18446744073709551616 2147483648 8589934592 a
def hS (x : Nat) (h : Nat) : Nat := gS 18446744073709551616 11400714785074694791 14029467366897019727 2147483648 8589934592 x h
def hE (x : Nat) : Nat := gE 18446744073709551616 2870177450013471924 x
def hF (x : Nat) : Int := gF 18446744073709551616 9223372036854775808 x
theorem hS_eq (x h : Nat) : hS x h = (hR (hA x h) * 11400714785074694791) % 18446744073709551616 := by
  unfold hS gS hR hA
  rfl
theorem hash_two (x y : Int) : Builtin.Tuple.tupleHashOf [x, y] = hF (hE (hS (hS 2870177450012600261 (x % ((2 ^ 64 : Nat) : Int)).toNat) (y % ((2 ^ 64 : Nat) : Int)).toNat)) := by
  rw [gT_eq, gT_two, pxr]
  unfold hF hE hS
  rw [p64, p31, p33, p63]
theorem hA_lt {x h : Nat} : hA x h < 18446744073709551616 := Nat.mod_lt _ (by decide)
theorem hS_lt {x h : Nat} : hS x h < 18446744073709551616 := Nat.mod_lt _ (by decide)
theorem hR_eq (a : Nat) : hR a = (a % 8589934592) * 2147483648 + a / 8589934592 := by
  unfold hR gR
  rw [show (18446744073709551616 : Nat) = 8589934592 * 2147483648 from rfl, Nat.mul_mod_mul_right]
theorem hR_lt {a : Nat} (h : a < 18446744073709551616) : hR a < 18446744073709551616 := by
  rw [hR_eq]
  have h1 : a % 8589934592 < 8589934592 := Nat.mod_lt _ (by decide)
  have h2 : a / 8589934592 < 2147483648 := Nat.div_lt_of_lt_mul (by show a < 8589934592 * 2147483648; exact h)
  generalize a % 8589934592 = r at *
  generalize a / 8589934592 = q at *
  omega
theorem hR_inj {a b : Nat} (h : a < 18446744073709551616) (k : b < 18446744073709551616) (e : hR a = hR b) : a = b := by
  rw [hR_eq, hR_eq] at e
  have h2 : a / 8589934592 < 2147483648 := Nat.div_lt_of_lt_mul (by show a < 8589934592 * 2147483648; exact h)
  have k2 : b / 8589934592 < 2147483648 := Nat.div_lt_of_lt_mul (by show b < 8589934592 * 2147483648; exact k)
  rw [← Nat.div_add_mod a 8589934592, ← Nat.div_add_mod b 8589934592]
  generalize a % 8589934592 = r at *
  generalize a / 8589934592 = q at *
  generalize b % 8589934592 = r2 at *
  generalize b / 8589934592 = q2 at *
  have e1 : r = r2 := by omega
  have e2 : q = q2 := by omega
  rw [e1, e2]
theorem mul_inj {x y : Nat} (h : x < 18446744073709551616) (k : y < 18446744073709551616) (e : (x * 11400714785074694791) % 18446744073709551616 = (y * 11400714785074694791) % 18446744073709551616) : x = y := by
  have h1 : ∀ z : Nat, z < 18446744073709551616 → (((z * 11400714785074694791) % 18446744073709551616) * 614540362697595703) % 18446744073709551616 = z := fun z hz => by
    rw [Nat.mod_mul_mod, Nat.mul_assoc, Nat.mul_mod, show 11400714785074694791 * 614540362697595703 % 18446744073709551616 = 1 from rfl, Nat.mul_one, Nat.mod_mod, Nat.mod_eq_of_lt hz]
  rw [← h1 x h, ← h1 y k, e]
theorem mul_inj2 {x y : Nat} (h : x < 18446744073709551616) (k : y < 18446744073709551616) (e : (x * 14029467366897019727) % 18446744073709551616 = (y * 14029467366897019727) % 18446744073709551616) : x = y := by
  have h1 : ∀ z : Nat, z < 18446744073709551616 → (((z * 14029467366897019727) % 18446744073709551616) * 839798700976720815) % 18446744073709551616 = z := fun z hz => by
    rw [Nat.mod_mul_mod, Nat.mul_assoc, Nat.mul_mod, show 14029467366897019727 * 839798700976720815 % 18446744073709551616 = 1 from rfl, Nat.mul_one, Nat.mod_mod, Nat.mod_eq_of_lt hz]
  rw [← h1 x h, ← h1 y k, e]
theorem add_c {x : Nat} (y1 y2 : Nat) (e : (x + y1) % 18446744073709551616 = (x + y2) % 18446744073709551616) : y1 % 18446744073709551616 = y2 % 18446744073709551616 := by omega
theorem hA_inj {x h1 h2 : Nat} (a : h1 < 18446744073709551616) (b : h2 < 18446744073709551616) (e : hA x h1 = hA x h2) : h1 = h2 := by
  exact mul_inj2 a b (add_c (h1 * 14029467366897019727) (h2 * 14029467366897019727) e)
theorem hS_inj {x h1 h2 : Nat} (a : h1 < 18446744073709551616) (b : h2 < 18446744073709551616) (e : hS x h1 = hS x h2) : h1 = h2 :=
  by
  rw [hS_eq, hS_eq] at e
  exact hA_inj a b (hR_inj hA_lt hA_lt (mul_inj (hR_lt hA_lt) (hR_lt hA_lt) e))
theorem hE_lt {x : Nat} : hE x < 18446744073709551616 := Nat.mod_lt _ (by decide)
theorem hE_inj {x y : Nat} (a : x < 18446744073709551616) (b : y < 18446744073709551616) (e : hE x = hE y) : x = y := by
  unfold hE gE at e
  omega
theorem hF_inj {x y : Nat} (a : x < 18446744073709551615) (b : y < 18446744073709551615) (e : hF x = hF y) : x = y := by
  unfold hF gF at e
  rw [if_neg (fun z => absurd (eq_of_beq z) (Nat.ne_of_lt a)), if_neg (fun z => absurd (eq_of_beq z) (Nat.ne_of_lt b))] at e
  split at e <;> split at e <;> omega
theorem hF_in {x : Nat} (a : x < 18446744073709551615) : -(9223372036854775808 : Int) ≤ hF x ∧ hF x < 9223372036854775808 ∧ hF x ≠ -1 := by
  unfold hF gF
  rw [if_neg (fun z => absurd (eq_of_beq z) (Nat.ne_of_lt a))]
  split <;> omega
/-- none of them is the odd one -/
theorem hE_odd : ∀ b, b < 101 → ∀ e, e < 101 → hE (hS (hS 2870177450012600261 b) e) ≠ 18446744073709551615 := by decide +kernel
theorem hKs_two {b e : Nat} (hb : b < 101) (he : e < 101) : hKs [Sum.inl (b : Int), Sum.inl (e : Int)] = hF (hE (hS (hS 2870177450012600261 b) e)) := by
  have hi : ∀ n : Nat, n < 101 → hashInt (n : Int) = (n : Int) := by decide +kernel
  have hm : ∀ n : Nat, n < 101 → ((n : Int) % ((2 ^ 64 : Nat) : Int)).toNat = n := fun n hn => by
    have : ((2 ^ 64 : Nat) : Int) = 18446744073709551616 := by decide
    rw [this]
    omega
  have e1 : Builtin.Tuple.tupleHashOf ([Sum.inl (b : Int), Sum.inl (e : Int)].map hK0) = hF (hE (hS (hS 2870177450012600261 b) e)) := by
    rw [List.map_cons, List.map_cons, List.map_nil]
    have k0 : ∀ i : Int, hK0 (Sum.inl i) = hashInt i := fun _ => rfl
    rw [k0, k0, hi b hb, hi e he, hash_two, hm b hb, hm e he]
  unfold hKs
  rw [e1]
  have hlt : hE (hS (hS 2870177450012600261 b) e) < 18446744073709551615 := by
    have h1 := hE_odd b hb e he
    have h2 := hE_lt (x := hS (hS 2870177450012600261 b) e)
    omega
  obtain ⟨q1, q2, q3⟩ := hF_in hlt
  unfold reduceHash
  rw [if_pos (by simp only [Bool.and_eq_true, decide_eq_true_eq]; exact ⟨q1, q2⟩), if_neg (by simpa using q3)]
theorem hKs_inj {b e1 e2 : Nat} (hb : b < 101) (h1 : e1 < 101) (h2 : e2 < 101) (e : hKs [Sum.inl (b : Int), Sum.inl (e1 : Int)] = hKs [Sum.inl (b : Int), Sum.inl (e2 : Int)]) : e1 = e2 := by
  rw [hKs_two hb h1, hKs_two hb h2] at e
  have o : ∀ z, z < 101 → hE (hS (hS 2870177450012600261 b) z) < 18446744073709551615 := fun z hz => by
    have h1 := hE_odd b hb z hz
    have h2 := hE_lt (x := hS (hS 2870177450012600261 b) z)
    omega
  exact hS_inj (by omega) (by omega) (hE_inj hS_lt hS_lt (hF_inj (o _ h1) (o _ h2) e))
theorem nat_of {b : Int} (h : 1 ≤ b) (k : b ≤ 100) : ∃ n : Nat, b = (n : Int) ∧ n < 101 := ⟨b.toNat, by omega, by omega⟩
theorem keys_inj {b x y : Int} (b1 : 1 ≤ b) (b2 : b ≤ 100) (x1 : 1 ≤ x) (x2 : x ≤ 100) (y1 : 1 ≤ y) (y2 : y ≤ 100) (e : hKs [Sum.inl b, Sum.inl x] = hKs [Sum.inl b, Sum.inl y]) : x = y := by
  obtain ⟨b', rfl, hb⟩ := nat_of b1 b2
  obtain ⟨x', rfl, hx⟩ := nat_of x1 x2
  obtain ⟨y', rfl, hy⟩ := nat_of y1 y2
  rw [hKs_inj hb hx hy e]
theorem nodup_on {α β : Type} {f : α → β} : ∀ {l : List α}, (∀ x ∈ l, ∀ y ∈ l, f x = f y → x = y) → l.Nodup → (l.map f).Nodup
  | [], _, _ => List.nodup_nil
  | a :: l, h, nd => by
    have nd2 := List.nodup_cons.mp nd
    rw [List.map_cons, List.nodup_cons]
    refine ⟨fun m => ?_, nodup_on (fun x hx y hy => h x (List.mem_cons_of_mem _ hx) y (List.mem_cons_of_mem _ hy)) nd2.2⟩
    obtain ⟨y, hy, e⟩ := List.mem_map.mp m
    exact nd2.1 (h y (List.mem_cons_of_mem _ hy) a List.mem_cons_self e ▸ hy)
/-- the keys (b, e), e from rules -/
theorem keys_ints {b : Int} {ls : List Int} : ∀ k ∈ ls.map (fun e => ([Sum.inl b, Sum.inl e] : List Key)), intsK k = true := by
  intro k hk
  obtain ⟨e, _, rfl⟩ := List.mem_map.mp hk
  rfl
theorem keys_apart {S b : Int} {ls : List Int} (R : Rules S ls) (hb : b ∈ ls) : ((ls.map fun e => ([Sum.inl b, Sum.inl e] : List Key)).map hKs).Nodup := by
  rw [List.map_map]
  refine nodup_on (f := fun e => hKs [Sum.inl b, Sum.inl e]) ?_ (R.asc.imp fun {x y} h => Int.ne_of_lt h)
  intro x hx y hy e
  exact keys_inj (R.mem b hb).1 (Int.le_trans (R.mem b hb).2 R.s2) (R.mem x hx).1 (Int.le_trans (R.mem x hx).2 R.s2) (R.mem y hy).1 (Int.le_trans (R.mem y hy).2 R.s2) e
end My

namespace My
open PySem PySem.Spec PyProof.Rows L2
/-! ### zip of a list and a tuple (after HandS.Zip0 and HandS.Zip) -/
section
variable {prog : Program} {w : World} {A : Around} {E : Value → Shared → Prop} {s : Shared}
theorem zipM_next_item {z TI TO i1 i2 l1 l2 : Addr} {p1 p2 : Nat} {us ws : Array Value} {x y a b : Value} {Q : Value → Shared → Prop} (ap : ZipApart z TI TO i1 i2 l1 l2)
    (ez : IsZip s.heap z TI TO .none) (eTI : IsPair s.heap TI (.ref i1) (.ref i2)) (eTO : IsPair s.heap TO a b)
    (h1 : s.heap.IsListIter i1 l1 p1) (h2 : s.heap.IsTupleIter i2 l2 p2) (el1 : s.heap.IsList l1 us) (el2 : s.heap.IsTuple l2 ws) (ex : us[p1]? = some x) (ey : ws[p2]? = some y)
    (want : ∀ h', IsZip h' z TI TO (rawInt s.heap.objs.size) → IsPair h' TO x y → h'.IsListIter i1 l1 (p1 + 1) → h'.IsTupleIter i2 l2 (p2 + 1) → IsPair h' s.heap.objs.size x y → h'.objs.size = s.heap.objs.size + 1 →
      (∀ c o, c ≠ z → c ≠ TO → c ≠ i1 → c ≠ i2 → s.heap.get? c = some o → h'.get? c = some o) → Q (.ref s.heap.objs.size) { s with heap := h' }) :
    wpAny (model prog w) A (Builtin.«zip.__next__» ⟨[.ref z], []⟩) (fun fin s' => ∃ v, fin = .done (.ret v) ∧ Q v s') E s := by
  show wpAny _ _ (field (.ref z) 2 >>= _) _ _ _
  refine wpAny_bind (wpAny_field ez rfl (x := .bool false) rfl ?_)
  show wpAny _ _ (field (.ref z) 3 >>= _) _ _ _
  refine wpAny_bind (wpAny_field ez rfl (x := .ref TI) rfl ?_)
  refine wpAny_bind (wpAny_seqItems eTI rfl ?_)
  show wpAny _ _ (Builtin.SmallTypes.ownedTupleIsFree (.ref z) >>= _) _ _ _
  refine wpAny_bind ?_
  unfold Builtin.SmallTypes.ownedTupleIsFree
  refine wpAny_bind (wpAny_field ez rfl (x := .none) rfl (wpAny_pure ?_))
  simp only [if_true]
  refine wpAny_bind (wpAny_rule ?_)
  refine wpAny_bind (wpAny_field ez rfl (x := .ref TO) rfl ?_)
  refine wpAny_bind (wpAny_setField_rec ez (by simp) fun gx₁ ezx₁ sbx₁ => ?_)
  replace ezx₁ : IsZip gx₁ z TI TO .ellipsis := ezx₁
  refine wpAny_bind ?_
  simp only [List.zipIdx_cons, List.zipIdx_nil, List.forIn_cons, List.forIn_nil]

  refine wpAny_bind (wpAny_bind (wpAny_onRaise ?_))
  show wpAny _ _ (Builtin.SmallTypes.nextOf (.ref i1) >>= _) _ _ _
  refine wpAny_bind (wpAny_nextOf_list_item (h1.extBut sbx₁.extBut ap.i1z) (el1.extBut sbx₁.extBut ap.l1z) ex fun gx₂ i1x₂ sbx₂ => wpAny_pure ?_)
  have eTOx₂ : IsPair gx₂ TO a b := sbx₂.extBut _ _ ap.TOi1 (sbx₁.extBut _ _ ap.TOz eTO)
  refine wpAny_bind (wpAny_seqItems eTOx₂ rfl ?_)
  refine wpAny_bind (wpAny_updateSeq_pair eTOx₂ fun gx₃ eTOx₃ sbx₃ => ?_)
  replace eTOx₃ : IsPair gx₃ TO x b := eTOx₃
  refine wpAny_bind (wpAny_letGo (wpAny_pure ?_))

  refine wpAny_bind (wpAny_bind (wpAny_onRaise ?_))
  show wpAny _ _ (Builtin.SmallTypes.nextOf (.ref i2) >>= _) _ _ _
  refine wpAny_bind (RZ.nextOf_tuple_item (((h2.extBut sbx₁.extBut ap.i2z).extBut sbx₂.extBut ap.i12.symm).extBut sbx₃.extBut ap.TOi2.symm)
    (((el2.extBut sbx₁.extBut ap.l2z).extBut sbx₂.extBut ap.l2i1).extBut sbx₃.extBut ap.l2TO) ey fun gx₄ i2x₄ sbx₄ => wpAny_pure ?_)
  have eTOx₄ : IsPair gx₄ TO x b := sbx₄.extBut _ _ ap.TOi2 eTOx₃
  refine wpAny_bind (wpAny_seqItems eTOx₄ rfl ?_)
  refine wpAny_bind (wpAny_updateSeq_pair eTOx₄ fun gx₅ eTOx₅ sbx₅ => ?_)
  replace eTOx₅ : IsPair gx₅ TO x y := eTOx₅
  refine wpAny_bind (wpAny_letGo (wpAny_pure (wpAny_pure ?_)))

  refine wpAny_bind (wpAny_seqItems eTOx₅ rfl ?_)
  refine wpAny_bind (wpAny_newTuple ?_)
  have esz : gx₅.objs.size = s.heap.objs.size := by rw [sbx₅.1, sbx₄.1, sbx₃.1, sbx₂.1, sbx₁.1]
  have ezx₅ : IsZip gx₅ z TI TO .ellipsis := sbx₅.extBut _ _ ap.TOz.symm (sbx₄.extBut _ _ ap.i2z.symm (sbx₃.extBut _ _ ap.TOz.symm (sbx₂.extBut _ _ ap.i1z.symm ezx₁)))
  have kpx₅ : ∀ c o, c ≠ z → c ≠ TO → c ≠ i1 → c ≠ i2 → s.heap.get? c = some o → gx₅.get? c = some o := fun c o c1 c2 c3 c4 e =>
    sbx₅.extBut _ _ c2 (sbx₄.extBut _ _ c4 (sbx₃.extBut _ _ c2 (sbx₂.extBut _ _ c3 (sbx₁.extBut _ _ c1 e))))
  have i1x₅ : gx₅.IsListIter i1 l1 (p1 + 1) := ((i1x₂.extBut sbx₃.extBut ap.TOi1.symm).extBut sbx₄.extBut ap.i12).extBut sbx₅.extBut ap.TOi1.symm
  have i2x₅ : gx₅.IsTupleIter i2 l2 (p2 + 1) := i2x₄.extBut sbx₅.extBut ap.TOi2.symm
  have zlt : z < gx₅.objs.size := Heap.lt_size ezx₅
  have tlt : TO < gx₅.objs.size := Heap.lt_size eTOx₅
  have i1lt : i1 < gx₅.objs.size := by obtain ⟨_, e, _⟩ := i1x₅; exact Heap.lt_size e
  have i2lt : i2 < gx₅.objs.size := by obtain ⟨_, e, _⟩ := i2x₅; exact Heap.lt_size e
  show wpAny _ _ (Builtin.SmallTypes.ownedTupleHandOut (.ref z) (.ref gx₅.objs.size) >>= _) _ _ _
  refine wpAny_bind ?_
  unfold Builtin.SmallTypes.ownedTupleHandOut
  have ezx₆ : IsZip (gx₅.push { cls := .type "tuple", data := .seq #[x, y] }) z TI TO .ellipsis := Heap.get?_push_of_some _ ezx₅
  refine wpAny_bind (wpAny_setField_rec ezx₆ (by simp) fun gx₇ ezx₇ sbx₇ => ?_)
  replace ezx₇ : IsZip gx₇ z TI TO (rawInt gx₅.objs.size) := ezx₇
  refine wpAny_setField_rec ezx₇ (by simp) fun gx₈ ezx₈ sbx₈ => ?_
  replace ezx₈ : IsZip gx₈ z TI TO (rawInt gx₅.objs.size) := ezx₈
  have upk : ∀ c o, c ≠ z → gx₅.get? c = some o → gx₈.get? c = some o := fun c o c1 e => sbx₈.extBut _ _ c1 (sbx₇.extBut _ _ c1 (Heap.get?_push_of_some _ e))
  have eTx₈ : IsPair gx₈ gx₅.objs.size x y := sbx₈.extBut _ _ (Nat.ne_of_gt zlt) (sbx₇.extBut _ _ (Nat.ne_of_gt zlt) (Heap.get?_push_size _ rfl))
  have hz8 : gx₈.objs.size = gx₅.objs.size + 1 := by rw [sbx₈.1, sbx₇.1, Heap.size_push]
  rw [esz] at ezx₈ eTx₈ hz8
  refine wpAny_pure ⟨_, rfl, ?_⟩
  show Q (.ref gx₅.objs.size) _
  rw [esz]
  exact want gx₈ ezx₈ (upk _ _ ap.TOz eTOx₅) (i1x₅.at fun o e => upk _ o ap.i1z e) (i2x₅.at fun o e => upk _ o ap.i2z e) eTx₈ hz8 fun c o c1 c2 c3 c4 e => upk c o c1 (kpx₅ c o c1 c2 c3 c4 e)

theorem zipM_next_end {z TI TO i1 i2 l1 l2 : Addr} {p1 p2 : Nat} {us ws : Array Value} {a b : Value} {Q : Fin → Shared → Prop} (calm : A.handled = none) (ap : ZipApart z TI TO i1 i2 l1 l2)
    (ez : IsZip s.heap z TI TO .none) (eTI : IsPair s.heap TI (.ref i1) (.ref i2)) (eTO : IsPair s.heap TO a b)
    (h1 : s.heap.IsListIter i1 l1 p1) (h2 : s.heap.IsTupleIter i2 l2 p2) (el1 : s.heap.IsList l1 us) (el2 : s.heap.IsTuple l2 ws) (fin : us[p1]? = none ∨ ws[p2]? = none)
    (hE : ∀ h' e, (∀ c o, c ≠ z → c ≠ TO → c ≠ i1 → c ≠ i2 → s.heap.get? c = some o → h'.get? c = some o) → (∃ o, h'.get? e = some o ∧ o.cls = .type "StopIteration") → E (.ref e) { s with heap := h' }) :
    wpAny (model prog w) A (Builtin.«zip.__next__» ⟨[.ref z], []⟩) Q E s := by
  show wpAny _ _ (field (.ref z) 2 >>= _) _ _ _
  refine wpAny_bind (wpAny_field ez rfl (x := .bool false) rfl ?_)
  show wpAny _ _ (field (.ref z) 3 >>= _) _ _ _
  refine wpAny_bind (wpAny_field ez rfl (x := .ref TI) rfl ?_)
  refine wpAny_bind (wpAny_seqItems eTI rfl ?_)
  show wpAny _ _ (Builtin.SmallTypes.ownedTupleIsFree (.ref z) >>= _) _ _ _
  refine wpAny_bind ?_
  unfold Builtin.SmallTypes.ownedTupleIsFree
  refine wpAny_bind (wpAny_field ez rfl (x := .none) rfl (wpAny_pure ?_))
  simp only [if_true]
  refine wpAny_bind (wpAny_rule ?_)
  refine wpAny_bind (wpAny_field ez rfl (x := .ref TO) rfl ?_)
  refine wpAny_bind (wpAny_setField_rec ez (by simp) fun gx₁ ezx₁ sbx₁ => ?_)
  replace ezx₁ : IsZip gx₁ z TI TO .ellipsis := ezx₁
  refine wpAny_bind ?_
  simp only [List.zipIdx_cons, List.zipIdx_nil, List.forIn_cons, List.forIn_nil]
  refine wpAny_bind (wpAny_bind (wpAny_onRaise ?_))
  show wpAny _ _ (Builtin.SmallTypes.nextOf (.ref i1) >>= _) _ _ _
  cases ex : us[p1]? with
  | none =>
    refine wpAny_bind (wpAny_nextOf_list_end calm (h1.extBut sbx₁.extBut ap.i1z) (el1.extBut sbx₁.extBut ap.l1z) ex fun gx₂ e sbx₂ he => ?_)
    obtain ⟨oe, eoe, ece⟩ := he
    have ezx₂ : IsZip gx₂ z TI TO .ellipsis := sbx₂ _ _ ap.i1z.symm ezx₁
    have nez : e ≠ z := fun x => by subst x; rw [ezx₂] at eoe; cases eoe; simp at ece
    refine wpAny_setField_rec ezx₂ (by simp) fun gx₃ _ sbx₃ => hE gx₃ e (fun c o c1 _ c3 _ x => sbx₃.extBut _ _ c1 (sbx₂ _ _ c3 (sbx₁.extBut _ _ c1 x))) ⟨oe, sbx₃.extBut _ _ nez eoe, ece⟩
  | some x =>
    have ey : ws[p2]? = none := by rcases fin with h | h; rw [ex] at h; cases h; exact h
    refine wpAny_bind (wpAny_nextOf_list_item (h1.extBut sbx₁.extBut ap.i1z) (el1.extBut sbx₁.extBut ap.l1z) ex fun gx₂ i1x₂ sbx₂ => wpAny_pure ?_)
    have eTOx₂ : IsPair gx₂ TO a b := sbx₂.extBut _ _ ap.TOi1 (sbx₁.extBut _ _ ap.TOz eTO)
    refine wpAny_bind (wpAny_seqItems eTOx₂ rfl ?_)
    refine wpAny_bind (wpAny_updateSeq_pair eTOx₂ fun gx₃ eTOx₃ sbx₃ => ?_)
    refine wpAny_bind (wpAny_letGo (wpAny_pure ?_))
    refine wpAny_bind (wpAny_bind (wpAny_onRaise ?_))
    show wpAny _ _ (Builtin.SmallTypes.nextOf (.ref i2) >>= _) _ _ _
    refine wpAny_bind (RZ.nextOf_tuple_end calm (((h2.extBut sbx₁.extBut ap.i2z).extBut sbx₂.extBut ap.i12.symm).extBut sbx₃.extBut ap.TOi2.symm)
      (((el2.extBut sbx₁.extBut ap.l2z).extBut sbx₂.extBut ap.l2i1).extBut sbx₃.extBut ap.l2TO) ey fun gx₄ e sbx₄ he => ?_)
    obtain ⟨oe, eoe, ece⟩ := he
    have ezx₄ : IsZip gx₄ z TI TO .ellipsis := sbx₄ _ _ ap.i2z.symm (sbx₃.extBut _ _ ap.TOz.symm (sbx₂.extBut _ _ ap.i1z.symm ezx₁))
    have nez : e ≠ z := fun x => by subst x; rw [ezx₄] at eoe; cases eoe; simp at ece
    refine wpAny_setField_rec ezx₄ (by simp) fun gx₅ _ sbx₅ => hE gx₅ e (fun c o c1 c2 c3 c4 x => sbx₅.extBut _ _ c1 (sbx₄ _ _ c4 (sbx₃.extBut _ _ c2 (sbx₂.extBut _ _ c3 (sbx₁.extBut _ _ c1 x))))) ⟨oe, sbx₅.extBut _ _ nez eoe, ece⟩

theorem pyNext_zipM_item {z TI TO i1 i2 l1 l2 : Addr} {p1 p2 : Nat} {us ws : Array Value} {x y a b : Value} {Q : Option Value → Shared → Prop} (ap : ZipApart z TI TO i1 i2 l1 l2)
    (ez : IsZip s.heap z TI TO .none) (eTI : IsPair s.heap TI (.ref i1) (.ref i2)) (eTO : IsPair s.heap TO a b)
    (h1 : s.heap.IsListIter i1 l1 p1) (h2 : s.heap.IsTupleIter i2 l2 p2) (el1 : s.heap.IsList l1 us) (el2 : s.heap.IsTuple l2 ws) (ex : us[p1]? = some x) (ey : ws[p2]? = some y)
    (want : ∀ h', IsZip h' z TI TO (rawInt s.heap.objs.size) → IsPair h' TO x y → h'.IsListIter i1 l1 (p1 + 1) → h'.IsTupleIter i2 l2 (p2 + 1) → IsPair h' s.heap.objs.size x y → h'.objs.size = s.heap.objs.size + 1 →
      (∀ c o, c ≠ z → c ≠ TO → c ≠ i1 → c ≠ i2 → s.heap.get? c = some o → h'.get? c = some o) → Q (some (.ref s.heap.objs.size)) { s with heap := h' }) :
    wpAny (model prog w) A (pyNext (.ref z)) Q E s := by
  have eT : s.TypeIs (.ref z) "zip" := ⟨_, ez, rfl⟩
  unfold pyNext
  exact wpAny_bind (wpAny_attempt (wpAny_callSpecial?_slot (name := Str.ofString "__next__") eT PySem.F.slot_zip_next
    (wpAny_call_entry PySem.F.slot_zip_next eT PySem.F.entry_zip_next
      (zipM_next_item ap ez eTI eTO h1 h2 el1 el2 ex ey fun h' y1 y2 y3 y4 y5 y6 y7 => wpAny_pure (want h' y1 y2 y3 y4 y5 y6 y7)) (PySem.F.args_zip_next_1 _))))

theorem pyNext_zipM_end {z TI TO i1 i2 l1 l2 : Addr} {p1 p2 : Nat} {us ws : Array Value} {a b : Value} {Q : Option Value → Shared → Prop} (calm : A.handled = none) (ap : ZipApart z TI TO i1 i2 l1 l2)
    (ez : IsZip s.heap z TI TO .none) (eTI : IsPair s.heap TI (.ref i1) (.ref i2)) (eTO : IsPair s.heap TO a b)
    (h1 : s.heap.IsListIter i1 l1 p1) (h2 : s.heap.IsTupleIter i2 l2 p2) (el1 : s.heap.IsList l1 us) (el2 : s.heap.IsTuple l2 ws) (fin : us[p1]? = none ∨ ws[p2]? = none)
    (want : ∀ h', (∀ c o, c ≠ z → c ≠ TO → c ≠ i1 → c ≠ i2 → s.heap.get? c = some o → h'.get? c = some o) → Q none { s with heap := h' }) : wpAny (model prog w) A (pyNext (.ref z)) Q E s := by
  have eT : s.TypeIs (.ref z) "zip" := ⟨_, ez, rfl⟩
  unfold pyNext
  refine wpAny_bind (wpAny_attempt (wpAny_callSpecial?_slot (name := Str.ofString "__next__") eT PySem.F.slot_zip_next
    (wpAny_call_entry PySem.F.slot_zip_next eT PySem.F.entry_zip_next (zipM_next_end calm ap ez eTI eTO h1 h2 el1 el2 fin fun h' e hk he => ?_) (PySem.F.args_zip_next_1 _))))
  obtain ⟨o, ho, hc⟩ := he
  refine wpAny_bind (wpAny_isInstance (T := "StopIteration") (b := true) ⟨o, ho, hc⟩ isSubtype_stop ?_)
  exact wpAny_pure (want _ hk)

abbrev zipMH1 (h : Heap) (l1 : Addr) : Heap := h.push { cls := .type "list_iterator", data := .fields #[.ref l1, .int 0 0] }
abbrev zipMH2 (h : Heap) (l1 l2 : Addr) : Heap := (zipMH1 h l1).push { cls := .type "tuple_iterator", data := .fields #[.ref l2, .int 0 0] }
abbrev zipMH3 (h : Heap) (l1 l2 : Addr) : Heap := (zipMH2 h l1 l2).push { cls := .type "tuple", data := .seq #[.ref h.objs.size, .ref (zipMH1 h l1).objs.size] }
abbrev zipMH4 (h : Heap) (l1 l2 : Addr) : Heap := (zipMH3 h l1 l2).push { cls := .type "tuple", data := .seq #[.none, .none] }
abbrev zipMH5 (h : Heap) (l1 l2 : Addr) : Heap := (zipMH4 h l1 l2).push { cls := .type "zip", data := .fields #[.none, .bool false, .bool false, .ref (zipMH2 h l1 l2).objs.size, .ref (zipMH3 h l1 l2).objs.size] }

theorem meets_zipM_new (l1 l2 : Addr) (us ws : Array Value) :
    Meets (Builtin.«zip.__new__» ⟨[.type "zip", .ref l1, .ref l2], []⟩) (fun _ R s => s.heap.IsList l1 us ∧ s.heap.IsTuple l2 ws ∧
      R (.ok (.ret (.ref (zipMH4 s.heap l1 l2).objs.size))) { s with heap := zipMH5 s.heap l1 l2 }) :=
  .of_wp fun prog w A R s h => by
    obtain ⟨hp, g, d, tk, os⟩ := s; obtain ⟨el1, el2, h⟩ := h
    have esub := sub_zip
    have eL1 : Heap.IsList (Shared.heap ⟨hp, g, d, tk, os⟩) l1 us := el1
    have eL2 : Heap.IsTuple (Shared.heap ⟨hp.push { cls := .type "list_iterator", data := .fields #[.ref l1, .int 0 0] }, g, d, tk, os⟩) l2 ws := Heap.IsTuple.push el2 _
    wp_walk using wpAny_pyIter_list eL1, wpAny_pyIter_tuple eL2
    exact ⟨_, rfl, h⟩

section
variable {prog : Program} {w : World} {A : Around} {E : Value → Shared → Prop} {s : Shared}

theorem call_zipM {l1 l2 : Addr} {us ws : Array Value} {Q : Value → Shared → Prop} (el1 : s.heap.IsList l1 us) (el2 : s.heap.IsTuple l2 ws)
    (h : ∀ h', IsZip h' (s.heap.objs.size + 4) (s.heap.objs.size + 2) (s.heap.objs.size + 3) .none → IsPair h' (s.heap.objs.size + 2) (.ref s.heap.objs.size) (.ref (s.heap.objs.size + 1)) →
      IsPair h' (s.heap.objs.size + 3) .none .none → h'.IsListIter s.heap.objs.size l1 0 → h'.IsTupleIter (s.heap.objs.size + 1) l2 0 → h'.objs.size = s.heap.objs.size + 5 →
      (∀ c o, s.heap.get? c = some o → h'.get? c = some o) → Q (.ref (s.heap.objs.size + 4)) { s with heap := h' }) :
    wpAny (model prog w) A (call (.type "zip") [.ref l1, .ref l2]) Q E s := by
  refine callType_new PySem.F.called_zip (by decide) (PySem.F.typeCall_zip_2 _ _) (PySem.F.newCall_zip_2 _ _) (fun obj => PySem.F.args_object_init_3 obj _ _) PySem.F.entry_zip_new
    (meets_zipM_new l1 l2 us ws) ⟨el1, el2, ?_⟩
  have q1 : (zipMH1 s.heap l1).objs.size = s.heap.objs.size + 1 := Heap.size_push ..
  have q2 : (zipMH2 s.heap l1 l2).objs.size = s.heap.objs.size + 2 := by rw [Heap.size_push, q1]
  have q3 : (zipMH3 s.heap l1 l2).objs.size = s.heap.objs.size + 3 := by rw [Heap.size_push, q2]
  have q4 : (zipMH4 s.heap l1 l2).objs.size = s.heap.objs.size + 4 := by rw [Heap.size_push, q3]
  have q5 : (zipMH5 s.heap l1 l2).objs.size = s.heap.objs.size + 5 := by rw [Heap.size_push, q4]
  have w5 : (zipMH5 s.heap l1 l2).get? (zipMH4 s.heap l1 l2).objs.size = some _ := Heap.get?_push_size _ rfl
  have w4 : (zipMH5 s.heap l1 l2).get? (zipMH3 s.heap l1 l2).objs.size = some _ := Heap.get?_push_of_some _ (Heap.get?_push_size _ rfl)
  have w3 : (zipMH5 s.heap l1 l2).get? (zipMH2 s.heap l1 l2).objs.size = some _ := Heap.get?_push_of_some _ (Heap.get?_push_of_some _ (Heap.get?_push_size _ rfl))
  have w2 : (zipMH5 s.heap l1 l2).get? (zipMH1 s.heap l1).objs.size = some _ := Heap.get?_push_of_some _ (Heap.get?_push_of_some _ (Heap.get?_push_of_some _ (Heap.get?_push_size _ rfl)))
  have w1 : (zipMH5 s.heap l1 l2).get? s.heap.objs.size = some _ := Heap.get?_push_of_some _ (Heap.get?_push_of_some _ (Heap.get?_push_of_some _ (Heap.get?_push_of_some _ (Heap.get?_push_size _ rfl))))
  show _ ∧ _
  rw [q2, q3, q4] at w5
  rw [q1, q2] at w3
  rw [q3] at w4
  rw [q1] at w2
  rw [q4]
  exact ⟨⟨_, w5, rfl⟩, h _ w5 w3 w4 ⟨_, w1, rfl, rfl⟩ ⟨_, w2, rfl, rfl⟩ q5 fun c o x =>
    Heap.get?_push_of_some _ (Heap.get?_push_of_some _ (Heap.get?_push_of_some _ (Heap.get?_push_of_some _ (Heap.get?_push_of_some _ x))))⟩
/-- the tuples at a and b as they stand at each turn, the items in fresh pairs -/
def ItzM (K : PySem.W.Frag) (a b : Addr) : It :=
  ⟨fun i H => ∃ (us ws : List V) (x y : V), SqL K H a us ∧ SqT K H b ws ∧ us[i]? = some x ∧ ws[i]? = some y,
    fun i H v H' => ∃ T x y, v = .ref T ∧ H T = none ∧ H' = upd H T (.tup [x, y]) ∧ (∀ us, SqL K H a us → us[i]? = some x) ∧ ∀ ws, SqT K H b ws → ws[i]? = some y,
    fun i H => ∃ us ws : List V, SqL K H a us ∧ SqT K H b ws ∧ (us.length ≤ i ∨ ws.length ≤ i)⟩
theorem turn_zipM {P : Program} {w : World} {K : PySem.W.Frag} {els : List Expr} {kq : Nat} {tps : Pos} {a b z TI TO i1 i2 : Addr} (ap : ZipApart z TI TO i1 i2 a b) :
    Turn P w K (.Tuple els kq tps) (ItzM K a b) [z, TI, TO, i1, i2] z (fun i h => IsZip h z TI TO .none ∧ IsPair h TI (.ref i1) (.ref i2) ∧ (∃ x y, IsPair h TO x y) ∧ h.IsListIter i1 a i ∧ h.IsTupleIter i2 b i) where
  mem := by simp
  obj := fun i h st c hc => by
    obtain ⟨ez, eTI, ⟨x, y, eTO⟩, ⟨o1, e1, _, d1⟩, ⟨o2, e2, _, d2⟩⟩ := st
    have e' : c = z ∨ c = TI ∨ c = TO ∨ c = i1 ∨ c = i2 := by simpa using hc
    rcases e' with q | q | q | q | q
    · rw [q]; exact ⟨_, ez, fun v q => nomatch q⟩
    · rw [q]; exact ⟨_, eTI, fun v q => nomatch q⟩
    · rw [q]; exact ⟨_, eTO, fun v q => nomatch q⟩
    · rw [q]; exact ⟨o1, e1, fun v q => by rw [d1] at q; cases q⟩
    · rw [q]; exact ⟨o2, e2, fun v q => by rw [d2] at q; cases q⟩
  keep := fun i h h' st k => by
    obtain ⟨ez, eTI, ⟨x, y, eTO⟩, h1, h2⟩ := st
    exact ⟨k z (by simp) _ ez, k TI (by simp) _ eTI, ⟨x, y, k TO (by simp) _ eTO⟩, h1.at fun o q => k i1 (by simp) o q, h2.at fun o q => k i2 (by simp) o q⟩
  item := by
    intro X eP ew eK hc i pins s σ H E I hf st hg
    subst eP ew eK
    obtain ⟨ez, eTI, ⟨x0, y0, eTO⟩, h1, h2⟩ := st
    obtain ⟨us, ws, x, y, qx, qy, ex, ey⟩ := hg
    obtain ⟨its, rx, p, _⟩ := I.list qx
    obtain ⟨its2, ry, p2, _⟩ := I.tuple qy
    obtain ⟨u, eu, rb⟩ := rx.get ex
    obtain ⟨u2, eu2, rb2⟩ := ry.get ey
    have zlt : z < s.heap.objs.size := Heap.lt_size ez
    refine pyNext_zipM_item ap ez eTI eTO h1 h2 p.isList p2 (x := u) (y := u2) (by simpa using eu) (by simpa using eu2) fun h' z' TO' h1' h2' eT esz hk => ?_
    refine ⟨_, rfl, PySem.wpAny_letOwnedTupleGo_zip (s := { s with heap := h' }) z' fun h'' z'' sb => ?_⟩
    have eT2 : h''.get? s.heap.objs.size = some { cls := .type "tuple", data := .seq #[u, u2] } := (sb.2 _ (Nat.ne_of_gt zlt)).trans eT
    have fresh : ObjOk X.prog X.w (upd H s.heap.objs.size (.tup [x, y])) h'' s.heap.objs.size (.tup [x, y]) :=
      ⟨by show 2 ≤ sizeLine; decide, [u, u2], .cons rb (.cons rb2 .nil), ⟨_, eT2, rfl, _, rfl⟩⟩
    have J1 : Inv X pins σ (upd H s.heap.objs.size (.tup [x, y])) { s with heap := h'' } :=
      I.turnedNew (t' := s.toks) (ch := [z, TI, TO, i1, i2]) (fun c o hb q => (sb.2 c (fun q' => hb (by simp [q']))).trans (hk c o (fun q' => hb (by simp [q'])) (fun q' => hb (by simp [q'])) (fun q' => hb (by simp [q'])) (fun q' => hb (by simp [q'])) q)) hf (Nat.le_refl _) fresh
    refine ⟨.ref s.heap.objs.size, _, J1, rfl, ⟨_, x, y, rfl, I.hok.fresh (Nat.le_refl _), rfl, fun l hl => by rw [I.list_inj hl qx]; exact ex, fun l hl => by rw [I.tuple_inj hl qy]; exact ey⟩, ⟨z'', ?_, ⟨u, u2, ?_⟩, ?_, ?_⟩, fun c cm => ?_⟩
    · exact (sb.2 _ ap.TIz).trans (hk _ _ ap.TIz ap.TITO ap.TIi1 ap.TIi2 eTI)
    · exact (sb.2 _ ap.TOz).trans TO'
    · exact h1'.at fun o q => (sb.2 _ ap.i1z).trans q
    · exact h2'.at fun o q => (sb.2 _ ap.i2z).trans q
    · have zl : c < s.heap.objs.size := by
        have e' : c = z ∨ c = TI ∨ c = TO ∨ c = i1 ∨ c = i2 := by simpa using cm
        rcases e' with q | q | q | q | q
        · rw [q]; exact zlt
        · rw [q]; exact Heap.lt_size eTI
        · rw [q]; exact Heap.lt_size eTO
        · rw [q]; obtain ⟨_, e1, _⟩ := h1; exact Heap.lt_size e1
        · rw [q]; obtain ⟨_, e2, _⟩ := h2; exact Heap.lt_size e2
      rw [upd_ne (Nat.ne_of_lt zl)]
      exact (hf c cm).1
  done := by
    intro X eP ew eK hc i pins s σ H E I hf st hg
    subst eP ew eK
    obtain ⟨ez, eTI, ⟨x0, y0, eTO⟩, h1, h2⟩ := st
    obtain ⟨us, ws, qx, qy, fin⟩ := hg
    obtain ⟨its, rx, p, _⟩ := I.list qx
    obtain ⟨its2, ry, p2, _⟩ := I.tuple qy
    have l1 := rx.length
    have l2 := ry.length
    have he : its.toArray[i]? = none ∨ its2.toArray[i]? = none := by
      rcases fin with q | q
      · exact .inl (by simp; omega)
      · exact .inr (by simp; omega)
    exact pyNext_zipM_end (I.ok.hd hc) ap ez eTI eTO h1 h2 p.isList p2 he fun h' hk => ⟨rfl, I.turnedL (t' := s.toks) (ch := [z, TI, TO, i1, i2]) (fun c o hb q =>
      hk c o (fun q' => hb (by simp [q'])) (fun q' => hb (by simp [q'])) (fun q' => hb (by simp [q'])) (fun q' => hb (by simp [q'])) q) hf⟩
  self := fun A i s Q E st h => wpAny_pyIter_zip st.1 h

end
end
section
variable {W : Wd}
def iZipM (m m2 : EM) : IM := fun env st => match m env st with
  | some (d, s1) => match m2 env s1 with
    | some (e, s2) => match walked s2 d, walked s2 e with
      | some (xs, gd), some (ys, gd2) => if (tupB d) = false ∧ (tupB e) = true then some (zipped xs ys, fun s => gd s ∧ gd2 s, s2) else none
      | _, _ => none
    | none => none
  | none => none
theorem itOk_zipM {a b : Addr} {ι0 : Lay} {H0 : Hp} {xs ys : List D} {gd g2 : Store → Prop} (h : ∀ ι H st, Gro ι0 H0 ι H → RelH W ι H st → gd st → ∃ vs, SqL W.K H a vs ∧ Reps W ι H xs vs) (k : ∀ ι H st, Gro ι0 H0 ι H → RelH W ι H st → g2 st → ∃ vs, SqT W.K H b vs ∧ Reps W ι H ys vs) : ItOk W (ItzM W.K a b) ι0 H0 (zipped xs ys) (fun s => gd s ∧ g2 s) where
  go := fun i ι H st d g r q e => by
    obtain ⟨vs, h1, h2⟩ := h ι H st g r q.1
    obtain ⟨us, k1, k2⟩ := k ι H st g r q.2
    obtain ⟨x, y, e1, e2, rfl⟩ := zipped_get e
    obtain ⟨v, h3, h4⟩ := h2.get e1
    obtain ⟨u, k3, k4⟩ := k2.get e2
    refine ⟨⟨vs, us, v, u, h1, k1, h3, k3⟩, fun z H' ⟨p, v', u', q1, q2, q3, q4, q5⟩ => ?_⟩
    subst q1 q3
    have z1 := q4 _ h1
    have z2 := q5 _ k1
    rw [h3] at z1
    rw [k3] at z2
    cases z1
    cases z2
    exact pair_laid r h4 k4 q2
  stop := fun ι H st g r q => by
    obtain ⟨vs, h1, h2⟩ := h ι H st g r q.1
    obtain ⟨us, k1, k2⟩ := k ι H st g r q.2
    refine ⟨vs, us, h1, k1, ?_⟩
    rw [← h2.length, ← k2.length]
    simp only [zipped, List.length_zipWith]
    omega
variable {X : Cx} {e e2 : Expr} {p pos tpos : Pos} {elts : List Expr} {kk : Nat} {m m2 : EM}
theorem ji_zipM (hK : X.K = W.K) (hg : Gl X "zip") (hm : X.mg "zip" = none) (ha : PE X e (T W m)) (hb : PE X e2 (T W m2))
    (hs : starEach [e, e2] X.env = (false, eval e X.env) :: starEach [e2] X.env := by rfl) (hs2 : starEach [e2] X.env = [(false, eval e2 X.env)] := by rfl) (hpl : (backTo pos (starEach [e2] X.env)).any (·.1) = false := by rfl) :
    PI X (.Tuple elts kk tpos) (.Call (.Name "zip" p) [e, e2] [] pos) (TIm W (iZipM m m2)) := by
  refine ⟨fun pins s σ H R I ⟨ι, st, env, ds, gd, st', r, n, q, k⟩ => ?_⟩
  unfold iZipM at q
  split at q
  · rename_i d s1 e1
    split at q
    · rename_i d2 s2 e2
      split at q
      · rename_i xs gd1 ys gd2 w1 w2
        split at q
        · rename_i hT
          cases q
          refine Call_ (ld_blt I hg hm PyProof.Rows.boot_zip (PyProof.Rows.callWith_type1 (thn ((ja_cons ha (ja_cons hb ja_nil hs2) hs).run pos pins s σ H _ I (TA.of r n (d := [d, d2]) (st' := st') (by unfold aCons; rw [e1]; dsimp only; rw [e2]; rfl) fun vs ι1 H1 g1 r1 p1 => ⟨ι1, rfl, g1, r1, p1⟩ : TAs W _ σ H fun vs H1 => ∃ ι1, True = True ∧ Grow ι H ι1 H1 ∧ RelH W ι1 H1 st' ∧ Reps W ι1 H1 [d, d2] vs)) fun us c1 ⟨vs, H1, J1, rr, ι1, _, g1, r1, p1⟩ => ?_) hs hpl))
          obtain ⟨v, u, rfl, hv, hu⟩ := reps2 p1
          obtain ⟨a, rfl, g0, y1⟩ := walked_ok r1 hv w1
          obtain ⟨b, rfl, g02, y2⟩ := walked_ok r1 hu w2
          have y1 := y1.resolve_left fun z => by rw [hT.1] at z; exact absurd z.1 (by decide)
          have y2 := y2.resolve_right fun z => by rw [hT.2] at z; exact absurd z.1 (by decide)
          obtain ⟨va, sa, _⟩ := y1.2 ι1 H1 st' Grow.refl.gro r1 g0
          obtain ⟨vb, sb, _⟩ := y2.2 ι1 H1 st' Grow.refl.gro r1 g02
          have us2 : us = [Value.ref a, Value.ref b] := by
            cases rr with
            | cons r' rr =>
              cases rr with
              | cons r'' rr =>
                cases rr
                cases r'
                cases r''
                rfl
          subst us2
          obtain ⟨its, rv, pa, _⟩ := J1.list (hK.symm ▸ sa)
          obtain ⟨its2, rv2, pb, _⟩ := J1.tuple (hK.symm ▸ sb)
          obtain ⟨o2, ho2, _⟩ := id pb
          have low : ∀ c, c ∈ [c1.heap.objs.size + 4, c1.heap.objs.size + 2, c1.heap.objs.size + 3, c1.heap.objs.size, c1.heap.objs.size + 1] → c1.heap.objs.size ≤ c := fun c m => by
            simp only [List.mem_cons, List.not_mem_nil, or_false] at m
            rcases m with z | z | z | z | z <;> rw [z]
            · exact Nat.le_add_right _ _
            · exact Nat.le_add_right _ _
            · exact Nat.le_add_right _ _
            · exact Nat.le_refl _
            · exact Nat.le_add_right _ _
          refine call_zipM pa.isList (show c1.heap.IsTuple b its2.toArray from pb) fun h' ez eTI eTO h1 h2 esz hk => PySem.wpAny_pyIter_zip ez ?_
          have J2 : Inv X pins σ H1 { c1 with heap := h' } := J1.kept (t' := c1.toks) hk
          have io := itOk_zipM y1.2 y2.2
          rw [← hK] at io
          exact ⟨c1.heap.objs.size + 4, [c1.heap.objs.size + 4, c1.heap.objs.size + 2, c1.heap.objs.size + 3, c1.heap.objs.size, c1.heap.objs.size + 1], _, _, H1, rfl, J2, turn_zipM (PySem.W.ktu_apart c1.heap.objs.size a b pa.lt (Heap.lt_size ho2)), ⟨ez, eTI, ⟨_, _, eTO⟩, h1, h2⟩, fun c m => J1.fpOk (low c m) (J1.hok.fresh (low c m)), k _ ι1 H1 g1 r1 io⟩
        · cases q
      · cases q
    · cases q
  · cases q
end
section
variable {env : Env} {st : Store} {QI : List D → (Store → Prop) → Store → Prop}
theorem ev_zipM {m m2 : EM} : EvI (iZipM m m2) env st QI ↔ EvE m env st fun d s1 => EvE m2 env s1 fun e s2 => ∃ xs gd ys gd2, walked s2 d = some (xs, gd) ∧ walked s2 e = some (ys, gd2) ∧ (tupB d) = false ∧ (tupB e) = true ∧ QI (zipped xs ys) (fun s => gd s ∧ gd2 s) s2 := by
  unfold EvI EvE iZipM
  constructor
  · rintro ⟨ds, gd, s, e, q⟩
    split at e
    · rename_i d s1 h
      split at e
      · rename_i d2 s2 h2
        split at e
        · rename_i xs gd1 ys gd2 w1 w2
          split at e
          · rename_i ht
            cases e
            exact ⟨_, _, h, _, _, h2, xs, _, ys, _, w1, w2, ht.1, ht.2, q⟩
          · cases e
        · cases e
      · cases e
    · cases e
  · rintro ⟨d, s1, h, e, s2, h2, xs, gd, ys, gd2, w1, w2, ht, ht2, q⟩
    exact ⟨_, _, s2, by rw [h]; simp only [h2, w1, w2, if_pos (And.intro ht ht2)], q⟩
end
/-- a comprehension within one that stands within one -/
theorem blk_in2 {Y : Cx} {s s2 : Shared} {H H2 : Hp} {sc0 sc1 sc scY : Scope} {cl cl2 : List (Str × Addr)} {C C2 : Addr} {fp fp2 : List Addr} {N : List Str} {own : List (Str × Nat)} (hN : Y.N = N) (hS : Y.env.scope = scY) (h : blkC N (relS sc1 (relS sc0 scY)) sc own = true) :
    BlkOk ((Y.blk s H sc0 (compEnvC sc0 cl C Y.env) fp).blk s2 H2 sc1 (compEnvC sc1 cl2 C2 (Y.blk s H sc0 (compEnvC sc0 cl C Y.env) fp).env) fp2).N ((Y.blk s H sc0 (compEnvC sc0 cl C Y.env) fp).blk s2 H2 sc1 (compEnvC sc1 cl2 C2 (Y.blk s H sc0 (compEnvC sc0 cl C Y.env) fp).env) fp2).env.scope sc own := by
  subst hN hS
  exact blkOk_by h
end My

namespace My
open PySem PySem.Spec PyProof.Rows L2
/-! ### properties, instances that are called, constructors with keywords -/
section
variable {X : Cx} {W : Wd} {k ar : Nat} {g : Addr} {fd : FuncData} {ps ks : List Str} {n x f m : Str} {F : FM} {am km : AM} {dvs : List V} {ds : List Value} {dds : List D} {E : XK} {o e fe : Expr} {es : List Expr} {pos p : Pos} {mo : EM} {kws : List Keyword}
theorem j_prop {q : Addr} (c : Cls X.K (W.cl n)) (hp : PropOf X.K (W.cl n) f q g) (F0 : FnOk X.prog X.w X.K X.mg X.base CX0 k g fd ps (spM W 1 F)) (hr : Room (k + 1) X.A) (hb : Binds X.K fd ps []) (hx : Passes CX0 X.nox E) (he : PE X o (T W mo)) (hab : attributeBase o f X.env (eval o X.env) = eval o X.env := by rfl) :
    PE X (.Attribute o f pos) (T W (eMeth n f 1 F [] mo aNil)) := (pe_prop (pos := pos) he c hp F0 hr hb .nil hx hab).imp fun σ H Q h => by
  obtain ⟨ι, st, env, d, st', r, q, e, kk⟩ := tMeth_of (E := E) (dvs := []) (fun _ _ => Reps.nil) h
  refine ⟨ι, st, env, d, st', r, q, e, fun v ι' H' g' r' p' => ?_⟩
  obtain ⟨a, dx, fs, h1, h2, h3, h4⟩ := kk v ι' H' g' r' p'
  subst h1
  obtain ⟨ι2, st2, env2, d2, st2', r2, q2, e2, k2⟩ := h4
  cases e2
  exact ⟨a, dx, fs, rfl, h2, k2 [] _ _ Grow.refl r2 Reps.nil⟩
/-- o(e, ..), o an instance -/
noncomputable def eCallO (n : Str) (ar : Nat) (F : FM) (mo : EM) (am : AM) : EM := fun env st => match mo env st with
  | some (x, s1) => match am env s1 with
    | some (xs, s2) => match insA s2 x with
      | some (n', _, _) => if n' = n ∧ xs.length + 1 = ar then F (x :: xs) s2 else none
      | none => none
    | none => none
  | none => none
theorem j_callO (cO : StX.CallO X.K (W.cl n) g) (F0 : FnOk X.prog X.w X.K X.mg X.base CX0 k g fd ps (spM W ar F)) (hr : Room k X.A) (hb : Binds X.K fd ps []) (hx : Passes CX0 X E) (ho : PE X fe (T W mo)) (ha : PA X (e :: es) (TAs W am))
    (ht : eval (.Call fe (e :: es) [] pos) X.env = (do callWith pos (← eval fe X.env) [] (backTo pos (starEach (e :: es) X.env)) (backToKw pos (keywordEach [] X.env))) := by rfl)
    (hs : starEach (e :: es) X.env = (false, eval e X.env) :: starEach es X.env := by rfl) (hpl : (backTo pos (starEach es X.env)).any (·.1) = false := by rfl) : PE X (.Call fe (e :: es) [] pos) (T W (eCallO n ar F mo am)) :=
  (StX.pe_callO (pos := pos) ho cO (F0.raw hb .nil) hr hx ha ht hs hpl).imp fun σ H Q ⟨ι, st, env, d, st', r, q, e, kk⟩ => by
    unfold eCallO at e
    split at e
    · rename_i y s1 e1
      split at e
      · rename_i xs s2 e2
        split at e
        · rename_i n' fs vs e3
          split at e
          · rename_i hc
            obtain ⟨rfl, hl⟩ := hc
            refine T.of r q e1 fun v ι1 H1 g1 r1 p1 => ?_
            obtain ⟨a, rfl⟩ : ∃ a, v = .ref a := by
              cases y with
              | ins m fs ds => simp only [Rep] at p1; obtain ⟨a, h, _⟩ := p1; exact ⟨a, h⟩
              | ref i => simp only [Rep] at p1; obtain ⟨a, h, _⟩ := p1; exact ⟨a, h⟩
              | _ => cases e3
            refine ⟨a, rfl, TA.of r1 (q.grow g1) e2 fun ws ι2 H2 g2 r2 p2 => ?_⟩
            obtain ⟨a', dx, us, ea, h1, h2, h3⟩ := insA_ok r2 (Rep.grow g2 _ _ p1) e3
            cases ea
            refine ⟨.inr ⟨dx, _, h1⟩, ι2, s2, y :: xs, d, st', r2, ?_, by simpa using hl, e, kk.go (g1.trans g2)⟩
            rw [List.append_nil]
            exact Reps.cons (Rep.grow g2 _ _ p1) p2
          · cases e
        · cases e
      · cases e
    · cases e
open Classical in
/-- C(e, .., k = v, ..): an instance, told as a tree -/
noncomputable def eNewN (n : Str) (ar j m : Nat) (F : FM) (g : List D → List D → List D) (am km : AM) : EM := fun env st => match am env st with
  | some (xs, s1) => match km env s1 with
    | some (zs, s2) => if xs.length = j ∧ zs.length = m ∧ (g (.ref s2.length :: xs) zs).length = ar then match F (g (.ref s2.length :: xs) zs) (s2 ++ [.ins n [] []]) with
        | some (.non, s3) => fin s2 (.ref s2.length) s3
        | _ => none
      else none
    | none => none
  | none => none
theorem j_makeN {C : Addr} {j mm : Nat} {gg : List Value → List Value → List Value} {gV : List V → List V → List V} {gD : List D → List D → List D} (eC : C = W.cl n) (M : Mk X.K C g) (F0 : FnOk X.prog X.w X.K X.mg X.base CX0 k g fd ps (spM W ar F)) (hr : Room (k + 1) X.A) (hg : Gl X x) (hm : X.mg x = some (.ref C)) (hb : KBn X.K fd ps (j + 1) ks gg gV)
    (hgD : ∀ ι H (xs zs : List D) (vs us : List V), Reps W ι H xs vs → Reps W ι H zs us → Reps W ι H (gD xs zs) (gV vs us)) (hx : Passes CX0 X E)
    (ha : PA X (e :: es) (TAs W am)) (hkw : PK X kws (TAs W km)) (hall : (backToKw pos (keywordEach kws X.env)).all (·.1.isSome) = true := by rfl) (hks : (backToKw pos (keywordEach kws X.env)).filterMap (·.1) = ks := by rfl)
    (hdb : (x == ("__debug__" : Str)) = false := by decide) (he : starEach (e :: es) X.env = (false, eval e X.env) :: starEach es X.env := by rfl)
    (hpl : ((backTo pos (starEach (e :: es) X.env)).any (·.1) || (backToKw pos (keywordEach kws X.env)).any (·.1.isNone)) = false := by rfl) (hmk : ks.length = mm := by rfl) :
    PE X (.Call (.Name x p) (e :: es) kws pos) (T W (eNewN n ar j mm F gD am km)) := hmk ▸ (pe_makeK M F0 hr hg hm hb hx ha hkw hall hks hdb he hpl).imp fun σ H Q ⟨ι, st, env, d, st', r, q, e, kk⟩ => by
  unfold eNewN at e
  split at e
  · rename_i xs s1 e1
    split at e
    · rename_i zs s2 e2
      split at e
      · rename_i hl
        split at e
        · rename_i s3 e3
          refine TA.of r q e1 fun vs ι1 H1 g1 r1 p1 => TA.of r1 (q.grow g1) e2 fun us ι2 H2 g2 r2 p2 => ⟨by rw [← p1.length]; exact hl.1, by rw [← p2.length]; exact hl.2.1, fun y dx hy hdx hne => ?_⟩
          subst eC
          obtain ⟨g3, r3⟩ := made_ok (n := n) r2 hy hdx hne
          have hy2 : Rep W (ι2.add y) (upd (upd H2 dx (.own y)) y (.ins (W.cl n) dx [])) (.ref s2.length) (.ref y) := by
            simp only [Rep]
            exact ⟨y, rfl, by rw [← r2.len]; show (ι2.c ++ [y])[_]? = _; simp⟩
          refine ⟨_, _, gD (.ref s2.length :: xs) zs, .non, s3, r3, hgD _ _ _ _ _ _ (Reps.cons hy2 (Reps.grow g3 _ _ (Reps.grow g2 _ _ p1))) (Reps.grow g3 _ _ p2), hl.2.2, e3, fun v ι3 H3 g4 r4 p4 => ⟨rep_non p4, ?_⟩⟩
          exact fin_ok r2 (kk.go (g1.trans g2)) e (g3.trans g4) r4 (Rep.grow g4 _ _ hy2)
        · cases e
      · cases e
    · cases e
  · cases e
end
section
variable {env : Env} {st : Store} {Q : D → Store → Prop}
theorem ev_callO {n : Str} {ar : Nat} {F : FM} {mo : EM} {am : AM} : EvE (eCallO n ar F mo am) env st Q ↔ EvE mo env st fun x s1 => EvA am env s1 fun xs s2 => ∃ fs vs, insA s2 x = some (n, fs, vs) ∧ xs.length + 1 = ar ∧ EvF F (x :: xs) s2 Q := by
  unfold EvE EvA EvF eCallO
  constructor
  · rintro ⟨d, s, e, q⟩
    split at e
    · rename_i x s1 h
      split at e
      · rename_i xs s2 h2
        split at e
        · rename_i n' fs vs h3
          split at e
          · rename_i hc
            obtain ⟨rfl, hl⟩ := hc
            exact ⟨_, _, h, _, _, h2, fs, vs, h3, hl, _, _, e, q⟩
          · cases e
        · cases e
      · cases e
    · cases e
  · rintro ⟨x, s1, h, xs, s2, h2, fs, vs, h3, hl, d, s, e, q⟩
    exact ⟨d, s, by rw [h]; simp only [h2, h3]; rw [if_pos ⟨trivial, hl⟩]; exact e, q⟩
theorem ev_newN {n : Str} {ar j m : Nat} {F : FM} {g : List D → List D → List D} {am km : AM} : EvE (eNewN n ar j m F g am km) env st Q ↔ EvA am env st fun xs s1 => EvA km env s1 fun zs s2 => (xs.length = j ∧ zs.length = m ∧ (g (.ref s2.length :: xs) zs).length = ar) ∧ EvF F (g (.ref s2.length :: xs) zs) (s2 ++ [.ins n [] []]) fun d s3 => d = .non ∧ EvF (fun _ s => fin s2 (.ref s2.length) s) [] s3 Q := by
  unfold EvE EvA EvF eNewN
  constructor
  · rintro ⟨d, s, e, q⟩
    split at e
    · rename_i xs s1 h
      split at e
      · rename_i zs s2 h2
        split at e
        · rename_i hl
          split at e
          · rename_i s3 h3
            exact ⟨_, _, h, _, _, h2, hl, _, _, h3, rfl, _, _, e, q⟩
          · cases e
        · cases e
      · cases e
    · cases e
  · rintro ⟨xs, s1, h, zs, s2, h2, hl, d, s3, h3, rfl, d2, s, e, q⟩
    exact ⟨d2, s, by rw [h]; simp only [h2, h3]; rw [if_pos hl]; exact e, q⟩
end
/-! ### facts about classes -/
structure MkFK (K : PySem.W.Frag) (C : Addr) (qual : Str) (st : Stmt) (ps : List Str) (kws : List (Str × V)) : Prop where
  ex : ∃ (f : Addr) (fd : FuncData), FunD K "__init__" qual (defArgs st) (defBody st) (defScope st) [] kws f fd ∧ (∃ ds, Vals (kws.map (·.2)) ds ∧ Binds K fd ps ds) ∧ Mk K C f
structure PrF (K : PySem.W.Frag) (C : Addr) (m qual : Str) (st : Stmt) (ps : List Str) : Prop where
  ex : ∃ (f : Addr) (fd : FuncData) (q : Addr), Fun K m qual st f fd ∧ Binds K fd ps [] ∧ PropOf K C m q f
structure CaF (K : PySem.W.Frag) (C : Addr) (qual : Str) (st : Stmt) (ps : List Str) : Prop where
  ex : ∃ (f : Addr) (fd : FuncData), Fun K "__call__" qual st f fd ∧ Binds K fd ps [] ∧ StX.CallO K C f
/-- one of some values, as a list -/
def pick {α : Type} (xs : List α) (i : Nat) : List α := xs[i]?.toList
theorem vals_pick {zs : List V} {ws : List Value} (i : Nat) (h : Vals zs ws) : Vals (pick zs i) (pick ws i) := by
  unfold pick
  cases e : zs[i]? with
  | none =>
    have : ws[i]? = none := by
      rw [List.getElem?_eq_none_iff] at e ⊢
      rw [← h.length]; exact e
    rw [this]; exact .nil
  | some z =>
    obtain ⟨u, hu, ru⟩ := h.get e
    rw [hu]; exact .cons ru .nil
theorem reps_pick {W : Wd} {ι : Lay} {H : Hp} {zs : List D} {us : List V} (i : Nat) (h : Reps W ι H zs us) : Reps W ι H (pick zs i) (pick us i) := by
  unfold pick
  cases e : zs[i]? with
  | none =>
    have : us[i]? = none := by
      rw [List.getElem?_eq_none_iff] at e ⊢
      rw [← h.length]; exact e
    rw [this]; exact Reps.nil
  | some z =>
    obtain ⟨u, hu, ru⟩ := h.get e
    rw [hu]; exact Reps.cons ru Reps.nil
section
variable {P : Program} {w : World} {K : PySem.W.Frag} {mg : Str → Option Value} {base : Heap} {W : Wd}
theorem jdKD {x qual : Str} {params : Arguments} {stmts : List Stmt} {scope : Scope} {dvs : List V} {kws : List (Str × V)} {f : Addr} {fd : FuncData} {N ps : List Str} {k : Nat} {body : SM} (F : FunD K x qual params stmts scope dvs kws f fd) (S : FnScope N ps scope)
    (h : ∀ (cdv : Value) (A : Around) (out : List PySem.Env) (s : Shared) (H : Hp) (E : XK), Room k (A.deeper (envOfC qual scope s.heap.objs.size f cdv)) → PSs (cxOf CX0 P w K mg base N qual scope f cdv A out s H E).nox stmts (TSt W body)) :
    FnOk P w K mg base CX0 (k + 1) f fd ps (spM W ps.length (mkK N.length body)) :=
  F.ok S (fun vs H Q E h => spM_len h) fun cdv A out s H vs Q E hr q => ⟨_, (h cdv A out s H E hr).nox, mkK_ok q⟩
end
theorem pick0 {α : Type} {a : α} {l : List α} : pick (a :: l) 0 = [a] := rfl
theorem pick1 {α : Type} {a b : α} {l : List α} : pick (a :: b :: l) 1 = [b] := rfl
theorem pick2 {α : Type} {a b c : α} {l : List α} : pick (a :: b :: c :: l) 2 = [c] := rfl
end My

namespace My
open PySem PySem.Spec PyProof.Rows L2
open C8 (InsC call_isC pe_gc)
/-! ### == by an own __eq__, isinstance of an own class -/
theorem kit_self {K : PySem.W.Frag} {C : Addr} : PySem.W.kitOne K (.ref C) (.ref C) = some true := by
  unfold PySem.W.kitOne
  have e : ((Value.ref C == Value.ref C) : Bool) = true := beq_iff_eq.mpr rfl
  rw [if_pos e]
/-- isinstance(x, C), x an instance of C -/
def fIsC (n : Str) : FM := ro fun ds st => match ds with
  | [d, .cls m] => match insA st d with
    | some (n', _, _) => if n' = n ∧ m = n then some (.bl true) else none
    | none => none
  | _ => none
section
variable {X : Cx} {W : Wd} {n : Str} {a b : Expr} {ma mb : EM} {pos : Pos}
theorem jc_isC (c : InsC X.K (W.cl n)) : CallR X (.builtin "isinstance") (MA W (fIsC n)) := by
  intro pins s σ H xs us Q I rx ⟨ι, st, ds, d, st', r, h, e, k⟩
  replace e := ro_ok e
  obtain ⟨e, rfl⟩ := e
  split at e
  · rename_i x m
    obtain ⟨v, u, rfl, hv, hu⟩ := reps2 h
    have hu2 : u = .ref (W.cl m) := by simpa only [Rep] using hu
    subst hu2
    split at e
    · rename_i n' fs vs q
      split at e
      · rename_i hc
        obtain ⟨rfl, rfl⟩ := hc
        cases e
        obtain ⟨p, dx, ws, rfl, h1, _, _⟩ := insA_ok r hv q
        exact call_isC c pins s σ H _ us Q I rx ⟨p, dx, _, rfl, h1, k.now r bl_rep⟩
      · cases e
    · cases e
  · cases e
theorem j_cls {x : Str} {p : Pos} (hg : Gl X x) {C : Addr} (hm : X.mg x = some (.ref C)) (hC : C = W.cl n) (hd : (x == ("__debug__" : Str)) = false := by decide) : PE X (.Name x p) (T W (eC (.cls n))) :=
  tC_of (v := .ref C) (fun ι H => by simp only [Rep]; rw [hC]) (pe_gc hg ⟨_, hm, rfl⟩ hd)
/-- a == b, both instances of a class with its own ==: its call -/
noncomputable def eEqO (n : Str) (F : FM) (ma mb : EM) : EM := fun env st => match ma env st with
  | some (x, s1) => match mb env s1 with
    | some (y, s2) => match insA s2 x, insA s2 y with
      | some (n1, _, _), some (n2, _, _) => if n1 = n ∧ n2 = n then (match F [x, y] s2 with
          | some (.bl c, s3) => some (.bl c, s3)
          | _ => none) else none
      | _, _ => none
    | none => none
  | none => none
/-- what the own == is asked -/
def rEqO (W : Wd) (n : Str) (F : FM) : R2 := fun x y H Q => ∃ ι st a b c st', RelH W ι H st ∧ Rep W ι H a x ∧ Rep W ι H b y ∧ (∃ fs vs, insA st a = some (n, fs, vs)) ∧ (∃ fs vs, insA st b = some (n, fs, vs)) ∧ F [a, b] st = some (.bl c, st') ∧ OkE W ι H (.bl c) st' Q
theorem op_eqO {CX : CXT} {f : Addr} {fd : FuncData} {ps : List Str} {F : FM} {E : XK} {k : Nat} (F0 : FnOk X.prog X.w X.K X.mg X.base CX k f fd ps (spM W 2 F)) (hM : Meth X.K (W.cl n) "__eq__" f) (hr : Room k X.A) (hb : Binds X.K fd ps []) (hx : Passes CX X E) : OpR X (compareOp .Eq) (rEqO W n F) := by
  intro pins s σ H x y v u Q I rx ry ⟨ι, st, a, b, c, st', r, pa, pb, ⟨fs, vs, ia⟩, ⟨gs, us, ib⟩, e, ok⟩
  show wpAny (model X.prog X.w) X.A (richCompare .Eq v u) (EP X pins σ Q) X.xe s
  obtain ⟨a', dx, vs', rfl, ha, _, _⟩ := insA_ok r pa ia
  obtain ⟨b', dy, us', rfl, hb', _, _⟩ := insA_ok r pb ib
  cases rx
  cases ry
  obtain ⟨mA, J, _⟩ := ins_get I.hok ha
  obtain ⟨mB, J', _⟩ := ins_get I.hok hb'
  obtain ⟨od, J, _⟩ := J.look
  obtain ⟨od', J', _⟩ := J'.look
  obtain ⟨m, hF⟩ := I.fr
  refine PySem.W.cmp_K (op := .Eq) (tb := .ref (W.cl n)) hr.units0 hF I.ok.mod.kin J J'.type (by simp [PySem.W.notFirst]) hM.at_ hM.fn ?_
  have hsp : spM W 2 F [.ref a', .ref b'] H (fun v H' => (∃ z, v = .bl z) ∧ Q v H') E := ⟨ι, st, [a, b], .bl c, st', r, Reps.cons pa (Reps.cons pb Reps.nil), rfl, e, fun v ι' H' g r' p' => ⟨⟨c, by simpa only [Rep] using p'⟩, ok v ι' H' g r' p'⟩⟩
  have e0 : Env0 X.prog X.w X.K X.mg X.base X.A X.stack s H := I.env0
  have hl := F0.len _ _ _ _ hsp
  have r2 : Vals [V.ref a', V.ref b'] [Value.ref a', Value.ref b'] := .cons rfl (.cons rfl .nil)
  refine wpAny_call (codeAny_mono (F0.run X.A X.stack s H ⟨[.ref a', .ref b'], []⟩ [.ref a', .ref b'] [.ref a', .ref b'] _ E hr e0 (by
    have := hb s [.ref a', .ref b'] I.kIn (by simpa using hl)
    simpa using this) r2 hsp) fun rr s' hq => ?_)
  cases rr with
  | error e => exact hx pins σ H s e s' I hq
  | ok fl =>
    cases fl with
    | ret w =>
      obtain ⟨z, H', I', rz, ⟨z2, ez⟩, qq⟩ := I.after hq
      subst ez
      cases rz
      exact ⟨.bl z2, H', I', rfl, qq⟩
    | next => exact False.elim hq
    | brk => exact False.elim hq
    | cont => exact False.elim hq
theorem tEqO_of {F : FM} {σ : L2.St} {H : Hp} {Q : VK} (h : T W (eEqO n F ma mb) σ H Q) : tOp (rEqO W n F) (T W ma) (T W mb) σ H Q := by
  obtain ⟨ι, st, env, d, st', r, q, e, k⟩ := h
  unfold eEqO at e
  split at e
  · rename_i x s1 e1
    split at e
    · rename_i y s2 e2
      split at e
      · rename_i n1 fs vs n2 gs us i1 i2
        split at e
        · rename_i hn
          obtain ⟨rfl, rfl⟩ := hn
          split at e
          · rename_i c s3 e3
            cases e
            exact T.of r q e1 fun v ι1 H1 g1 r1 p1 => T.of r1 (q.grow g1) e2 fun u ι2 H2 g2 r2 p2 => ⟨ι2, _, x, y, c, _, r2, Rep.grow g2 _ _ p1, p2, ⟨_, _, i1⟩, ⟨_, _, i2⟩, e3, k.go (g1.trans g2)⟩
          · cases e
        · cases e
      · cases e
    · cases e
  · cases e
theorem j_eqO {f : Addr} {fd : FuncData} {ps : List Str} {F : FM} {E : XK} {k : Nat} (F0 : FnOk X.prog X.w X.K X.mg X.base CX0 k f fd ps (spM W 2 F)) (hM : Meth X.K (W.cl n) "__eq__" f) (hr : Room k X.A) (hb : Binds X.K fd ps []) (hx : Passes CX0 X E) (ha : PE X a (T W ma)) (hb2 : PE X b (T W mb)) (hm : behindInMarks .Eq b = false) : PE X (.Compare a [.Eq] [b] pos) (T W (eEqO n F ma mb)) :=
  (pe_cmpR (op_eqO F0 hM hr hb hx) ha hb2 hm).imp fun _ _ _ => tEqO_of
theorem jt_eqO {f : Addr} {fd : FuncData} {ps : List Str} {F : FM} {E : XK} {k : Nat} (F0 : FnOk X.prog X.w X.K X.mg X.base CX0 k f fd ps (spM W 2 F)) (hM : Meth X.K (W.cl n) "__eq__" f) (hr : Room k X.A) (hb : Binds X.K fd ps []) (hx : Passes CX0 X E) (ha : PE X a (T W ma)) (hb2 : PE X b (T W mb)) (hm : behindInMarks .Eq b = false) : PT X (.Compare a [.Eq] [b] pos) (TB W (bE (eEqO n F ma mb))) :=
  (pt_cmpR (op_eqO F0 hM hr hb hx) ha hb2 hm).imp fun σ H Q h => tEqO_of (TB_bE h)
end
section
variable {env : Env} {st : Store} {Q : D → Store → Prop}
theorem ev_isC {n : Str} {d : D} {fs : List Str} {vs : List D} (h : insA st d = some (n, fs, vs)) : EvF (fIsC n) [d, .cls n] st Q ↔ Q (.bl true) st := evF_some (by simp only [fIsC, ro, h, and_self, if_true, Option.map_some])
theorem ev_eqO {n : Str} {F : FM} {ma mb : EM} : EvE (eEqO n F ma mb) env st Q ↔ EvE ma env st fun x s1 => EvE mb env s1 fun y s2 => ∃ fs vs, insA s2 x = some (n, fs, vs) ∧ ∃ gs us, insA s2 y = some (n, gs, us) ∧ EvF F [x, y] s2 fun z s3 => ∃ c, z = .bl c ∧ Q (.bl c) s3 := by
  unfold EvE EvF eEqO
  constructor
  · rintro ⟨d, s, e, q⟩
    split at e
    · rename_i x s1 h
      split at e
      · rename_i y s2 h2
        split at e
        · rename_i n1 fs vs n2 gs us i1 i2
          split at e
          · rename_i hn
            obtain ⟨rfl, rfl⟩ := hn
            split at e
            · rename_i c s3 e3
              cases e
              exact ⟨_, _, h, _, _, h2, fs, vs, i1, gs, us, i2, _, _, e3, c, rfl, q⟩
            · cases e
          · cases e
        · cases e
      · cases e
    · cases e
  · rintro ⟨x, s1, h, y, s2, h2, fs, vs, i1, gs, us, i2, z, s3, e3, c, rfl, q⟩
    exact ⟨.bl c, s3, by rw [h]; simp only [h2, i1, i2, e3, and_self, if_true], q⟩
end
end My

namespace My
open PySem PySem.Spec PyProof.Rows L2
/-! ### starred displays, min(xs, key=len) -/
def aStar (m : EM) (t : AM) : AM := fun env st => match m env st with
  | some (x, s1) => match seqA s1 x with
    | some xs => match t env s1 with
      | some (ys, s2) => some (xs ++ ys, s2)
      | none => none
    | none => none
  | none => none
section
variable {X : Cx} {W : Wd} {e : Expr} {es : List Expr} {p : Pos} {m : EM} {mr : AM}
theorem ja_star (hK : X.K = W.K) (he : PE X e (T W m)) (hr : PA X es (TAs W mr)) (hs : starEach (.Starred e p :: es) X.env = (true, eval e X.env) :: starEach es X.env := by rfl) : PA X (.Starred e p :: es) (TAs W (aStar m mr)) :=
  (StX.pa_star he hr hs).imp fun σ H Q ⟨ι, st, env, d, st', r, n, eq, k⟩ => by
    unfold aStar at eq
    split at eq
    · rename_i x s1 e1
      split at eq
      · rename_i xs q
        split at eq
        · rename_i ys s2 e2
          cases eq
          refine T.of r n e1 fun v ι1 H1 g1 r1 p1 => ?_
          obtain ⟨a, vs, rfl, hq, rep⟩ := seqA_ok r1 p1 q
          refine ⟨a, vs, rfl, ?_, TA.of r1 (n.grow g1) e2 fun us ι2 H2 g2 r2 p2 => k _ _ _ (g1.trans g2) r2 ((Reps.grow g2 _ _ rep).append p2)⟩
          rw [hK]
          exact hq.symm
        · cases eq
      · cases eq
    · cases eq
end
section
variable {env : Env} {st : Store}
theorem ev_star {m : EM} {t : AM} {QA : List D → Store → Prop} : EvA (aStar m t) env st QA ↔ EvE m env st fun x s1 => ∃ xs, seqA s1 x = some xs ∧ EvA t env s1 fun ys s2 => QA (xs ++ ys) s2 := by
  unfold EvE EvA aStar
  constructor
  · rintro ⟨d, s, e, q⟩
    split at e
    · rename_i x s1 h
      split at e
      · rename_i xs h2
        split at e
        · rename_i ys s2 h3
          cases e
          exact ⟨_, _, h, xs, h2, _, _, h3, q⟩
        · cases e
      · cases e
    · cases e
  · rintro ⟨x, s1, h, xs, h2, ys, s2, h3, q⟩
    exact ⟨_, _, by rw [h]; simp only [h2, h3], q⟩
end
theorem vals_back {xs : List V} {its : List Value} (r : Vals xs its) {i : Nat} {v : Value} (h : its[i]? = some v) : ∃ x, xs[i]? = some x ∧ RelV x v := by
  have hi : i < its.length := (List.getElem?_eq_some_iff.mp h).1
  have hi2 : i < xs.length := by rw [r.length]; exact hi
  have e : xs[i]? = some xs[i] := List.getElem?_eq_getElem hi2
  obtain ⟨u, hu, ru⟩ := r.get e
  rw [h] at hu
  cases hu
  exact ⟨_, e, ru⟩
/-! #### min by length -/
def lensOf (st : Store) : List D → Option (List Nat)
  | [] => some []
  | d :: ds => match seqA st d with
    | some xs => (lensOf st ds).map (xs.length :: ·)
    | none => none
def btL (ks : List Nat) (i j : Nat) : Bool := decide (((ks.getD i 0 : Nat) : Int) < ((ks.getD j 0 : Nat) : Int))
def fMinLen : FM := ro fun ds st => match ds with
  | [d] => match seqL st d with
    | some xs => match lensOf st xs with
      | some ks => if xs = [] then none else xs[argBest (btL ks) (xs.length - 1)]?
      | none => none
    | none => none
  | _ => none
section
variable {X : Cx} {pins : List (Addr × Obj)} {σ : L2.St} {H : Hp} {s : Shared}
theorem kept_moved {s s1 s2 : Shared} {S : Addr} {wr : List Addr} (h : ∃ h' tk, s1 = { s with heap := h', toks := tk } ∧ ∀ b o, s.heap.get? b = some o → h'.get? b = some o) (hw : ∀ b ∈ S :: wr, s.heap.objs.size ≤ b) (m : Moved (S :: wr) (fun a b => b = a) s1 s2) : ∃ h' tk, s2 = { s with heap := h', toks := tk } ∧ ∀ b o, s.heap.get? b = some o → h'.get? b = some o := by
  obtain ⟨h1, tk, rfl, hk⟩ := h
  refine ⟨s2.heap, s2.toks, ?_, fun b o e => m.heap b o (fun hb => absurd (Heap.lt_size e) (Nat.not_lt.mpr (hw b hb))) (hk b o e)⟩
  obtain ⟨hp, g, d, t, os⟩ := s2
  have e1 : g = s.gens := m.gens
  have e2 : d = s.drawn := m.drawn
  have e3 : os = s.os := m.os
  subst e1
  subst e2
  subst e3
  rfl
theorem min_len (I : Inv X pins σ H s) (hc : X.calm = true) {l : Addr} {xs : List V} (hl : SqL X.K H l xs) (hn : xs ≠ []) {ks : List Nat} (hx : ∀ (i : Nat) x, xs[i]? = some x → ∃ p ys, x = V.ref p ∧ (SqL X.K H p ys ∨ SqT X.K H p ys) ∧ ks.getD i 0 = ys.length) {Q : VK} (q : ∀ x, xs[argBest (btL ks) (xs.length - 1)]? = some x → Q x H) :
    wpAny (model X.prog X.w) X.A (call (.builtin "min") [.ref l] [("key", .builtin "len")]) (EP X pins σ Q) X.xe s := by
  obtain ⟨its, r, pl, hz⟩ := I.list hl
  have hlen := r.length
  have hpos : 0 < xs.length := List.length_pos_iff.mpr hn
  have hsz : its.toArray.size = xs.length := by rw [List.size_toArray]; exact hlen.symm
  refine call_min_walkKB (PySem.W.iter_listW (A := X.A.in1) (I.ok.hd hc) pl.isList fun s₂ e W st hfp hw hk => ?_)
  have hs2 : s₂.heap.objs.size = s.heap.objs.size + 1 := by rw [e]; exact Heap.size_push ..
  refine ⟨_, _, _, _, _, _, _, (fun s1 => ∃ h' tk, s1 = { s with heap := h', toks := tk } ∧ ∀ b o, s.heap.get? b = some o → h'.get? b = some o), (fun i k _ => ∃ t, k = Value.int ((ks.getD i 0 : Nat) : Int) t), btL ks, rfl, W, st, hfp, by omega, ?_, ?_, ?_⟩
  · refine ⟨fun s1 s2 h m => kept_moved h (fun b hb => ?_) m, fun i k s1 s2 h _ => h, ?_, ?_⟩
    · rcases List.mem_cons.mp hb with rfl | hb
      · omega
      · rw [List.mem_singleton.mp hb]; exact Nat.le_refl _
    · intro i v s1 o Q' E' hi hv hJ hS ho hQ'
      obtain ⟨h', tk, rfl, hk'⟩ := hJ
      have I1 : Inv X pins σ H { s with heap := h', toks := tk } := I.kept hk'
      have hv2 : its[i]? = some v := by simpa using hv
      obtain ⟨x, hxi, rx⟩ := vals_back r hv2
      obtain ⟨p, ys, rfl, hq, ek⟩ := hx i x hxi
      obtain rfl : v = Value.ref p := rx
      have ln := line63
      rcases hq with hq | hq
      · obtain ⟨it2, r2, pl2, z2⟩ := I1.list hq
        have l2 := r2.length
        refine Calls.call_len_list pl2.isList (by simp only [List.size_toArray] <;> omega) (hQ' _ _ ⟨h', _, rfl, hk'⟩ hS ho ⟨_, by rw [List.size_toArray, ek, l2]⟩ fun j k' hj => hj)
      · obtain ⟨it2, r2, pl2, z2⟩ := I1.tuple hq
        have l2 := r2.length
        refine len_tuple pl2 (by simp only [List.size_toArray] <;> omega) (hQ' _ _ ⟨h', _, rfl, hk'⟩ hS ho ⟨_, by rw [List.size_toArray, ek, l2]⟩ fun j k' hj => hj)
    · intro i j ki kj s1 Q' E' _ hi hj hQ'
      obtain ⟨t, rfl⟩ := hi
      obtain ⟨u, rfl⟩ := hj
      exact richCompare_gives (op := .Lt) (typeIs_int s1 _ t) (typeIs_int s1 _ u) F.slot_int_lt F.entry_int_lt (F.args_int_lt_2 _ _) (gives_int_lt _ _ t u) (fun x => nomatch x) hQ'
  · rw [e]
    exact ⟨_, s.toks, rfl, fun b o eo => Heap.get?_push_of_some _ eo⟩
  · intro v s' hP hJ
    obtain ⟨h', tk, rfl, hk'⟩ := hJ
    rw [hsz] at hP
    have hv2 : its[argBest (btL ks) (xs.length - 1)]? = some v := by simpa using hP
    obtain ⟨x, hxi, rx⟩ := vals_back r hv2
    exact ⟨x, H, I.kept hk', rx, q x hxi⟩
end
theorem lensOf_at {W : Wd} {ι : Lay} {H : Hp} {st : Store} (r : RelH W ι H st) : ∀ {ds : List D} {ks : List Nat} {vs : List V}, lensOf st ds = some ks → Reps W ι H ds vs → ∀ (i : Nat) x, vs[i]? = some x → ∃ p ys, x = V.ref p ∧ (SqL W.K H p ys ∨ SqT W.K H p ys) ∧ ks.getD i 0 = ys.length
  | [], ks, vs, _, h, i, x, hx => by
    rw [h.nil_of] at hx
    simp at hx
  | d :: ds, ks, vs, e, h, i, x, hx => by
    unfold lensOf at e
    split at e
    · rename_i xs q
      rw [Option.map_eq_some_iff] at e
      obtain ⟨k2, e2, rfl⟩ := e
      obtain ⟨v, us, rfl, hv, hus⟩ := h
      cases i with
      | zero =>
        cases hx
        obtain ⟨a, ys, rfl, hq, rep⟩ := seqA_ok r hv q
        exact ⟨a, ys, rfl, hq, by simpa using rep.length⟩
      | succ i =>
        have := lensOf_at r e2 hus i x (by simpa using hx)
        simpa using this
    · cases e
section
variable {X : Cx} {W : Wd} {e : Expr} {m : EM} {p p2 kpos pos : Pos}
theorem j_minLen (hK : X.K = W.K) (hc : X.calm = true) (hg : Gl X "min") (hm : X.mg "min" = none) (hg2 : Gl X "len") (hm2 : X.mg "len" = none) (he : PE X e (T W m)) (hv : bootBuiltins "min" = some (.builtin "min") := by decide +kernel) (hv2 : bootBuiltins "len" = some (.builtin "len") := by decide +kernel)
    (hs1 : starEach [e] X.env = (false, eval e X.env) :: starEach [] X.env := by rfl) (he1 : backTo pos (starEach [e] X.env) = (false, eval e X.env) :: backTo pos (starEach [] X.env) := by rfl) (hpl : (backTo pos (starEach [e] X.env)).any (·.1) = false := by rfl) :
    PE X (.Call (.Name "min" p) [e] [⟨some "key", .Name "len" p2, kpos⟩] pos) (T W (eCall fMinLen (aCons m aNil))) := by
  refine ⟨fun pins s σ H Q I ⟨ι, st, env, d, st', r, n, eq, k⟩ => ?_⟩
  unfold eCall at eq
  split at eq
  · rename_i as s1 e1
    refine wpAny_Call_Name_kw (ld_blt I hg hm hv ?_)
    refine PyProof.Rows.callWith_kw (thn ((ja_cons he ja_nil hs1).run pos pins s σ H _ I (TA.of r n e1 fun vs ι1 H1 g1 r1 p1 => (show (fun (vs : List V) (H1 : Hp) => ∃ ι1, Grow ι H ι1 H1 ∧ RelH W ι1 H1 s1 ∧ Reps W ι1 H1 as vs) vs H1 from ⟨ι1, g1, r1, p1⟩))) fun us s2 ⟨vs, H1, I1, rv, ι1, g1, r1, p1⟩ => ?_) he1 hpl rfl rfl
    show wpAny _ _ (evalAll ((do let v ← eval (.Name "len" p2) X.env; standAt pos; pure v) :: [])) _ _ s2
    refine wpAny_evalAll_cons (wpAny_bind (ld_blt I1 hg2 hm2 hv2 (wpAny_bind (wpAny_standAt (wpAny_pure (wpAny_evalAll_nil ?_))))))
    show wpAny _ _ (call (.builtin "min") us [("key", .builtin "len")]) _ _ _
    replace eq := ro_ok eq
    obtain ⟨eq, rfl⟩ := eq
    split at eq
    · rename_i x
      obtain ⟨v, rfl, hv3⟩ := reps1 p1
      split at eq
      · rename_i ys q
        split at eq
        · rename_i ks q2
          split at eq
          · cases eq
          · rename_i hne
            obtain ⟨a, ws, rfl, hl, rep⟩ := seqL_ok r1 hv3 q
            rw [Vals.ref1 rv]
            have hle := rep.length
            have hx := lensOf_at r1 q2 rep
            rw [← hK] at hx
            refine min_len I1 hc (.inl (.inl hl)) (fun z => hne (by rw [z] at hle; exact List.length_eq_zero_iff.mp hle)) hx fun y hy => ?_
            rw [← hle] at hy
            obtain ⟨d2, hd2, rd2⟩ := rep.get' hy
            rw [eq] at hd2
            cases hd2
            exact k _ _ _ g1 r1 rd2
        · cases eq
      · cases eq
    · cases eq
  · cases eq
end
theorem ev_minLen {xs : List D} {ks : List Nat} {d : D} {st : Store} {Q : D → Store → Prop} (h1 : lensOf st xs = some ks) (h2 : xs ≠ []) (h3 : xs[argBest (btL ks) (xs.length - 1)]? = some d) : EvF fMinLen [.lst xs] st Q ↔ Q d st := evF_some (by simp only [fMinLen, ro, seqL, h1, if_neg h2, h3, Option.map_some])
end My

namespace My
open PySem PySem.Spec PyProof.Rows L2
/-! ### tuples that are known to the object: displays, tuple(list), their method count -/
def eTupF (m : AM) : EM := fun env st => match m env st with
  | some (xs, s1) => if xs.length ≤ sizeLine then some (.tpf xs, s1) else none
  | none => none
def fTupleF : FM := fun ds st => match ds with
  | [d] => match seqL st d with
    | some xs => some (.tpf xs, st)
    | none => none
  | _ => none
def mCountF : MM := fun o as st => match o, as with
  | .tpf ys, [y] => match sc y, scs ys with
    | some x, some us => some (.int (cntV us x), st)
    | _, _ => none
  | _, _ => none
noncomputable def eBF (F : MM) (mo : EM) (ma : AM) : EM := fun env st => match mo env st with
  | some (.tpf ys, s1) => match ma env s1 with
    | some (xs, s2) => F (.tpf ys) xs s2
    | none => none
  | _ => none
section
variable {X : Cx} {W : Wd} {o e : Expr} {es : List Expr} {mo : EM} {ma : AM} {F : MM} {pos apos cpos : Pos} {name : Str} {id : String}
def tTupF (t : TA) : TE := fun σ H Q => t σ H fun xs H1 => xs.length ≤ sizeLine ∧ ∀ p, H1 p = none → ∀ o : Obj, o.cls = .type "tuple" ∧ o.dict = none → Q (.ref p) (upd H1 p (.frz o (.tup xs)))
theorem pe_tupF {x1} {t : TA} (h : PA X es t) : PE X (.Tuple es x1 pos) (tTupF t) := by
  refine ⟨fun pins s σ H Q I hq => ?_⟩
  refine wpAny_Tuple_spliced (thn (h.run pos pins s σ H _ I hq) fun us s1 ⟨xs, H1, I1, r, z, q⟩ => ⟨by rw [← r.length]; exact z, ?_⟩)
  have hf : H1 s1.heap.objs.size = none := I1.hok.fresh (Nat.le_refl _)
  refine ⟨.ref s1.heap.objs.size, upd H1 s1.heap.objs.size (.frz { cls := .type "tuple", data := .seq us.toArray } (.tup xs)), I1.laid (t' := s1.toks) (fun b u e => Heap.get?_push_of_some _ e) (Nat.le_refl _) ?_, rfl, q _ hf _ ⟨rfl, rfl⟩⟩
  exact ⟨Heap.get?_push_size _ rfl, z, us, r, ⟨_, Heap.get?_push_size _ rfl, rfl, _, rfl⟩⟩
theorem j_tupF {x1} {mr : AM} (h : PA X es (TAs W mr)) : PE X (.Tuple es x1 pos) (T W (eTupF mr)) := (pe_tupF h).imp fun σ H Q ⟨ι, st, env, d, st', r, n, e, k⟩ => by
  unfold eTupF at e
  split at e
  · rename_i xs s1 e1
    split at e
    · rename_i hz
      cases e
      exact TA.of r n e1 fun vs ι1 H1 g1 r1 p1 => ⟨by rw [← p1.length]; exact hz, fun p hp o ho => (k.go g1).tpf r1 p1 hp ho⟩
    · cases e
  · cases e
theorem call_tuple_F : CallR X (.type "tuple") (fun xs H Q => ∃ p ys, xs = [.ref p] ∧ SqL X.K H p ys ∧ ∀ l, H l = none → ∀ o : Obj, o.cls = .type "tuple" ∧ o.dict = none → Q (.ref l) (upd H l (.frz o (.tup ys)))) := by
  intro pins s σ H xs us Q I r h
  obtain ⟨p, ys, rfl, hq, q⟩ := h
  obtain ⟨u, rfl, rx⟩ := vals1 r
  cases rx
  obtain ⟨its, r', pl, hz⟩ := I.list hq
  have hlen := r'.length
  refine call_tuple_list pl.isList (fun h' kp => ?_) (by simp only [List.size_toArray] <;> omega)
  have I1 : Inv X pins σ H { s with heap := h' } := I.kept (t' := s.toks) kp
  have I2 : Inv X pins σ (upd H h'.objs.size (.frz { cls := .type "tuple", data := .seq its.toArray } (.tup ys))) { s with heap := h'.push { cls := .type "tuple", data := .seq its.toArray } } :=
    I1.laid (t' := s.toks) (fun b o e => Heap.get?_push_of_some _ e) (Nat.le_refl _) ⟨Heap.get?_push_size _ rfl, hz, its, r', IsTup.new _ _⟩
  exact ⟨.ref h'.objs.size, _, I2, rfl, q _ (I1.hok.fresh (Nat.le_refl _)) _ ⟨rfl, rfl⟩⟩
theorem jc_tupleF (hK : X.K = W.K) : CallR X (.type "tuple") (MA W fTupleF) := by
  intro pins s σ H xs us Q I rx ⟨ι, st, ds, d, st', r, h, e, k⟩
  unfold fTupleF at e
  split at e
  · rename_i x
    obtain ⟨v, rfl, hv⟩ := reps1 h
    split at e
    · rename_i ys q
      cases e
      obtain ⟨p, ws, rfl, h1, h2⟩ := seqL_ok r hv q
      exact call_tuple_F pins s σ H _ us Q I rx ⟨p, ws, rfl, SqL.of h1, fun l hl o ho => k.tpf r h2 hl ho⟩
    · cases e
  · cases e
def tBF (r : V → List V → Hp → VK → Prop) (to : TE) (t : TA) : TE := fun σ H Q => to σ H fun x H1 => (∃ p o xs, x = .ref p ∧ H1 p = some (.frz o (.tup xs)) ∧ o.cls = .type "tuple" ∧ o.dict = none) ∧ t σ H1 fun xs H2 => r x xs H2 Q
theorem pe_bF {to : TE} {t : TA} {r : V → List V → Hp → VK → Prop} (pa : PlainAttrs "tuple") (slot : Slot "tuple" name id) (hty : typeOf (.builtin id) = pure (.type "method_descriptor")) (hm : MtR X id r) (ho : PE X o to) (ha : PA X (e :: es) t)
    (hbase : attributeBase o name X.env (eval o X.env) = eval o X.env := by rfl)
    (hfew : ((backTo cpos (starEach (e :: es) X.env)).all (fun x => !x.1) && (backToKw cpos (keywordEach [] X.env)).all (fun x => x.1.isSome)
      && decide ((e :: es).length + ([] : List Keyword).length + (if ([] : List Keyword).isEmpty then 0 else 1) < 30)) = true := by rfl)
    (hline : (apos.endLine == cpos.line) = true := by rfl) (hs : starEach (e :: es) X.env = (false, eval e X.env) :: starEach es X.env := by rfl) (hplain : (backTo cpos (starEach es X.env)).any (·.1) = false := by rfl) :
    PE X (.Call (.Attribute o name apos) (e :: es) [] cpos) (tBF r to t) := by
  refine ⟨fun pins s σ H Q I h => ?_⟩
  refine wpAny_Call_method_late hbase hfew hline rfl (thn (ho.run pins s σ H _ I h) fun v s1 ⟨x, H1, I1, r1, ty, q1⟩ => ?_)
  obtain ⟨p, ob, xs, rfl, h1, h2, h3⟩ := ty
  cases r1
  have hg := (I1.hok p _ h1).1
  refine ⟨"tuple", id, pa, slot, hty, ⟨ob, hg, h2⟩, fun a e => ?_, ?_⟩
  · cases e
    exact ⟨ob, hg, h3⟩
  have hA := ha.run cpos pins s1 σ H1 _ I1 q1
  rw [hs] at hA ⊢
  refine Calls.callWith_builtin (by show (false || (backTo cpos (starEach es X.env)).any (·.1)) = false; rw [hplain] <;> rfl) (Calls.evalArgs_plain ?_)
  exact thn hA fun us s2 ⟨vs, H2, I2, r2, q2⟩ => hm pins s2 σ H2 (.ref p) vs (.ref p) us Q I2 rfl r2 q2
theorem j_bF (hK : X.K = W.K) (pa : PlainAttrs "tuple") (slot : Slot "tuple" name id) (hty : typeOf (.builtin id) = pure (.type "method_descriptor")) (hm : MtR X id (MMt W F)) (ho : PE X o (T W mo)) (ha : PA X (e :: es) (TAs W ma))
    (hbase : attributeBase o name X.env (eval o X.env) = eval o X.env := by rfl)
    (hfew : ((backTo cpos (starEach (e :: es) X.env)).all (fun x => !x.1) && (backToKw cpos (keywordEach [] X.env)).all (fun x => x.1.isSome)
      && decide ((e :: es).length + ([] : List Keyword).length + (if ([] : List Keyword).isEmpty then 0 else 1) < 30)) = true := by rfl)
    (hline : (apos.endLine == cpos.line) = true := by rfl) (hs : starEach (e :: es) X.env = (false, eval e X.env) :: starEach es X.env := by rfl) (hplain : (backTo cpos (starEach es X.env)).any (·.1) = false := by rfl) :
    PE X (.Call (.Attribute o name apos) (e :: es) [] cpos) (T W (eBF F mo ma)) := (pe_bF pa slot hty hm ho ha hbase hfew hline hs hplain).imp fun σ H Q ⟨ι, st, env, d, st', r, n, e, k⟩ => by
  unfold eBF at e
  split at e
  · rename_i ys s1 e1
    split at e
    · rename_i xs s2 e2
      exact T.of r n e1 fun v ι1 H1 g1 r1 p1 => by
        obtain ⟨a, o, vs, rfl, h0, h1, _, _⟩ := tpf_ok p1
        exact ⟨⟨a, o, vs, rfl, h1, h0.1, h0.2⟩, TA.of r1 (n.grow g1) e2 fun us ι2 H2 g2 r2 p2 => ⟨ι2, s2, _, xs, d, st', r2, Rep.grow g2 _ _ p1, p2, e, k.go (g1.trans g2)⟩⟩
    · cases e
  · cases e
theorem jm_countF (hK : X.K = W.K) : MtR X "tuple.count" (MMt W mCountF) := by
  intro pins s σ H x xs v us Q I rx rxs ⟨ι, st, o, as, d, st', r, ho, ha, e, k⟩
  unfold mCountF at e
  split at e
  · rename_i ys y
    obtain ⟨w, rfl, hw⟩ := reps1 ha
    obtain ⟨p, o1, ws, rfl, _, _, h1, h2⟩ := tpf_ok ho
    split at e
    · rename_i x' us' q1 q2
      cases e
      have e1 := sc_ok q1 hw
      have e2 := scs_ok q2 h2
      subst e1 e2
      cases rx
      obtain ⟨u1, rfl, ru⟩ := vals1 rxs
      rw [← hK] at h1
      obtain ⟨its, rv, ⟨⟨cls, dd, data, sl⟩, ho, hc, n, hd⟩, hlen⟩ := I.tuple h1
      simp only at hc hd
      subst hc hd
      refine call_meets PySem.F.slot_tuple_count ⟨_, ho, rfl⟩ PySem.F.entry_tuple_count (PySem.F.args_tuple_count_2 _ _) (SeqAt.tuple_countAt p its.toArray n dd sl u1 (eqU w)) ⟨ho, fun u' hu' => mem_eqAt ru (flat_sc q1) rv (flat_scs q2) u' (by simpa using hu'), ?_⟩
      have e2 := cnt_of (x := w) rv (flat_scs q2)
      have e3 : its.toArray.toList.countP (eqU w) = cntV ws w := e2
      rw [e3]
      exact ⟨.int (cntV ws w : Nat), H, I.tok _, ⟨_, rfl⟩, k.now r int_rep⟩
    · cases e
  · cases e
end
section
variable {env : Env} {st : Store} {Q : D → Store → Prop}
theorem ev_tupF {a : AM} : EvE (eTupF a) env st Q ↔ EvA a env st fun xs s1 => xs.length ≤ sizeLine ∧ Q (.tpf xs) s1 := by
  unfold EvE EvA eTupF
  constructor
  · rintro ⟨d, s, e, q⟩
    split at e
    · rename_i xs s1 h
      split at e
      · rename_i hz
        cases e
        exact ⟨_, _, h, hz, q⟩
      · cases e
    · cases e
  · rintro ⟨xs, s1, h, hz, q⟩
    exact ⟨_, _, by rw [h]; simp only [if_pos hz], q⟩
theorem ev_bF {F : MM} {a : EM} {r : AM} : EvE (eBF F a r) env st Q ↔ EvE a env st fun x s1 => ∃ ys, x = .tpf ys ∧ EvA r env s1 fun xs s2 => ∃ d s3, F (.tpf ys) xs s2 = some (d, s3) ∧ Q d s3 := by
  unfold EvE EvA eBF
  constructor
  · rintro ⟨d, s, e, q⟩
    split at e
    · rename_i ys s1 h
      split at e
      · rename_i xs s2 h2
        exact ⟨_, _, h, ys, rfl, _, _, h2, _, _, e, q⟩
      · cases e
    · cases e
  · rintro ⟨x, s1, h, ys, rfl, xs, s2, h2, d, s3, h3, q⟩
    exact ⟨d, s3, by rw [h]; simp only [h2, h3], q⟩
theorem ev_tupleF_cell {n : Nat} {xs : List D} (h : st[n]? = some (.lst xs)) : EvF fTupleF [.ref n] st Q ↔ Q (.tpf xs) st := by
  have e : fTupleF [.ref n] st = some (.tpf xs, st) := by simp only [fTupleF, seqL, h]
  exact evF_some e
theorem ev_tupleF_lst {xs : List D} : EvF fTupleF [.lst xs] st Q ↔ Q (.tpf xs) st := evF_some rfl
end
end My

namespace My
open PySem PySem.Spec PyProof.Rows L2
/-! ### min(d.values()) -/
def eMinVals (m : EM) : EM := fun env st => match m env st with
  | some (x, s1) => match dicK s1 x with
    | some (_, vs) => match intsOf vs with
      | some ns => ns.min?.map fun z => (.int z, s1)
      | none => none
    | none => none
  | none => none
theorem zip_snd {α β : Type} : ∀ {as : List α} {bs : List β}, as.length = bs.length → (as.zip bs).map (·.2) = bs
  | [], [], _ => rfl
  | [], _ :: _, h => by simp at h
  | _ :: _, [], h => by simp at h
  | a :: as, b :: bs, h => by
    rw [List.zip_cons_cons, List.map_cons, zip_snd (by simpa using h)]
theorem reps_intsV {W : Wd} {ι : Lay} {H : Hp} : ∀ {ns : List Int} {vs : List V}, Reps W ι H (ns.map D.int) vs → vs = ns.map V.int
  | [], vs, h => h.nil_of
  | n :: ns, vs, h => by
    obtain ⟨v, us, rfl, hv, hus⟩ := h
    rw [reps_intsV hus, List.map_cons]
    rw [show v = V.int n by simpa only [Rep] using hv]
section
variable {X : Cx} {W : Wd} {o : Expr} {m : EM} {p pos apos mpos : Pos}
theorem j_minVals (hc : X.calm = true) (hg : Gl X "min") (hm : X.mg "min" = none) (hd : PE X o (T W m)) (hbase : attributeBase o "values" X.env (eval o X.env) = eval o X.env := by rfl) (hline : (apos.endLine == mpos.line) = true := by rfl)
    (hse : starEach [Expr.Call (.Attribute o "values" apos) [] [] mpos] X.env = [(false, eval (Expr.Call (.Attribute o "values" apos) [] [] mpos) X.env)] := by rfl) :
    PE X (.Call (.Name "min" p) [.Call (.Attribute o "values" apos) [] [] mpos] [] pos) (T W (eMinVals m)) := (pe_minVals hc hg hm hd hbase hline hse).imp fun σ H Q ⟨ι, st, env, d, st', r, n, e, k⟩ => by
  unfold eMinVals at e
  split at e
  · rename_i x s1 e1
    split at e
    · rename_i ks vs q
      split at e
      · rename_i ns q2
        rw [Option.map_eq_some_iff] at e
        obtain ⟨z, hz, eq⟩ := e
        cases eq
        refine T.of r n e1 fun v ι1 H1 g1 r1 p1 => ?_
        obtain ⟨a, us, rfl, ha, hl, rep⟩ := dicK_ok r1 p1 q
        rw [intsOf_eq q2] at rep hl
        have hu := reps_intsV rep
        rw [List.min?_eq_some_iff] at hz
        refine ⟨a, _, ns, rfl, ha, ?_, fun z => by rw [z] at hz; exact absurd hz.1 (by simp), fun w hw1 hw2 => ?_⟩
        · rw [zip_snd (by rw [hl, hu, List.length_map, List.length_map]), hu]
        · have : w = z := Int.le_antisymm (hw2 z hz.1) (hz.2 w hw1)
          rw [this]
          exact k _ _ _ g1 r1 int_rep
      · cases e
    · cases e
  · cases e
end
section
variable {env : Env} {st : Store} {Q : D → Store → Prop}
theorem ev_minVals {m : EM} : EvE (eMinVals m) env st Q ↔ EvE m env st fun x s1 => ∃ ks vs ns z, dicK s1 x = some (ks, vs) ∧ intsOf vs = some ns ∧ ns.min? = some z ∧ Q (.int z) s1 := by
  unfold EvE eMinVals
  constructor
  · rintro ⟨d, s, e, q⟩
    split at e
    · rename_i x s1 h
      split at e
      · rename_i ks vs h2
        split at e
        · rename_i ns h3
          rw [Option.map_eq_some_iff] at e
          obtain ⟨z, h4, eq⟩ := e
          cases eq
          exact ⟨_, _, h, ks, vs, ns, z, h2, h3, h4, q⟩
        · cases e
      · cases e
    · cases e
  · rintro ⟨x, s1, h, ks, vs, ns, z, h2, h3, h4, q⟩
    exact ⟨.int z, s1, by rw [h]; simp only [h2, h3, h4, Option.map_some], q⟩
end
end My

namespace My
open PySem PySem.Spec PyProof.Rows L2 PySem.W
/-! ### xs[::-1], a, *b = t, min of a list of pairs -/
def eRev (m : EM) : EM := fun env st => match m env st with
  | some (d, s1) => match seqA s1 d with
    | some xs => if isT d then none else some (.lst xs.reverse, s1)
    | none => none
  | none => none
where isT : D → Bool
  | .tup _ => true
  | .tpf _ => true
  | _ => false
section
variable {X : Cx} {W : Wd} {e : Expr} {m : EM}
theorem Reps.rev {ι : Lay} {H : Hp} : ∀ {ds : List D} {vs : List V}, Reps W ι H ds vs → Reps W ι H ds.reverse vs.reverse
  | [], _, h => by rw [h.nil_of]; exact Reps.nil
  | d :: ds, _, h => by
    obtain ⟨v, r, rfl, h1, h2⟩ := h.uncons
    rw [List.reverse_cons, List.reverse_cons]
    exact (Reps.rev h2).append (Reps.cons h1 Reps.nil)
theorem j_rev {k : Nat} {p1 p2 p3 pos : Pos} (hK : X.K = W.K) (he : PE X e (T W m)) : PE X (.Subscript e (.Slice none none (some (.UnaryOp .USub (.Constant (.int 1) k p1) p2)) p3) pos) (T W (eRev m)) := (pe_revL he).imp fun σ H Q ⟨ι, st, env, d, st', r, n, e, k⟩ => by
  unfold eRev at e
  split at e
  · rename_i x s1 e1
    split at e
    · rename_i xs q
      split at e
      · cases e
      · rename_i hT
        cases e
        refine T.of r n e1 fun v ι1 H1 g1 r1 p1 => ?_
        obtain ⟨a, vs, rfl, h1, h2⟩ := seqA_list r1 p1 q (by cases x <;> simp only [seqT]; exact absurd rfl hT) (by cases x <;> simp only [isTpf]; exact absurd rfl hT)
        refine ⟨a, vs, rfl, hK ▸ h1, fun p hp => (k.go g1).lst r1 ?_ hp⟩
        exact h2.rev
    · cases e
  · cases e
end
/-! ### a, *b = t -/
section
variable {prog : Program} {w : World} {A : Around} {E : Value → Shared → Prop} {s : Shared}
theorem un_starT {l : Addr} {items : Array Value} {x : Value} {Q : List Value → Shared → Prop} (hl : IsTup s.heap l items) (hh : A.handled = none) (hx : items.toList[0]? = some x) (hz : items.size ≤ 16384)
    (h : ∀ (h' : Heap) (tk : Nat), (∀ b o, s.heap.get? b = some o → h'.get? b = some o) → Q [x, .ref h'.objs.size] { s with heap := h'.push { cls := .type "list", data := .seq (items.toList.drop 1).toArray }, toks := tk }) : wpAny (model prog w) A (unpackItems (.ref l) 2 (some 1)) Q E s := by
  have hlt : l ≠ s.heap.objs.size := by obtain ⟨o, ho, _⟩ := hl; exact Nat.ne_of_lt (Heap.lt_size ho)
  have hn : 1 ≤ items.size := by
    have h0 := (List.getElem?_eq_some_iff.mp hx).1
    have h1 : 0 < items.size := by simpa using h0
    omega
  unfold unpackItems
  refine wpAny_bind ?_
  unfold notIterableAtAll
  refine wpAny_bind (wpAny_specialOf hl.typeIs slot_tuple_iter.lookup ?_)
  refine wpAny_pure ?_
  simp only [Bool.false_eq_true, if_false]
  refine wpAny_bind (wpAny_holding (iter_tuple hl ?_))
  refine wpAny_bind (wpAny_holding (draw_tuple hlt 1 0 _ _ ⟨_, Heap.get?_push_size _ rfl, rfl, rfl⟩ (hl.push _) (by omega) fun h₁ hit₁ hs₁ => ?_))
  have hl₁ : IsTup h₁ l items := (hl.push _).extBut hs₁.extBut hlt
  rw [Nat.zero_add] at hit₁
  have hit₁' := hit₁
  obtain ⟨oi, hoi, _⟩ := hit₁'
  have hl₁' := hl₁
  obtain ⟨ol, hol, _⟩ := hl₁'
  rw [List.drop_zero]
  have hfl : (items.toList.take 1).length = 1 := by rw [List.length_take, Array.length_toList]; omega
  rw [if_neg (show ¬ ((items.toList.take 1).length < 1) by rw [hfl]; omega)]
  refine wpAny_bind (wpAny_holding (kun_collect (s := { s with heap := h₁ }) (T := "tuple_iterator") (.inr (.inr (.inr rfl))) (Walks.tuple (A := A.in1) hh s.heap.objs.size l hlt items) (fun j u st => st.1.typeIs) (k := 1) (by omega) ⟨hit₁, hl₁⟩ (Heap.lt_size hoi) (Heap.lt_size hol) (fun h₂ tk hk => ?_) (by rw [sizeLine_eq]; omega)))
  have hrl : (items.toList.drop 1).length = items.size - 1 := by rw [List.length_drop, Array.length_toList]
  show wpAny _ _ (if (items.toList.drop 1).length < 2 - 1 - 1 then _ else _) _ _ _
  rw [if_neg (by omega)]
  show wpAny _ _ (newList ((items.toList.drop 1).take ((items.toList.drop 1).length - (2 - 1 - 1))) >>= fun d => pure (items.toList.take 1 ++ [d] ++ (items.toList.drop 1).drop ((items.toList.drop 1).length - (2 - 1 - 1)))) _ _ _
  have e1 : (items.toList.drop 1).length - (2 - 1 - 1) = (items.toList.drop 1).length := by omega
  have e2 : items.toList.take 1 = [x] := by
    cases q : items.toList with
    | nil => rw [q] at hx; cases hx
    | cons y ys => rw [q] at hx; cases hx; rfl
  rw [e1, List.take_length, List.drop_length, e2]
  simp only [List.append_nil, List.cons_append, List.nil_append]
  have he : Heap.ExtBut s.heap.objs.size s.heap h₂ := fun b o hb e => hk b o hb (hs₁.extBut b o hb (Heap.get?_push_of_some _ e))
  unfold newList
  refine wpAny_bind (wpAny_newObj_type (wpAny_pure ?_) (by show (List.drop 1 items.toList).toArray.size ≤ sizeLine; rw [List.size_toArray, hrl, sizeLine_eq]; omega))
  exact h h₂ tk fun b o e => he b o (Nat.ne_of_lt (Heap.lt_size e)) e
end
def gStar2 (K : PySem.W.Frag) (i j : Nat) : TG := fun v σ H Q => ∃ a x xs, v = .ref a ∧ SqT K H a (x :: xs) ∧ xs.length < 16384 ∧ ∀ p, H p = none → Q ((σ.set i (some x)).set j (some (.ref p))) (upd H p (.lst xs))
section
variable {X : Cx} {W : Wd} {e : Expr} {m : EM} {pos p1 p2 p3 : Pos}
theorem pg_star2 {i j k : Nat} {x y : Str} (hc : X.calm = true) (hN : X.N.Nodup) (hi : X.N[i]? = some x) (hj : X.N[j]? = some y) (hx : Loc X.env.scope x) (hy : Loc X.env.scope y)
    (fx : X.fn x = true ∨ X.env.scope.names.lookup x = some .local) (fy : X.fn y = true ∨ X.env.scope.names.lookup y = some .local) : PG X (.Tuple [.Name x p1, .Starred (.Name y p2) p3] k pos) (gStar2 X.K i j) := by
  refine ⟨fun pins s σ H v u Q I r h => ?_⟩
  obtain ⟨a, z, xs, rfl, hq, hl, q⟩ := h
  cases r
  obtain ⟨its, rv, ht, hz⟩ := I.tuple hq
  obtain ⟨u, us, rfl, ru, rus⟩ : ∃ u us, its = u :: us ∧ RelV z u ∧ Vals xs us := by
    cases rv with
    | cons r t => exact ⟨_, _, rfl, r, t⟩
  have hlen := rus.length
  rw [assign_Tuple]
  refine wpAny_bind (wpAny_standAt ?_)
  unfold unpack
  show wpAny _ _ (holding [.ref a] (unpackItems (.ref a) 2 (some 1)) >>= fun is => assignInOrder [assign (.Name x p1) X.env, assign (.Name y p2) X.env] is) _ _ _
  refine wpAny_bind (wpAny_holding (un_starT ht (I.ok.hd hc) rfl (by simp only [List.size_toArray, List.length_cons]; omega) fun h' tk hk => ?_))
  have I1 : Inv X pins σ H { s with heap := h', toks := tk } := I.kept (t' := tk) hk
  have e1 : (u :: us).toArray.toList.drop 1 = us := rfl
  rw [e1]
  have hf := I1.hok.fresh (Nat.le_refl h'.objs.size)
  have I2 : Inv X pins σ (upd H h'.objs.size (.lst xs)) { s with heap := h'.push { cls := .type "list", data := .seq us.toArray }, toks := tk } :=
    I1.laid (t' := tk) (fun b o e => Heap.get?_push_of_some _ e) (Nat.le_refl _) (show ObjOk X.prog X.w _ _ _ (.lst xs) from ⟨by rw [sizeLine_eq]; omega, us, 0, rus, Heap.get?_push_size _ rfl⟩)
  refine assignInOrder_cons (wpAny_assign_Name (store_ok I2 hN hi hx ru (fun s2 I3 => ?_) fx))
  refine assignInOrder_cons (wpAny_assign_Name (store_ok I3 hN hj hy (v := .ref h'.objs.size) rfl (fun s3 I4 => assignInOrder_nil ?_) fy))
  exact ⟨_, _, I4, q _ hf⟩
def sStar2 (i j : Nat) (m : EM) : SM := fun env st => match m env st with
  | some (.tup (x :: xs), s1) => if xs.length < 16384 then some (.nx ((env.set i (some x)).set j (some (.lst xs))), s1) else none
  | _ => none
theorem js_star2 {i j k : Nat} {pt : Pos} {x y : Str} (hK : X.K = W.K) (hc : X.calm = true) (hN : X.N.Nodup) (hi : X.N[i]? = some x) (hj : X.N[j]? = some y) (hx : Loc X.env.scope x) (hy : Loc X.env.scope y)
    (fx : X.fn x = true ∨ X.env.scope.names.lookup x = some .local) (fy : X.fn y = true ∨ X.env.scope.names.lookup y = some .local) (he : PE X e (T W m))
    (hs : swapsWithSole [.Tuple [.Name x p1, .Starred (.Name y p2) p3] k pt] e pos.line X.env = pure false := by rfl) (hw : swappedStores [.Tuple [.Name x p1, .Starred (.Name y p2) p3] k pt] e X.env = pure none := by rfl)
    (h1 : (assignEach [.Tuple [.Name x p1, .Starred (.Name y p2) p3] k pt] X.env).map (·.2) = [assign (.Tuple [.Name x p1, .Starred (.Name y p2) p3] k pt) X.env] := by rfl) :
    PS X (.Assign [.Tuple [.Name x p1, .Starred (.Name y p2) p3] k pt] e pos) (TSt W (sStar2 i j m)) := (ps_asg he (pg_star2 hc hN hi hj hx hy fx fy) hs hw h1).imp fun D σ H ⟨ι, st, env, o, st', r, n, e, k⟩ => by
  unfold sStar2 at e
  split at e
  · rename_i x xs s1 q
    split at e
    · rename_i hl
      cases e
      refine T.of r n q fun v ι1 H1 g1 r1 p1 => ?_
      obtain ⟨a, vs, rfl, h1, h2⟩ := seqT_ok p1 (xs := x :: xs) rfl
      obtain ⟨v, us, rfl, h3, h4⟩ := h2.uncons
      refine ⟨a, v, us, rfl, SqT.of h1, by rw [← h4.length]; exact hl, fun p hp => ?_⟩
      have g2 := Grow.laid (ι := ι1) (o := .lst us) hp
      refine k _ ι1 _ (g1.trans g2) (r1.laid hp) (((n.grow (g1.trans g2)).set i (Rep.grow g2 _ _ h3)).set j ?_)
      simp only [Rep]
      exact ⟨p, rfl, r1.free hp, us, upd_same, Reps.grow g2 _ _ h4⟩
    · cases e
  · cases e
end
section
variable {env : Env} {st : Store} {Q : D → Store → Prop} {QS : Out → Store → Prop}
theorem ev_rev {m : EM} : EvE (eRev m) env st Q ↔ EvE m env st fun d s1 => ∃ xs, seqA s1 d = some xs ∧ eRev.isT d = false ∧ Q (.lst xs.reverse) s1 := by
  unfold EvE eRev
  constructor
  · rintro ⟨d, s, e, q⟩
    split at e
    · rename_i x s1 h
      split at e
      · rename_i xs h2
        split at e
        · cases e
        · rename_i hT
          cases e
          exact ⟨_, _, h, xs, h2, by simpa using hT, q⟩
      · cases e
    · cases e
  · rintro ⟨d, s1, h, xs, h2, h3, q⟩
    exact ⟨_, _, by rw [h]; simp only [h2, h3]; rfl, q⟩
theorem ev_star2 {i j : Nat} {m : EM} : EvS (sStar2 i j m) env st QS ↔ EvE m env st fun d s1 => ∃ x xs, d = .tup (x :: xs) ∧ xs.length < 16384 ∧ QS (.nx ((env.set i (some x)).set j (some (.lst xs)))) s1 := by
  unfold EvS EvE sStar2
  constructor
  · rintro ⟨o, s, e, q⟩
    split at e
    · rename_i x xs s1 h
      split at e
      · rename_i hl
        cases e
        exact ⟨_, _, h, x, xs, rfl, hl, q⟩
      · cases e
    · cases e
  · rintro ⟨d, s1, h, x, xs, rfl, hl, q⟩
    exact ⟨_, _, by rw [h]; simp only [if_pos hl], q⟩
end
end My

namespace My
open PySem PySem.Spec PyProof.Rows L2
/-! ### min of a list of pairs of whole numbers -/
def pairOf : D → Option (Int × Int)
  | .tup [.int a, .int b] => some (a, b)
  | _ => none
def pairsOf : List D → Option (List (Int × Int))
  | [] => some []
  | d :: ds => match pairOf d, pairsOf ds with
    | some p, some ps => some (p :: ps)
    | _, _ => none
def pairD (p : Int × Int) : D := .tup [.int p.1, .int p.2]
def pairP (p : Int × Int) : PyData := .tuple [.int p.1, .int p.2]
def prLt (y a : Int × Int) : Bool := decide (y.1 < a.1) || (decide (y.1 = a.1) && decide (y.2 < a.2))
def minPr (p : Int × Int) (ps : List (Int × Int)) : Int × Int := ps.foldl (fun a y => if prLt y a then y else a) p
def fMinP : FM := fun ds st => match ds with
  | [.lst xs] => match pairsOf xs with
    | some (p :: ps) => some (pairD (minPr p ps), st)
    | _ => none
  | _ => none
theorem pairOf_eq {d : D} {p : Int × Int} (h : pairOf d = some p) : d = pairD p := by
  unfold pairOf at h
  split at h
  · cases h; rfl
  · cases h
theorem pairsOf_eq : ∀ {ds : List D} {ps : List (Int × Int)}, pairsOf ds = some ps → ds = ps.map pairD
  | [], ps, h => by cases h; rfl
  | d :: ds, ps, h => by
    simp only [pairsOf] at h
    split at h
    · rename_i p qs h1 h2
      cases h
      rw [List.map_cons, pairOf_eq h1, ← pairsOf_eq h2]
    · cases h
theorem pairsOf_map : ∀ ps : List (Int × Int), pairsOf (ps.map pairD) = some ps
  | [] => rfl
  | p :: ps => by
    simp only [List.map_cons, pairsOf, pairsOf_map ps]
    rfl
theorem lt_pairP (y a : Int × Int) : PySem.W.dataLt (pairP y) (pairP a) = prLt y a := by
  have h := PySem.W.dataLt_ints [y.1, y.2] [a.1, a.2]
  have e : PySem.W.dataLt (pairP y) (pairP a) = PySem.W.rowLt ([y.1, y.2].map .int) ([a.1, a.2].map .int) := by
    unfold PySem.W.dataLt PySem.W.rowLt pairP
    simp only [PySem.W.keyToks, List.map_cons, List.map_nil]
  rw [e, h]
  unfold prLt
  rw [Bool.eq_iff_iff]
  simp [List.cons_lt_cons_iff]
theorem minD_pairs (p : Int × Int) : ∀ ps : List (Int × Int), PySem.W.minD (pairP p) (ps.map pairP) = pairP (minPr p ps) := by
  intro ps
  unfold PySem.W.minD minPr
  induction ps generalizing p with
  | nil => rfl
  | cons y ps ih =>
    rw [List.map_cons, List.foldl_cons, List.foldl_cons, ← ih, lt_pairP]
    congr 1
    split <;> rfl
theorem alike_pairs (ps : List (Int × Int)) : PySem.W.AlikeAll (ps.map pairP) := by
  refine ⟨fun x hx y hy => ?_, fun x hx e => ?_⟩
  · obtain ⟨i, _, rfl⟩ := List.mem_map.mp hx
    obtain ⟨j, _, rfl⟩ := List.mem_map.mp hy
    rfl
  · obtain ⟨i, _, rfl⟩ := List.mem_map.mp hx
    cases e
theorem depth_pairs : ∀ ps : List (Int × Int), PyData.depthAll (ps.map pairP) ≤ 2
  | [] => by simp [PyData.depthAll]
  | p :: ps => by
    have := depth_pairs ps
    simp only [List.map_cons, PyData.depthAll, pairP, PyData.depth]
    omega
theorem pairP_inj {p q : Int × Int} (h : pairP p = pairP q) : p = q := by
  unfold pairP at h
  injection h with h
  injection h with h1 h
  injection h with h2 _
  injection h1 with h1
  injection h2 with h2
  exact Prod.ext h1 h2
theorem pys_pairs : ∀ ps : List (Int × Int), D.pys (ps.map pairD) = some (ps.map pairP)
  | [] => by simp only [List.map_nil, D.pys]
  | p :: ps => by simp only [List.map_cons, D.pys, D.py, pairD, pairP, pys_pairs ps, Option.map_some]
section
variable {X : Cx} {W : Wd}
theorem jc_minP (hK : X.K = W.K) (hc : X.calm = true) (hu : X.A.units + 65 < cLine) : CallR X (.builtin "min") (MA W fMinP) := by
  intro pins s σ H xs us Q I rx ⟨ι, st, ds, d, st', r, h, e, k⟩
  unfold fMinP at e
  split at e
  · rename_i ys
    obtain ⟨v, rfl, hv⟩ := reps1 h
    split at e
    · rename_i p ps q
      cases e
      have e2 := pairsOf_eq q
      subst e2
      simp only [Rep] at hv
      obtain ⟨a, rfl, _, ws, h1, h2⟩ := hv
      have dp := pys_ok _ _ _ (pys_pairs (p :: ps)) h2
      rw [← hK] at dp
      obtain ⟨its, rv, pl, _⟩ := I.list (SqL.of h1)
      rw [Vals.ref1 rx]
      obtain ⟨as, rs⟩ := Dp.readsAll I _ _ _ dp rv
      refine PySem.W.min_list_data (I.ok.hd hc) pl.isList (x := pairP p) (xs := ps.map pairP) rs (alike_pairs (p :: ps)) ?_ fun i v h' tk bs hi rd hk => ?_
      · have := depth_pairs (p :: ps)
        show X.A.units + 1 + PyData.depthAll ((p :: ps).map pairP) < cLine
        omega
      · rw [minD_pairs] at rd
        obtain ⟨bs2, rd2, hlt, _, _⟩ := PySem.W.readsAll_atA rs i v hi
        have ed := PyProof.Rows.reads_det (fun b o e _ => hk b o e) rd2 rd
        have hi2 : i < (p :: ps).length := by simpa using hlt
        have e3 : (List.map pairP (p :: ps)).getD i .none = pairP (p :: ps)[i] := by
          rw [List.getD_eq_getElem?_getD, List.getElem?_map, List.getElem?_eq_getElem hi2]
          rfl
        have e4 := pairP_inj (e3.symm.trans ed.1.symm)
        have hd : ((p :: ps).map pairD)[i]? = some (pairD (minPr p ps)) := by
          rw [List.getElem?_map, List.getElem?_eq_getElem hi2, e4]
          rfl
        obtain ⟨w, hw1, hw2⟩ := h2.get hd
        have rw1 : RelV w v := by
          have := rv.get hw1
          obtain ⟨v', hv1, hv2⟩ := this
          have : its[i]? = some v := by simpa using hi
          rw [this] at hv1
          cases hv1
          exact hv2
        exact ⟨w, H, I.kept hk, rw1, k.now r hw2⟩
    · cases e
  · cases e
end
theorem ev_minP {p : Int × Int} {ps : List (Int × Int)} {st : Store} {Q : D → Store → Prop} (k : Q (pairD (minPr p ps)) st) : EvF fMinP [.lst ((p :: ps).map pairD)] st Q := by
  refine ⟨_, st, ?_, k⟩
  simp only [fMinP, pairsOf_map]
/-- the least pair: an item, and none is less -/
theorem minPr_spec (p : Int × Int) (ps : List (Int × Int)) : minPr p ps ∈ p :: ps ∧ ∀ q ∈ p :: ps, (minPr p ps).1 ≤ q.1 := by
  unfold minPr
  induction ps generalizing p with
  | nil => exact ⟨List.mem_singleton.mpr rfl, fun q hq => by rw [List.mem_singleton.mp hq]; exact Int.le_refl _⟩
  | cons y ps ih =>
    rw [List.foldl_cons]
    by_cases c : prLt y p = true
    · rw [if_pos c]
      obtain ⟨h1, h2⟩ := ih y
      refine ⟨List.mem_cons_of_mem _ h1, fun q hq => ?_⟩
      rcases List.mem_cons.mp hq with rfl | hq
      · have := h2 y List.mem_cons_self
        unfold prLt at c
        simp only [Bool.or_eq_true, Bool.and_eq_true, decide_eq_true_eq] at c
        omega
      · exact h2 q hq
    · rw [if_neg c]
      obtain ⟨h1, h2⟩ := ih p
      refine ⟨?_, fun q hq => ?_⟩
      · rcases List.mem_cons.mp h1 with e | e
        · rw [e]; exact List.mem_cons_self
        · exact List.mem_cons_of_mem _ (List.mem_cons_of_mem _ e)
      · rcases List.mem_cons.mp hq with rfl | hq
        · exact h2 _ List.mem_cons_self
        · rcases List.mem_cons.mp hq with rfl | hq
          · have := h2 p List.mem_cons_self
            unfold prLt at c
            simp only [Bool.or_eq_true, Bool.and_eq_true, decide_eq_true_eq, not_or] at c
            omega
          · exact h2 q (List.mem_cons_of_mem _ hq)
end My

namespace My
open PySem PySem.Spec PyProof.Rows L2
/-! ### xs.extend(a tuple), isinstance(x, (C, D)) -/
theorem list_extend_tup (l : Addr) (items : Array Value) (n : Nat) (b : Addr) (items2 : Array Value) (n2 : Nat) (dd : Option Addr) (sl : Array (Option Value)) (hs0 : ¬(!items.isEmpty && Builtin.List.listTooLong (items.size + items2.size)) = true) (hs1 : items.size ≤ sizeLine) (hs2 : items.size + items2.size ≤ sizeLine + 1) :
    Meets (Builtin.«list.extend» ⟨[.ref l, .ref b], []⟩) (fun _ R s => s.heap.get? l = some { cls := .type "list", dict := none, data := .seq items n, slots := #[] } ∧ s.heap.get? b = some { cls := .type "tuple", dict := dd, data := .seq items2 n2, slots := sl } ∧ R (.ok (.ret Value.none)) { s with heap := s.heap.update l (Obj.mapSeq fun x => x ++ items2), toks := s.toks }) :=
  .of_wp fun prog w A R s h => by
    obtain ⟨hp, g, d, tk, os⟩ := s; obtain ⟨hl, hb, h⟩ := h; have f2 := AutoSeq1.sub_tuple_tuple; have f3 := AutoSeq1.sub_list_list; have f4 := AutoSeq1.sub_tuple_list; have f5 := AutoSeq1.sub_list_tuple;
    have hz' : (items ++ items2).size ≤ sizeLine + 1 := by rw [Array.size_append]; exact hs2
    wp_walk using (wpAny_updateSeq hl rfl (hz := hs1) (_hz' := hz')), AutoSeq1.wpAny_loadPart' hl, AutoSeq1.wpAny_loadPart' hb; exact ⟨_, rfl, h⟩
def mExtendT : MM := fun o as st => match o, as with
  | .ref n, [.tup ys] => match st[n]? with
    | some (.lst xs) => if xs.length + ys.length ≤ sizeLine then some (.non, st.set n (.lst (xs ++ ys))) else none
    | _ => none
  | _, _ => none
section
variable {X : Cx} {W : Wd}
theorem jm_extendT : MtR X "list.extend" (MMt W mExtendT) := by
  intro pins s σ H x xs v us Q I rx rxs ⟨ι, st, o, as, d, st', r, ho, ha, e, k⟩
  unfold mExtendT at e
  split at e
  · rename_i n ys
    obtain ⟨p, c, rfl, h1, h2, h3⟩ := rep_ref r ho
    obtain ⟨w, rfl, hw⟩ := reps1 ha
    rw [h2] at e
    obtain ⟨z, hz, mz⟩ := h3.there
    split at e
    · rename_i zs q
      cases q
      split at e
      · rename_i hl
        cases e
        obtain ⟨vs, h4, h5⟩ := h3
        obtain ⟨p2, vs2, rfl, h6, h7⟩ := seqT_ok hw (xs := ys) rfl
        cases rx
        obtain ⟨u, rfl, ru⟩ := vals1 rxs
        cases ru
        obtain ⟨z1, its, n1, rv, hl1, e1⟩ := I.lstM h4
        obtain ⟨its2, rv2, ⟨⟨cls, dd, data, sl⟩, ho2, hc2, n2, hd2⟩, hz2⟩ := I.tuple (SqT.of h6)
        simp only at hc2 hd2
        subst hc2 hd2
        have hsz : its.toArray.size + its2.toArray.size ≤ sizeLine := by
          rw [List.size_toArray, List.size_toArray, ← rv.length, ← rv2.length, ← h5.length, ← h7.length]; exact hl
        have hlong : ¬ (!its.toArray.isEmpty && Builtin.List.listTooLong (its.toArray.size + its2.toArray.size)) = true := by
          rw [notLongL hsz, Bool.and_false]
          exact Bool.false_ne_true
        refine call_meets PySem.F.slot_list_extend ⟨_, e1, rfl⟩ PySem.F.entry_list_extend (PySem.F.args_list_extend_2 _ _)
          (list_extend_tup p its.toArray n1 p2 its2.toArray n2 dd sl hlong (by rw [List.size_toArray] at hsz ⊢; omega) (by omega)) ⟨e1, ho2, ?_⟩
        have g : Grow ι H ι (upd H p (.lst (vs ++ vs2))) := Grow.put h1 hz mz
        refine ⟨.non, _, I.lset (its' := its ++ its2) h4 e1 (by simp) (rv.append rv2) ?_, rfl, k _ _ _ g (r.put h1 ⟨_, upd_same, Reps.grow g _ _ (h5.append h7)⟩) non_rep⟩
        rw [List.length_append, ← h5.length, ← h7.length]
        exact hl
      · cases e
    · cases e
  · cases e
end
theorem extT_cell {n : Nat} {xs ys : List D} {st : Store} (h : st[n]? = some (.lst xs)) (hz : xs.length + ys.length ≤ sizeLine) : mExtendT (.ref n) [.tup ys] st = some (.non, st.set n (.lst (xs ++ ys))) := by
  simp only [mExtendT, h, if_pos hz]
open Classical in
noncomputable def fIsi2 : FM := fun ds st => match ds with
  | [d, .tup [.ty a, .ty b]] => match tyNameS st d with
    | some m => match kitB m a, kitB m b with
      | some x, some y => some (.bl (x || y), st)
      | _, _ => none
    | none => none
  | _ => none
theorem jc_isi2 {X : Cx} {W : Wd} (hK : X.K = W.K) : CallR X (.builtin "isinstance") (MA W fIsi2) := by
  intro pins s σ H xs us Q I rx ⟨ι, st, ds, d, st', r, h, e, k⟩
  unfold fIsi2 at e
  split at e
  · rename_i x a b
    obtain ⟨v, u, rfl, hv, hu⟩ := reps2 h
    obtain ⟨p, vs, rfl, h1, h2⟩ := seqT_ok hu (xs := [.ty a, .ty b]) rfl
    have hvs : vs = [.ty a, .ty b] := by
      obtain ⟨v1, r1, rfl, q1, q2⟩ := h2.uncons
      obtain ⟨v2, r2, rfl, q3, q4⟩ := q2.uncons
      rw [q4.nil_of]
      have e1 : v1 = .ty a := by simpa only [Rep] using q1
      have e2 : v2 = .ty b := by simpa only [Rep] using q3
      rw [e1, e2]
    subst hvs
    split at e
    · rename_i m q
      split at e
      · rename_i x y hx hy
        cases e
        have ty := tyName_ok r hv q
        rw [← hK] at ty
        refine call_isiT pins s σ H _ us Q I rx ⟨v, p, _, _, [.type a, .type b], x || y, rfl, h1, .cons (.ty a) (.cons (.ty b) .nil), ty, ?_, k.now r bl_rep⟩
        refine kitAny_cons (kit_ty hx) (fun hb => ?_) (fun hb => by rw [hb]; rfl)
        rw [hb, Bool.false_or]
        refine kitAny_cons (kit_ty hy) (fun hb => ?_) (fun hb => hb)
        rw [hb]
        rfl
      · cases e
    · cases e
  · cases e
theorem isi2_int {i : Int} {st : Store} : fIsi2 [.int i, .tup [.ty "int", .ty "str"]] st = some (.bl true, st) := by
  have h1 : kitB "int" "int" = some true := by decide +kernel
  have h2 : kitB "int" "str" = some false := by decide +kernel
  simp only [fIsi2, tyNameS, tyName, h1, h2, Bool.or_false]
theorem isi2_str {x : Str} {st : Store} : fIsi2 [.str x, .tup [.ty "int", .ty "str"]] st = some (.bl true, st) := by
  have h1 : kitB "str" "int" = some false := by decide +kernel
  have h2 : kitB "str" "str" = some true := by decide +kernel
  simp only [fIsi2, tyNameS, tyName, h1, h2, Bool.false_or]
theorem ev_isi2_int {i : Int} {st : Store} {Q : D → Store → Prop} : EvF fIsi2 [.int i, .tup [.ty "int", .ty "str"]] st Q ↔ Q (.bl true) st := evF_some isi2_int
theorem ev_isi2_str {x : Str} {st : Store} {Q : D → Store → Prop} : EvF fIsi2 [.str x, .tup [.ty "int", .ty "str"]] st Q ↔ Q (.bl true) st := evF_some isi2_str
end My

namespace My
open PySem PySem.Spec PyProof.Rows L2
/-! ### x not in a list of data -/
open Classical in
noncomputable def dNotInD (a b : D) (st : Store) : Option D := match pyOf st a, pyOf st b with
  | some p, some (.list ds) => if SeqAt.shaped p = true ∧ SeqAt.shaped (.list ds) = true then some (.bl (!ds.any fun z => PyData.eqv z p)) else none
  | _, _ => none
theorem hu65 {k : Nat} {A : Around} (r : Room k A) : A.units + 65 < cLine := by
  have := r.un
  omega
section
variable {X : Cx} {W : Wd}
theorem jo_notInD (hK : X.K = W.K) (hu : X.A.units + 65 < cLine) : OpR X (compareOp .NotIn) (M2 W dNotInD) := by
  intro pins s σ H x y v u Q I rx ry ⟨ι, st, a, b, d, r, ha, hb, e, k⟩
  unfold dNotInD at e
  split at e
  · rename_i p ds e1 e2
    split at e
    · rename_i hs
      cases e
      have h1 := pyOf_ok r e1 ha
      have h2 := pyOf_ok r e2 hb
      rw [← hK] at h1 h2
      exact op_notInD hu pins s σ H x y v u Q I rx ry ⟨p, ds, h1, h2, hs.1, hs.2, k.now r bl_rep⟩
    · cases e
  · cases e
end
end My

namespace My
open PySem PySem.Spec PyProof.Rows L2
/-! ### displays of one entry: {0: True}, {(): True} -/
def eDispT (mk mv : EM) : EM := fun env st => match mk env (st ++ [.dt [] []]) with
  | some (dk, s1) => match mv env s1 with
    | some (dv, s2) => match tkeyOf dk, s2[st.length]? with
      | some ks, some (.dt [] []) => some (.ref st.length, s2.set st.length (.dt [ks] [dv]))
      | _, _ => none
    | none => none
  | none => none
def eDispK (mk mv : EM) : EM := fun env st => match mk env (st ++ [.dk [] []]) with
  | some (dk, s1) => match mv env s1 with
    | some (dv, s2) => match keyOf dk, s2[st.length]? with
      | some ks, some (.dk [] []) => some (.ref st.length, s2.set st.length (.dk [ks] [dv]))
      | _, _ => none
    | none => none
  | none => none
def tDisp1 (tk tv : TE) : TE := fun σ H Q => ∀ p, H p = none → tk σ (upd H p (.dT [])) fun x H1 => tv σ H1 fun y H2 => H2 p = some (.dT []) ∧ ∃ ks b, x = V.ref b ∧ H2 b = some (.tup (ks.map kV)) ∧ Q (.ref p) (upd H2 p (.dT [(ks, y)]))
section
variable {X : Cx} {W : Wd} {k v : Expr} {pos : Pos} {mk mv : EM}
theorem pe_disp1 {tk tv : TE} (hu : X.A.units + 1 < cLine) (hk : PE X k tk) (hv : PE X v tv) : PE X (.Dict [some k] [v] pos) (tDisp1 tk tv) := by
  refine ⟨fun pins s σ H Q I q => ?_⟩
  have hn := I.hok.fresh (Nat.le_refl s.heap.objs.size)
  have I1 := I.laid (a := s.heap.objs.size) (o := .dT []) (h' := s.heap.push { cls := .type "dict", data := .dict #[] }) (t' := s.toks) (fun _ _ q => Heap.get?_push_of_some _ q) (Nat.le_refl _) (dt_empty s.heap I.big)
  refine wpAny_Dict_any rfl rfl (by simp) (by simp) ?_
  refine pairTrees_cons_walk (thn (hk.run pins _ σ _ _ I1 (q _ hn)) fun u s1 ⟨x, H1, I2, rx, q1⟩ => thn (hv.run pins s1 σ H1 _ I2 q1) fun w2 s2 ⟨y, H2, I3, ry, e, ks, b, ex, eb, q2⟩ => pairTrees_nil_walk ?_)
  subst ex
  cases (show u = Value.ref b from rx)
  obtain ⟨z, hd, xs, rel, dd⟩ := dt_of I3.hok e
  unfold storeAll
  rw [List.forIn_cons]
  refine wpAny_bind (wpAny_bind (wpAny_dictSet_heap (hsz := by rw [← Paired.length rel]; exact z) (show X.A.units < cLine by omega) (key_of I3.hok eb) dd fun h' dd' hs => wpAny_pure ?_))
  simp only [List.forIn_nil]
  refine wpAny_pure ⟨.ref s.heap.objs.size, _, ?_, rfl, q2⟩
  have hl : (putK ([] : List (List Key × V)) ks y).length ≤ sizeLine := by have := length_putK ([] : List (List Key × V)) ks y; rw [List.length_nil] at this; rw [sizeLine_eq]; omega
  obtain ⟨o, es, ep, hq, h2, h3, h4, _, h5⟩ := dd'
  refine d_write I3 (by rw [e]; exact True.intro) hs ⟨o, hq⟩ ⟨hl, hd, _, (rel.put ks eb ry).keeps fun c ys ec => ?_, o, es, ep, hq, h2, h3, h4, h5⟩
  rw [upd_ne (ne_of ec e (fun z => nomatch z))]
  exact ec
theorem j_dispT (hu : X.A.units + 1 < cLine) (hk : PE X k (T W mk)) (hv : PE X v (T W mv)) : PE X (.Dict [some k] [v] pos) (T W (eDispT mk mv)) := (pe_disp1 hu hk hv).imp fun σ H Q ⟨ι, st, env, d, st', r, n, e, kk⟩ => by
  unfold eDispT at e
  split at e
  · rename_i dk s1 e1
    split at e
    · rename_i dv s2 e2
      split at e
      · rename_i ks q1 q2
        cases e
        intro p hp
        have ro : RelH W (ι.add p) (upd H p (.dT [])) (st ++ [.dt [] []]) := r.new hp ⟨[], upd_same, rfl, Reps.nil⟩
        have g0 : Grow ι H (ι.add p) (upd H p (.dT [])) := Grow.cell hp
        refine T.of ro (n.grow g0) e1 fun x ι1 H1 g1 r1 p1 => T.of r1 ((n.grow g0).grow g1) e2 fun y ι2 H2 g2 r2 p2 => ?_
        have ep : (ι.add p).c[st.length]? = some p := by
          rw [← r.len]
          show (ι.c ++ [p])[_]? = _
          simp
        have ep2 := g2.pre _ _ (g1.pre _ _ ep)
        obtain ⟨c, hc, ok⟩ := r2.at ep2
        rw [q2] at hc
        cases hc
        obtain ⟨us, h4, h5, h6⟩ := ok
        rw [h6.nil_of] at h4
        unfold tkeyOf at q1
        split at q1
        · rename_i ds2
          have p1' := Rep.grow g2 _ _ p1
          obtain ⟨b, ws, rfl, h7, h8⟩ := seqT_ok p1' (xs := ds2) rfl
          have e7 := keysOf_ok q1 h8
          subst e7
          have h4' : H2 p = some (.dT []) := h4
          have gp : Grow ι2 H2 ι2 (upd H2 p (.dT [(ks, y)])) := Grow.put ep2 h4' True.intro
          refine ⟨h4', ks, b, rfl, h7, kk _ ι2 _ (((g0.trans g1).trans g2).trans gp) (r2.put ep2 ⟨[y], upd_same, rfl, Reps.grow gp _ _ (Reps.cons p2 Reps.nil)⟩) ?_⟩
          simp only [Rep]
          exact ⟨p, rfl, ep2⟩
        · cases q1
      · cases e
    · cases e
  · cases e
theorem j_dispK (hk : PE X k (T W mk)) (hv : PE X v (T W mv)) : PE X (.Dict [some k] [v] pos) (T W (eDispK mk mv)) := (pe_disp (pps_cons hk hv pps_nil) rfl rfl (by simp) (by simp)).imp fun σ H Q ⟨ι, st, env, d, st', r, n, e, kk⟩ => by
  unfold eDispK at e
  split at e
  · rename_i dk s1 e1
    split at e
    · rename_i dv s2 e2
      split at e
      · rename_i ks q1 q2
        cases e
        intro p hp
        have ro : RelH W (ι.add p) (upd H p (.dK [])) (st ++ [.dk [] []]) := r.new hp ⟨[], upd_same, rfl, Reps.nil⟩
        have g0 : Grow ι H (ι.add p) (upd H p (.dK [])) := Grow.cell hp
        refine T.of ro (n.grow g0) e1 fun x ι1 H1 g1 r1 p1 => T.of r1 ((n.grow g0).grow g1) e2 fun y ι2 H2 g2 r2 p2 => ?_
        have ep : (ι.add p).c[st.length]? = some p := by
          rw [← r.len]
          show (ι.c ++ [p])[_]? = _
          simp
        have ep2 := g2.pre _ _ (g1.pre _ _ ep)
        obtain ⟨c, hc, ok⟩ := r2.at ep2
        rw [q2] at hc
        cases hc
        obtain ⟨us, h4, h5, h6⟩ := ok
        rw [h6.nil_of] at h4
        have h4' : H2 p = some (.dK []) := h4
        have p1' := Rep.grow g2 _ _ p1
        cases keyOf_ok q1 p1'
        have gp : Grow ι2 H2 ι2 (upd H2 p (.dK [(ks, y)])) := Grow.put ep2 h4' True.intro
        refine ⟨h4', [(ks, y)], rfl, by simp, kk _ ι2 _ (((g0.trans g1).trans g2).trans gp) (r2.put ep2 ⟨[y], upd_same, rfl, Reps.grow gp _ _ (Reps.cons p2 Reps.nil)⟩) ?_⟩
        simp only [Rep]
        exact ⟨p, rfl, ep2⟩
      · cases e
    · cases e
  · cases e
end
section
variable {env : Env} {st : Store} {Q : D → Store → Prop}
theorem ev_dispT {mk mv : EM} : EvE (eDispT mk mv) env st Q ↔ EvE mk env (st ++ [.dt [] []]) fun k s1 => EvE mv env s1 fun v s2 => ∃ ks, tkeyOf k = some ks ∧ s2[st.length]? = some (.dt [] []) ∧ Q (.ref st.length) (s2.set st.length (.dt [ks] [v])) := by
  unfold EvE eDispT
  constructor
  · rintro ⟨d, s, e, q⟩
    split at e
    · rename_i dk s1 e1
      split at e
      · rename_i dv s2 e2
        split at e
        · rename_i ks q1 q2
          cases e
          exact ⟨_, _, e1, _, _, e2, ks, q1, q2, q⟩
        · cases e
      · cases e
    · cases e
  · rintro ⟨dk, s1, e1, dv, s2, e2, ks, q1, q2, q⟩
    exact ⟨_, _, by rw [e1]; simp only [e2, q1, q2], q⟩
theorem ev_dispK {mk mv : EM} : EvE (eDispK mk mv) env st Q ↔ EvE mk env (st ++ [.dk [] []]) fun k s1 => EvE mv env s1 fun v s2 => ∃ ks, keyOf k = some ks ∧ s2[st.length]? = some (.dk [] []) ∧ Q (.ref st.length) (s2.set st.length (.dk [ks] [v])) := by
  unfold EvE eDispK
  constructor
  · rintro ⟨d, s, e, q⟩
    split at e
    · rename_i dk s1 e1
      split at e
      · rename_i dv s2 e2
        split at e
        · rename_i ks q1 q2
          cases e
          exact ⟨_, _, e1, _, _, e2, ks, q1, q2, q⟩
        · cases e
      · cases e
    · cases e
  · rintro ⟨dk, s1, e1, dv, s2, e2, ks, q1, q2, q⟩
    exact ⟨_, _, by rw [e1]; simp only [e2, q1, q2], q⟩
end
end My

namespace My
open PySem PySem.Spec PyProof.Rows L2
/-! ### d.get(k, x); list(d.items()), dict(..), list(d) of dicts with tuples as keys, to be written -/
def mGetD : MM := fun o as st => match as with
  | [y, x] => match dicK st o with
    | some (ks, vs) => match keyOf y with
      | some k => some ((kGet ks vs k).getD x, st)
      | none => none
    | none => none
  | _ => none
def fDictPTM : FM := fun as st => match as with
  | [d] => match seqL st d with
    | some xs => match pairsT xs with
      | some (ks, vs) => some (.ref st.length, st ++ [.dt (mrgK [] [] ks vs) (mrgV [] [] ks vs)])
      | none => none
    | none => none
  | _ => none
def kD : Key → D
  | .inl i => .int i
  | .inr x => .str x
def fKeysTM : FM := fun as st => match as with
  | [d] => match dicT st d with
    | some (ks, _) => some (.ref st.length, st ++ [.lst (ks.map fun k => .tup (k.map kD))])
    | none => none
  | _ => none
def eItemsT (m : EM) : EM := fun env st => match m env st with
  | some (x, s1) => match dicT s1 x with
    | some (ks, vs) => some (.lst ((ks.zip vs).map fun p => .tup [.tup (p.1.map kD), p.2]), s1)
    | none => none
  | none => none
section
variable {X : Cx} {W : Wd}
theorem jm_get (hu : X.A.units + 1 < cLine) : MtR X "dict.get" (MMt W mGetD) := by
  intro pins s σ H x xs v us Q I rx rxs ⟨ι, st, o, as, d, st', r, ho, ha, e, k⟩
  unfold mGetD at e
  split at e
  · rename_i y z
    split at e
    · rename_i ks vs q
      split at e
      · rename_i kk q2
        cases e
        obtain ⟨a, ws, rfl, h1, h2, h3⟩ := dicK_ok r ho q
        obtain ⟨w1, w2, rfl, hy, hz⟩ := reps2 ha
        cases keyOf_ok q2 hy
        obtain rfl : v = Value.ref a := rx
        obtain ⟨u1, u2, rfl, r1, r2⟩ := vals2 rxs
        refine d_get2 hu I (DGet.k (k := kk) h1) r1 r2 fun w' s' I' rw' => ⟨_, H, I', rw', ?_⟩
        obtain ⟨g1, g2⟩ := kGet_ok (k := kk) (ks := ks) h3
        cases eg : kGet ks vs kk with
        | none =>
          rw [g2 eg]
          rw [eg] at k
          exact k.now r hz
        | some dd =>
          obtain ⟨uu, e1, e2⟩ := g1 dd eg
          rw [e1]
          rw [eg] at k
          exact k.now r e2
      · cases e
    · cases e
  · cases e
/-- pairs tracked at their addresses -/
def putP : Hp → List Addr → List (V × V) → Hp
  | H, a :: as, p :: ps => putP (upd H a (.tup [p.1, p.2])) as ps
  | H, _, _ => H
theorem putP_off {b : Addr} : ∀ (as : List Addr) (ps : List (V × V)) (H : Hp), b ∉ as → putP H as ps b = H b
  | [], _, _, _ => rfl
  | _ :: _, [], _, _ => rfl
  | a :: as, p :: ps, H, h => by
    show putP (upd H a (.tup [p.1, p.2])) as ps b = H b
    rw [putP_off as ps _ (fun z => h (List.mem_cons_of_mem _ z)), upd_ne (fun z => h (by rw [z]; exact List.mem_cons_self))]
theorem putP_at : ∀ (as : List Addr) (ps : List (V × V)) (H : Hp), as.length = ps.length → as.Nodup → Paired (fun (t : Addr) (p : V × V) => putP H as ps t = some (.tup [p.1, p.2])) as ps
  | [], [], _, _, _ => .nil
  | [], _ :: _, _, h, _ => by cases h
  | _ :: _, [], _, h, _ => by cases h
  | a :: as, p :: ps, H, h, hn => by
    have hn' := List.nodup_cons.mp hn
    have ih := putP_at as ps (upd H a (.tup [p.1, p.2])) (Nat.succ.inj h) hn'.2
    refine .cons ?_ ih
    show putP (upd H a (.tup [p.1, p.2])) as ps a = some (.tup [p.1, p.2])
    rw [putP_off as ps _ hn'.1, upd_same]
theorem items_laidV {pins : List (Addr × Obj)} {σ : L2.St} {H : Hp} {s : Shared} {h' : Heap} {tk : Nat} {ps : List (V × V)} {es : Array DictEntry} {acc : Array Value} {c : Nat} {as : List Addr} (I : Inv X pins σ H s) (hz : ps.length ≤ sizeLine)
    (rel : ∀ (j : Nat) (p : V × V), ps[j]? = some p → ∀ hj : j < es.size, RelV p.1 es[j].key ∧ RelV p.2 es[j].val) (lk : ps.length = es.size)
    (hk : ∀ b o, s.heap.get? b = some o → h'.get? b = some o) (hS : h'.get? s.heap.objs.size = some { cls := .type "list", dict := none, data := .seq acc c, slots := #[] }) (hl : as.length = es.size) (hG : PySem.W.DilG es s.heap.objs.size h' as) (hacc : acc.toList = as.map Value.ref) :
    ∃ H' : Hp, (∀ b o, H b = some o → H' b = some o) ∧ H s.heap.objs.size = none ∧ H' s.heap.objs.size = some (.lst (as.map V.ref)) ∧ Paired (fun (t : Addr) (q : V × V) => H' t = some (.tup [q.1, q.2])) as ps ∧ Inv X pins σ H' { s with heap := h', toks := tk } := by
  have hSn : s.heap.objs.size ∉ as := fun z => Nat.lt_irrefl _ (hG.above _ z)
  have nd : as.Nodup := List.Pairwise.imp (fun {a b} (h : a < b) => Nat.ne_of_lt h) hG.rise
  have new : ∀ t ∈ as, H t = none := fun t ht => I.hok.fresh (Nat.le_of_lt (hG.above t ht))
  have newS : H s.heap.objs.size = none := I.hok.fresh (Nat.le_refl _)
  have atP := putP_at as ps (upd H s.heap.objs.size (.lst (as.map V.ref))) (by omega) nd
  have off : ∀ b, b ∉ as → b ≠ s.heap.objs.size → putP (upd H s.heap.objs.size (.lst (as.map V.ref))) as ps b = H b := fun b h1 h2 => by rw [putP_off as ps _ h1, upd_ne h2]
  have low : ∀ b o, s.heap.get? b = some o → b ∉ as ∧ b ≠ s.heap.objs.size := fun b o e => ⟨fun z => absurd (Heap.lt_size e) (Nat.not_lt.mpr (Nat.le_of_lt (hG.above b z))), Nat.ne_of_lt (Heap.lt_size e)⟩
  have kp : ∀ b u, H b = some u → (putP (upd H s.heap.objs.size (.lst (as.map V.ref))) as ps) b = some u := fun b u e => by
    rw [off b (fun z => by rw [new b z] at e; cases e) (fun z => by rw [z, newS] at e; cases e)]
    exact e
  have eS : putP (upd H s.heap.objs.size (.lst (as.map V.ref))) as ps s.heap.objs.size = some (.lst (as.map V.ref)) := by rw [putP_off as ps _ hSn, upd_same]
  refine ⟨putP (upd H s.heap.objs.size (.lst (as.map V.ref))) as ps, kp, newS, eS, atP, ?_⟩
  refine I.call' (ch := []) rfl ⟨fun b o q _ _ _ => hk b o q, fun b o q _ _ _ => ⟨o.slots, hk b o q⟩, fun b o q n _ => ?_, fun b o q _ => ⟨o, hk b o q⟩, fun b xs q => kp b _ q, fun b o u q => kp b _ q, fun b ps q => ⟨#[], by rw [kp b _ q]; simp⟩⟩ (fun b u q => ?_) I.bare fun b z => by simp at z
  · obtain ⟨z1, z2⟩ := low b o q
    rw [off b z1 z2]
    exact n
  · by_cases hb : b ∈ as
    · obtain ⟨j, pk, e1, e2, e3⟩ := LiI.paired_ix atP hb
      rw [e3] at q
      cases q
      obtain ⟨hj, f3⟩ := hG.pairs j b e1
      obtain ⟨g2, g3⟩ := rel j pk e2 hj
      exact ⟨by show 2 ≤ sizeLine; decide, [es[j].key, es[j].val], .cons g2 (.cons g3 .nil), ⟨_, f3, rfl, _, rfl⟩⟩
    · by_cases hb2 : b = s.heap.objs.size
      · rw [hb2] at q ⊢
        rw [eS] at q
        cases q
        refine ⟨by rw [List.length_map]; omega, acc.toList, c, by rw [hacc]; exact LiI.vals_refs as, ?_⟩
        rw [Array.toArray_toList]
        exact hS
      · rw [off b hb hb2] at q
        exact (I.hok b u q).stay (fun d v _ y => hk d v y) (fun d y => kp d _ y) fun d xs y => kp d _ y
def tItemsT (te : TE) : TE := fun σ H Q => te σ H fun x H1 => ∃ (d : Addr) (kvs : List (List Key × V)), x = .ref d ∧ H1 d = some (.dT kvs) ∧
  ∀ (H' : Hp) (p : Addr) (ts bs : List Addr), (∀ b o, H1 b = some o → H' b = some o) → H1 p = none → H' p = some (.lst (ts.map V.ref)) → Paired (fun (b : Addr) (q : List Key × V) => H1 b = some (.tup (q.1.map kV))) bs kvs →
    Paired (fun (t : Addr) (q : Addr × (List Key × V)) => H' t = some (.tup [.ref q.1, q.2.2])) ts (bs.zip kvs) → Q (.ref p) H'
theorem pe_itemsT {e : Expr} {te : TE} {p apos cpos pos : Pos} (hc : X.calm = true) (he : PE X e te) (hg : Gl X "list") (hm : X.mg "list" = none) (hv : bootBuiltins "list" = some (.type "list")) (hbase : attributeBase e "items" X.env (eval e X.env) = eval e X.env := by rfl) (hline : (apos.endLine == cpos.line) = true := by rfl)
    (hs : starEach [.Call (.Attribute e "items" apos) [] [] cpos] X.env = (false, eval (.Call (.Attribute e "items" apos) [] [] cpos) X.env) :: starEach [] X.env := by rfl) :
    PE X (.Call (.Name "list" p) [.Call (.Attribute e "items" apos) [] [] cpos] [] pos) (tItemsT te) := by
  refine ⟨fun pins s σ H Q I hq => ?_⟩
  refine wpAny_Call_Name_kw (ld_blt I hg hm hv ?_)
  refine PyProof.Rows.callWith_type1 ?_ hs rfl
  rw [hs]
  show wpAny _ _ (spliced ((false, eval (.Call (.Attribute e "items" apos) [] [] cpos) X.env) :: backTo pos (starEach [] X.env))) _ _ s
  refine Calls.spliced_cons ?_
  refine wpAny_Call_method (T := "dict") (id := "dict.items") hbase rfl hline PySem.F.plainAttrs_dict PySem.F.slot_dict_items PySem.F.type_dict_items (thn (he.run pins s σ H _ I hq) fun u s1 ⟨x, H1, I1, rx, d, kvs, ex, hd, q⟩ => ?_)
  subst ex
  obtain rfl : u = Value.ref d := rx
  obtain ⟨z, hs0, xs, rel, o, es, ep, ho, hx, hdt, he2, hnd⟩ := (show ObjOk X.prog X.w H1 s1.heap d (.dT kvs) from I1.hok d _ hd)
  have raw : s1.heap.DictRaw d es ep := ⟨o, ho, hx, hdt⟩
  have I2 : Inv X pins σ H1 { s1 with heap := s1.heap.push { cls := .type "dict_items", data := .fields #[.ref d] } } := I1.kept (t' := s1.toks) fun b ob q => Heap.get?_push_of_some _ q
  refine ⟨raw.typeIs, fun b q => by cases q; exact ⟨o, ho, hx.2.1⟩, ?_⟩
  show wpAny _ _ (callWith cpos (.builtin "dict.items") [.ref d] [] []) _ X.xe s1
  refine method_meetsIn PySem.F.slot_dict_items PySem.F.entry_dict_items rfl (PySem.evalArgs_none ⟨rfl, raw.typeIs, PySem.F.args_dict_items_1 _, _, DT.meetsItems (es := es) (ep := ep) hs0, ⟨o, ho, hx, hdt⟩, ?_⟩)
  refine Calls.spliced_nil ?_
  have l1 : es.size = xs.length := size_of_entries he2
  have l2 : kvs.length = xs.length := Paired.length rel
  refine PySem.W.dil_call (es := es) (ep := ep) (d := d) (I1.ok.hd hc) ⟨_, Heap.get?_push_size _ rfl, rfl, rfl⟩ (raw.at fun oo e => Heap.get?_push_of_some _ e) (by omega) fun h' tk acc c as hk hS hl hG hacc => ?_
  have lz : (xs.map fun y => y.2.1).length = kvs.length := by rw [List.length_map]; omega
  have lps : (((xs.map fun y => y.2.1).zip kvs).map fun y => (V.ref y.1, y.2.2)).length = kvs.length := by rw [List.length_map, List.length_zip]; omega
  obtain ⟨H', k1, k2, k3, k4, J⟩ := items_laidV (tk := tk) (ps := ((xs.map fun y => y.2.1).zip kvs).map fun y => (V.ref y.1, y.2.2)) I2 (by omega) (fun j pp e hj => by
    rw [List.getElem?_map, Option.map_eq_some_iff] at e
    obtain ⟨y, e1, rfl⟩ := e
    rw [List.getElem?_zip_eq_some] at e1
    obtain ⟨e2, e3⟩ := e1
    rw [List.getElem?_map, Option.map_eq_some_iff] at e2
    obtain ⟨w, e4, e5⟩ := e2
    obtain ⟨w2, f1, f2, f3, f4⟩ := LiI.paired_get rel e3
    rw [e4] at f1
    cases f1
    have qe := entry_at he2 j
    rw [e4, Array.getElem?_eq_getElem hj] at qe
    have e6 := Option.some.inj qe
    rw [e6]
    refine ⟨?_, f4⟩
    show Value.ref w.2.1 = Value.ref y.1
    rw [e5]) (by omega) hk hS hl hG hacc
  refine ⟨.ref _, H', J, rfl, q H' _ as (xs.map fun y => y.2.1) k1 k2 k3 ?_ ?_⟩
  · have : ∀ {kvs : List (List Key × V)} {xs : List (List Key × Addr × Value)}, KT H1 kvs xs → Paired (fun (b : Addr) (q : List Key × V) => H1 b = some (.tup (q.1.map kV))) (xs.map fun y => y.2.1) kvs := by
      intro kvs xs r
      induction r with
      | nil => exact Paired.nil
      | cons h t ih => exact Paired.cons h.2.1 ih
    exact this rel
  · have : ∀ {as : List Addr} {zs : List (Addr × (List Key × V))}, Paired (fun (t : Addr) (q : V × V) => H' t = some (.tup [q.1, q.2])) as (zs.map fun y => (V.ref y.1, y.2.2)) → Paired (fun (t : Addr) (q : Addr × (List Key × V)) => H' t = some (.tup [.ref q.1, q.2.2])) as zs := by
      intro as zs
      induction zs generalizing as with
      | nil =>
        intro r
        cases r
        exact Paired.nil
      | cons z zs ih =>
        intro r
        cases r with
        | cons h t => exact Paired.cons h (ih t)
    exact this k4
theorem jc_dictPTM (hc : X.calm = true) (hu : X.A.units + 2 < cLine) : CallR X (.type "dict") (MA W fDictPTM) := by
  intro pins s σ H xs us Q I rx ⟨ι, st, ds, d, st', r, h, e, k⟩
  unfold fDictPTM at e
  split at e
  · obtain ⟨v, rfl, hv⟩ := reps1 h
    split at e
    · rename_i ys q
      split at e
      · rename_i ks ws e2
        cases e
        obtain ⟨a, vs, rfl, ha, hvs⟩ := seqL_ok r hv q
        obtain ⟨qs, rfl, rfl, f3, f4⟩ := triples hvs e2
        obtain ⟨xs2, g1, g2, g3⟩ := kt_of I f4
        obtain ⟨z, its, n, rvs, hl⟩ := I.lstM ha
        obtain ⟨u, eu, ru⟩ := vals1 rx
        subst eu
        cases ru
        rw [List.length_map] at z
        have ei : its = (qs.map (·.1)).map Value.ref := by
          have rvs' : Vals ((qs.map (·.1)).map V.ref) its := by rw [List.map_map]; exact rvs
          exact refs_at rvs'
        have hlen : its.length = qs.length := by rw [ei]; simp
        have kin := KT.all I.hok g1
        let ps : List (Value × Value) := xs2.map fun x => (Value.ref x.2.1, x.2.2)
        let Ts : Nat → Addr := fun j => (qs.map (·.1)).getD j 0
        have hps : ps.length = qs.length := by simp [ps, g2]
        refine PySem.call_dict_pairsH (knd := tupleKind (mixKind X.prog X.w)) (ps := xs2) (PairArg.list a its.toArray Ts ps) (I.ok.hd hc) (show X.A.units + 2 < cLine from hu) ⟨⟨_, n, hl.2, rfl, rfl, rfl⟩, by simp only [List.size_toArray]; omega, fun j key vv e => ?_⟩ ⟨by rw [hps, g2], fun i key vv e => ?_⟩ (fun h' hk x hx => ?_) (by rw [hps]; exact z) fun h' tk hd' hk => ?_
        · have hj : j < qs.length := by rw [← hps]; exact (List.getElem?_eq_some_iff.mp e).1
          obtain ⟨u, f5, f6⟩ := g3 j _ (List.getElem?_eq_getElem hj)
          have e' : (ps[j]?) = some (Value.ref qs[j].2.2.1, u) := by
            show (xs2.map _)[j]? = _
            rw [List.getElem?_map, f5]; rfl
          rw [e'] at e
          cases e
          have hT : Ts j = qs[j].1 := by
            show (qs.map (·.1)).getD j 0 = _
            rw [List.getD_eq_getElem?_getD, List.getElem?_map, List.getElem?_eq_getElem hj]; rfl
          rw [hT]
          refine ⟨?_, .inl f6⟩
          rw [List.getElem?_toArray, ei, List.getElem?_map, List.getElem?_map, List.getElem?_eq_getElem hj]; rfl
        · have e' : (xs2.map fun x => (Value.ref x.2.1, x.2.2))[i]? = some (key, vv) := e
          rw [List.getElem?_map, Option.map_eq_some_iff] at e'
          obtain ⟨x, f5, f6⟩ := e'
          cases f6
          exact ⟨x.1, x.2.1, f5, rfl⟩
        · obtain ⟨o, items, m, w1, w2⟩ := (kin x hx).1
          exact ⟨o, items, m, hk _ _ (Nat.ne_of_lt (Heap.lt_size w1)) (by simp) w1, w2⟩
        · have hp : H s.heap.objs.size = none := I.hok.fresh (Nat.le_refl _)
          have km := KT.mrg g1 (.nil : KT H [] [])
          obtain ⟨us', m1, m2, m3⟩ := mrg_ok (κ := List Key) (ks2 := qs.map fun q => q.2.1) (ks := []) (ds := []) (us := []) (W := W) (ι := ι) (H := H) Reps.nil rfl f3 (by rw [f3.length]; simp)
          have ez : (qs.map fun q => q.2.1).zip (qs.map fun q => q.2.2.2) = qs.map fun q => (q.2.1, q.2.2.2) := by rw [List.zip_map']
          rw [ez] at m1
          have m1' : mrgZ [] (qs.map fun q => (q.2.1, q.2.2.2)) = (mrgK [] [] (qs.map fun q => q.2.1) ws).zip us' := m1
          rw [m1'] at km
          have hle : ((mrgK [] [] (qs.map fun q => q.2.1) ws).zip us').length ≤ sizeLine := by
            rw [← m1']
            have := mrgZ_len (qs.map fun q => (q.2.1, q.2.2.2)) []
            rw [List.length_map, List.length_nil] at this
            omega
          obtain ⟨o', es, ep, d1, d2, d3, d4, _, d5⟩ := hd'
          refine ⟨.ref s.heap.objs.size, upd H s.heap.objs.size (.dT ((mrgK [] [] (qs.map fun q => q.2.1) ws).zip us')), I.laid (t' := tk) (fun b o z => hk b o (by simp) z) (Nat.le_refl _)
            ⟨hle, beq_eq_false_iff_ne.mpr (Nat.ne_of_gt I.big), _, km.keeps (fun b ys z => kp_new hp z), o', es, ep, d1, d2, d3, d4, d5⟩, rfl, k.cellM r hp ⟨us', upd_same, m2, Reps.grow (Grow.cell hp) _ _ m3⟩⟩
      · cases e
    · cases e
  · cases e

theorem rep_keyD {ι : Lay} {H : Hp} : ∀ ks : List Key, Reps W ι H (ks.map kD) (ks.map kV)
  | [] => Reps.nil
  | .inl i :: ks => Reps.cons int_rep (rep_keyD ks)
  | .inr x :: ks => Reps.cons str_rep (rep_keyD ks)
theorem rep_keys {ι : Lay} {H : Hp} : ∀ {ks : List (List Key)} {us : List V} {bs : List Addr}, ks.length = us.length → IsKeys H (ks.zip us) bs → Reps W ι H (ks.map fun k => .tup (k.map kD)) (bs.map V.ref)
  | [], us, bs, _, h => by
    cases h
    exact Reps.nil
  | k :: ks, [], bs, hl, h => by simp at hl
  | k :: ks, u :: us, bs, hl, h => by
    unfold IsKeys at h
    rw [List.zip_cons_cons] at h
    cases h with
    | cons e t =>
      refine Reps.cons ?_ (rep_keys (by simpa using hl) t)
      simp only [Rep]
      exact ⟨_, rfl, _, e, rep_keyD k⟩
theorem jc_keysTM (hc : X.calm = true) : CallR X (.type "list") (MA W fKeysTM) := by
  intro pins s σ H xs us Q I rx ⟨ι, st, ds, d, st', r, h, e, k⟩
  unfold fKeysTM at e
  split at e
  · obtain ⟨v, rfl, hv⟩ := reps1 h
    split at e
    · rename_i ks vs q
      cases e
      obtain ⟨a, ws, rfl, h1, h2, h3⟩ := dicT_ok r hv q
      refine call_list_dT hc pins s σ H _ us Q I rx ⟨a, _, rfl, .inl h1, fun p bs hp hk => ?_⟩
      exact k.cellM r hp ⟨_, upd_same, Reps.grow (Grow.cell hp) _ _ (rep_keys (by rw [h2, h3.length]) hk)⟩
    · cases e
  · cases e
theorem rep_items {ι : Lay} {H H' : Hp} (s : Same H H') : ∀ {ks : List (List Key)} {vs : List D} {us : List V} {bs ts : List Addr}, ks.length = vs.length → Reps W ι H' vs us → Paired (fun (b : Addr) (q : List Key × V) => H b = some (.tup (q.1.map kV))) bs (ks.zip us) →
    Paired (fun (t : Addr) (q : Addr × (List Key × V)) => H' t = some (.tup [.ref q.1, q.2.2])) ts (bs.zip (ks.zip us)) → Reps W ι H' ((ks.zip vs).map fun p => .tup [.tup (p.1.map kD), p.2]) (ts.map V.ref)
  | [], vs, us, bs, ts, _, _, h, h2 => by
    cases h
    cases h2
    exact Reps.nil
  | k :: ks, [], us, bs, ts, hl, _, _, _ => by simp at hl
  | k :: ks, v :: vs, us, bs, ts, hl, hr, h, h2 => by
    obtain ⟨u, us, rfl, h3, h4⟩ := hr.uncons
    rw [List.zip_cons_cons] at h h2
    cases h with
    | cons e t =>
      rw [List.zip_cons_cons] at h2
      cases h2 with
      | cons e2 t2 =>
        refine Reps.cons ?_ (rep_items s (by simpa using hl) h4 t t2)
        simp only [Rep]
        refine ⟨_, rfl, _, e2, Reps.cons ?_ (Reps.cons h3 Reps.nil)⟩
        simp only [Rep]
        exact ⟨_, rfl, _, s _ _ e, rep_keyD k⟩
theorem j_itemsT {e : Expr} {m : EM} {p apos cpos pos : Pos} (hc : X.calm = true) (hg : Gl X "list") (hm : X.mg "list" = none) (hv : bootBuiltins "list" = some (.type "list")) (he : PE X e (T W m)) (hbase : attributeBase e "items" X.env (eval e X.env) = eval e X.env := by rfl) (hline : (apos.endLine == cpos.line) = true := by rfl)
    (hs : starEach [.Call (.Attribute e "items" apos) [] [] cpos] X.env = (false, eval (.Call (.Attribute e "items" apos) [] [] cpos) X.env) :: starEach [] X.env := by rfl) :
    PE X (.Call (.Name "list" p) [.Call (.Attribute e "items" apos) [] [] cpos] [] pos) (T W (eItemsT m)) := (pe_itemsT hc he hg hm hv hbase hline hs).imp fun σ H Q ⟨ι, st, env, d, st', r, n, e, k⟩ => by
  unfold eItemsT at e
  split at e
  · rename_i x s1 e1
    split at e
    · rename_i ks vs q
      cases e
      refine T.of r n e1 fun v ι1 H1 g1 r1 p1 => ?_
      obtain ⟨a, us, rfl, ha, hl, rep⟩ := dicT_ok r1 p1 q
      refine ⟨a, _, rfl, ha, fun H' p ts bs s' hp hp' hb ht => ?_⟩
      have sm : Same H1 H' := s'
      have g2 : Grow ι1 H1 ι1 H' := Grow.same sm
      refine k _ ι1 H' (g1.trans g2) (r1.same sm) ?_
      simp only [Rep]
      exact ⟨p, rfl, r1.free hp, _, hp', rep_items sm hl (Reps.grow g2 _ _ rep) hb ht⟩
    · cases e
  · cases e
end
section
variable {env : Env} {st : Store} {Q : D → Store → Prop}
theorem ev_itemsT {m : EM} : EvE (eItemsT m) env st Q ↔ EvE m env st fun x s1 => ∃ ks vs, dicT s1 x = some (ks, vs) ∧ Q (.lst ((ks.zip vs).map fun p => .tup [.tup (p.1.map kD), p.2])) s1 := by
  unfold EvE eItemsT
  constructor
  · rintro ⟨d, s, e, q⟩
    split at e
    · rename_i x s1 e1
      split at e
      · rename_i ks vs q1
        cases e
        exact ⟨_, _, e1, ks, vs, q1, q⟩
      · cases e
    · cases e
  · rintro ⟨x, s1, e1, ks, vs, q1, q⟩
    exact ⟨_, _, by rw [e1]; simp only [q1], q⟩
end
end My

namespace My
open PySem PySem.Spec PyProof.Rows L2
local macro_rules | `(tactic| walk_at "ev") => `(tactic| try simp only [ev_var, ev_c, ev_un, ev_op, ev_nil, ev_cons, ev_call, ev_callD, ev_callN, ev_tup, ev_lst, ev_lstM, ev_dkM, ev_dtM, ev_bE, ev_bAnd, ev_bOr, ev_bNot, ev_bYes, ev_eAnd, ev_eOr, ev_eNot, ev_if, ev_chain, ev_oNone, ev_oSome, ev_sl, ev_bm, ev_skip, ev_brk, ev_cnt, ev_seq, then_nx, then_rt, then_bk, then_ct, ev_set, ev_asg, ev_par, ev_par3, ev_ret, ev_drop, ev_sIf, ev_aug, ev_sub, ev_seqI, ev_range1, ev_range2, ev_for, ev_lc, enter, gNm, gsNil, gsCons, gTp, wipeE,
  List.map_cons, List.map_nil, List.length_cons, List.length_nil, List.replicate, List.cons_append, List.nil_append, List.append_nil, List.getElem?_cons_zero, List.getElem?_cons_succ, List.set_cons_zero, List.set_cons_succ, Option.some.injEq, exists_eq_left', exists_eq_left, D.bl.injEq, D.int.injEq, D.str.injEq, D.tup.injEq, D.lst.injEq, D.ref.injEq, decide_eq_true_eq, List.cons.injEq, and_true, true_and, if_true, if_false, reduceCtorEq, Bool.false_eq_true, ite_true, ite_false, Nat.sub_self, Nat.reduceAdd, Nat.reduceSub, Nat.zero_add, exists_and_left, exists_const, Bool.not_true, Bool.not_false, Bool.not_eq_true', exists_eq_right, and_assoc, List.length_set, exists_eq_right',
  add_int, addI_int, sub_int, neg_int, lt_int, le_int, gt_int, ge_int, eq_int, ne_int, eq_str, ne_str, eq_bl, ne_bl, eq_is, eq_si, ne_is, ne_si, is_nn, ix_tup, ix_lst, ix_scr, at_0, at_1, at_2, at_3, len_tup, len_lst, len_scr, outF, outK, ev_len_tup, ev_len_lst, ev_len_scr, ev_abs, ev_int, ev_intb, ev_max2, ev_min2, ev_tuple_lst, ev_tuple_tup, ev_list_lst, ev_list_tup])
/- _law_take: 0:_law_box_here, 1:_law_many, 2:_law_digit, 3:_law_mixed -/
noncomputable def mb_Ltake : SM :=
(sSeq (sIf (bE (eOp dGt (eOp dIx (eVar 0) (eC (.int 0))) (eC (.int 0))))
(sSeq (sSet 2 (eOp dMod (eOp dIx (eVar 0) (eC (.int 0))) (eVar 1)))
(sSeq (sSub dPut (eVar 0) (eC (.int 0)) (eOp dFdiv (eOp dIx (eVar 0) (eC (.int 0))) (eVar 1)))
(sRet (eVar 2))))
sSkip)
(sSeq (sSub dPut (eVar 0) (eC (.int 2)) (eOp dAdd (eOp dIx (eVar 0) (eC (.int 2))) (eC (.int 1))))
(sSeq (sSet 3 (eOp dMod (eOp dMul (eOp dAdd (eOp dAdd (eOp dIx (eVar 0) (eC (.int 1))) (eOp dMul (eOp dMul (eC (.int 65557)) (eOp dIx (eVar 0) (eC (.int 2)))) (eOp dIx (eVar 0) (eC (.int 2))))) (eC (.int 19))) (eC (.int 48311))) (eC (.int 2305843009213693921))))
(sSeq (sSet 3 (eOp dMod (eOp dMul (eVar 3) (eOp dAdd (eOp dMod (eVar 3) (eC (.int 1000037))) (eOp dMul (eC (.int 99989)) (eOp dIx (eVar 0) (eC (.int 2)))))) (eC (.int 2305843009213693907))))
(sRet (eOp dMod (eOp dAdd (eOp dFdiv (eVar 3) (eC (.int 103))) (eOp dFdiv (eVar 3) (eC (.int 1000003)))) (eVar 1)))))))
noncomputable def mf_Ltake : FM := mkF 4 mb_Ltake

/- _law_box: 0:_law_script, 1:_law_k, 2:_law_cell, 3:_law_own -/
noncomputable def mb_Lbox : SM :=
(sSeq (sSet 2 (eIf (bE (eOp dLt (eVar 1) (eCall fLen (aCons (eVar 0) aNil)))) (eOp dIx (eVar 0) (eVar 1)) (eOp dAdd (eOp dMul (eC (.int 29)) (eVar 1)) (eC (.int 6)))))
(sSeq (sSet 3 (eOp dMul (eOp dMod (eCall fAbs (aCons (eVar 2) aNil)) (eOp dPow (eOp dPow (eC (.int 10)) (eC (.int 60))) (eC (.int 5)))) (eCall fInt (aCons (eOp dGe (eCall fAbs (aCons (eVar 2) aNil)) (eOp dPow (eC (.int 10)) (eC (.int 18)))) aNil))))
(sRet (eLstM (aCons (eVar 3) (aCons (eOp dMod (eOp dAdd (eOp dAdd (eOp dMul (eOp dMod (eVar 2) (eC (.int 2305843009213693951))) (eC (.int 70003))) (eOp dMul (eOp dMul (eC (.int 6011)) (eVar 1)) (eVar 1))) (eC (.int 61))) (eC (.int 2305843009213693921))) (aCons (eC (.int 0)) aNil)))))))
noncomputable def mf_Lbox : FM := mkK 4 mb_Lbox

/- _law_of: 0:_law_box_here, 1:_law_some -/
noncomputable def mb_Lof : SM :=
(sRet (eOp dIx (eVar 1) (eCallD 2 mf_Ltake [] (aCons (eVar 0) (aCons (eCall fLen (aCons (eVar 1) aNil)) aNil)))))
noncomputable def mf_Lof : FM := mkF 2 mb_Lof

/- _law_book: 0:_law_box_here, 1:_law_top, 2:_law_size, 3:_law_found, 4:_law_turn, 5:_law_some -/
noncomputable def mb_Lbook : SM :=
(sSeq (sPar 2 3 (aCons (eOp dAdd (eC (.int 1)) (eCallD 2 mf_Ltake [] (aCons (eVar 0) (aCons (eVar 1) aNil)))) (aCons eDkM aNil)))
(sSeq (sFor (iRange1 (eOp dAdd (eC (.int 1)) (eCallD 2 mf_Ltake [] (aCons (eVar 0) (aCons (eC (.int 6)) aNil))))) (gNm 4)
(sSeq (sSet 5 (eLst (aCons (eOp dAdd (eC (.int 1)) (eCallD 2 mf_Ltake [] (aCons (eVar 0) (aCons (eVar 2) aNil)))) (aCons (eOp dAdd (eOp dFdiv (eVar 2) (eC (.int 2))) (eC (.int 1))) (aCons (eC (.int 1)) (aCons (eVar 2) (aCons (eCall fMax (aCons (eC (.int 1)) (aCons (eOp dFdiv (eVar 2) (eC (.int 2))) aNil))) (aCons (eCall fMax (aCons (eC (.int 1)) (aCons (eOp dFdiv (eVar 2) (eC (.int 3))) aNil))) aNil))))))))
(sSub dPut (eVar 3) (eCallD 2 mf_Lof [] (aCons (eVar 0) (aCons (eOp dAdd (eOp dMul (eSl (eVar 5) oNone (oSome (eC (.int 1)))) (eC (.int 3))) (eVar 5)) aNil))) (eC (.bl true)))))
(sRet (eTup (aCons (eVar 2) (aCons (eCall fTuple (aCons (eCall fSorted (aCons (eVar 3) aNil)) aNil)) aNil))))))
noncomputable def mf_Lbook : FM := mkF 6 mb_Lbook

/-- the box: the digits left, the mixed number, how many were mixed -/
def BoxC (n : Nat) (c : D) : Prop := ∃ o m k : Int, c = .lst [.int o, .int m, .int k] ∧ 0 ≤ o ∧ 0 ≤ m ∧ m < 2 ^ 62 ∧ 0 ≤ k ∧ k ≤ n
theorem BoxC.mono {n m : Nat} {c : D} (h : BoxC n c) (l : n ≤ m) : BoxC m c := by
  obtain ⟨o, a, k, h1, h2, h3, h4, h5, h6⟩ := h
  exact ⟨o, a, k, h1, h2, h3, h4, h5, by omega⟩
theorem BoxC.blw {n : Nat} {c : D} (h : BoxC n c) : c.blw 0 = true := by
  obtain ⟨o, a, k, rfl, _⟩ := h
  exact blw_lst (blws_cons blw_int (blws_cons blw_int (blws_cons blw_int blws_nil)))
theorem fin_set {st : Store} {b : Nat} {c r : D} {Q : D → Store → Prop} (h : r.blw 0 = true) (hc : c.blw 0 = true) (q : Q r (st.set b c)) : EvF (fun _ s => fin st r s) [] (st.set b c) Q :=
  fin_tree h (by have := closeOk_set st [] b c hc; rwa [List.append_nil] at this) (by rw [cut_b0]; exact q)
/-- a draw: a number below many, and the box is another -/
theorem ev_take {st : Store} {b n : Nat} {c : D} {many : Int} {Q : D → Store → Prop} (hb : st[b]? = some c) (hc : BoxC n c) (hn : n < 2 ^ 40) (h1 : 0 < many) (h2 : many < 2 ^ 64)
    (k : ∀ r c', 0 ≤ r → r < many → BoxC (n + 1) c' → Q (.int r) (st.set b c')) : EvF mf_Ltake [.ref b, .int many] st Q := by
  obtain ⟨o, m, u, rfl, ho, hm0, hm1, hu0, hu1⟩ := hc
  have hlt : b < st.length := (List.getElem?_eq_some_iff.mp hb).1
  have hb2 : ∀ l, (st.set b l)[b]? = some l := fun l => cell_b0 hlt
  rw [mf_Ltake, ev_mkF]
  unfold mb_Ltake
  walk_at "ev"
  simp only [ix_cell hb, at_0, gt_int, Option.some.injEq, D.bl.injEq, exists_eq_left', decide_eq_true_eq]
  split
  · have d1 : CDivW o many := cdiv 64 h1 (by omega)
    try walk_at "ev"
    simp only [ix_cell hb, at_0, mod_int h1, fdiv_int d1, put_cell (i := 0) hb (by decide) (by show (0 : Int) < 3; decide), Option.some.injEq, exists_eq_left']
    exact fin_set blw_int (blw_lst (blws_cons blw_int (blws_cons blw_int (blws_cons blw_int blws_nil)))) (k _ _ (Int.emod_nonneg _ (by omega)) (Int.emod_lt_of_pos _ h1) ⟨o / many, m, u, rfl, Int.ediv_nonneg ho (by omega), hm0, hm1, hu0, by omega⟩)
  · walk_at "ev"
    simp only [ix_cell hb, at_2, add_int, put_cell (i := 2) hb (by decide) (by show (2 : Int) < 3; decide), Option.some.injEq, exists_eq_left']
    have e2 : (List.set [D.int o, D.int m, D.int u] (2 : Int).toNat (D.int (u + 1))) = [.int o, .int m, .int (u + 1)] := rfl
    rw [e2]
    try walk_at "ev"
    have q1 : CMulW 65557 (u + 1) := cmul 20 64 (by decide) (by omega)
    have q2 : CMulW (65557 * (u + 1)) (u + 1) := cmul 64 64 (by omega) (by omega)
    have b1 : (u + 1) * (u + 1) ≤ 2 ^ 41 * 2 ^ 41 := Int.mul_le_mul (by omega) (by omega) (by omega) (by omega)
    have b0 : 0 ≤ (u + 1) * (u + 1) := Int.mul_nonneg (by omega) (by omega)
    have e3 : 65557 * (u + 1) * (u + 1) = 65557 * ((u + 1) * (u + 1)) := Int.mul_assoc ..
    have q3 : CMulW (m + 65557 * (u + 1) * (u + 1) + 19) 48311 := cmul 200 20 (by rw [e3]; omega) (by decide)
    simp only [ix_cell (hb2 _), at_1, at_2, add_int, mul_int q1, mul_int q2, mul_int q3, mod_int (show (0 : Int) < 2305843009213693921 by decide), Option.some.injEq, exists_eq_left']
    generalize (m + 65557 * (u + 1) * (u + 1) + 19) * 48311 = z
    have z0 : 0 ≤ z % 2305843009213693921 := Int.emod_nonneg _ (by decide)
    have z1 : z % 2305843009213693921 < 2305843009213693921 := Int.emod_lt_of_pos _ (by decide)
    try walk_at "ev"
    have q4 : CMulW 99989 (u + 1) := cmul 20 64 (by decide) (by omega)
    have q5 : CMulW (z % 2305843009213693921) (z % 2305843009213693921 % 1000037 + 99989 * (u + 1)) := cmul 64 100 (by omega) (by omega)
    simp only [ix_cell (hb2 _), at_1, at_2, add_int, mod_int (show (0 : Int) < 1000037 by decide), mul_int q4, mul_int q5, mod_int (show (0 : Int) < 2305843009213693907 by decide), Option.some.injEq, exists_eq_left']
    generalize z % 2305843009213693921 * (z % 2305843009213693921 % 1000037 + 99989 * (u + 1)) % 2305843009213693907 = y
    try walk_at "ev"
    simp only [fdiv_int (cdiv (j := 103) 64 (by decide) (by decide)), fdiv_int (cdiv (j := 1000003) 64 (by decide) (by decide)), add_int, mod_int h1, Option.some.injEq, exists_eq_left']
    exact fin_set blw_int (blw_lst (blws_cons blw_int (blws_cons blw_int (blws_cons blw_int blws_nil)))) (k _ _ (Int.emod_nonneg _ (by omega)) (Int.emod_lt_of_pos _ h1) ⟨o, m, u + 1, rfl, ho, hm0, hm1, by omega, by omega⟩)
/-- one of some values -/
theorem ev_of {st : Store} {b n : Nat} {c d : D} {xs : List D} {Q : D → Store → Prop} (hb : st[b]? = some c) (hc : BoxC n c) (hn : n < 2 ^ 40) (hd : d = .lst xs ∨ d = .tup xs) (hx : D.blws 0 xs = true) (hne : xs ≠ []) (hl : xs.length < 2 ^ 60)
    (k : ∀ v c', v ∈ xs → BoxC (n + 1) c' → Q v (st.set b c')) : EvF mf_Lof [.ref b, d] st Q := by
  have hpos : 0 < xs.length := List.length_pos_iff.mpr hne
  rw [mf_Lof, ev_mkF]
  unfold mb_Lof
  rcases hd with rfl | rfl
  all_goals
    walk_at "ev"
    refine ev_take hb hc hn (by omega) (by omega) fun r c' h0 h1 hc' => ?_
    obtain ⟨v, hv, hm⟩ := atI_in h0 h1
    exact ⟨v, hv, fin_set (blws_mem hx v hm) hc'.blw (k v c' hm hc')⟩
/-- the box of a cell of the script -/
theorem ev_box {st : Store} {ns : List Int} {j : Int} {Q : D → Store → Prop} (hl : ns.length ≤ 63) (h0 : 0 ≤ j) (h1 : j < 1000) (k : ∀ c, BoxC 0 c → Q (.ref st.length) (st ++ [c])) : EvF mf_Lbox [.scr ns, .int j] st Q := by
  rw [mf_Lbox, ev_mkK]
  unfold mb_Lbox
  have q1 : CMulW 29 j := cmul 20 20 (by decide) (by omega)
  have main : ∀ cell : Int, EvS (sSeq (sSet 3 (eOp dMul (eOp dMod (eCall fAbs (aCons (eVar 2) aNil)) (eOp dPow (eOp dPow (eC (.int 10)) (eC (.int 60))) (eC (.int 5)))) (eCall fInt (aCons (eOp dGe (eCall fAbs (aCons (eVar 2) aNil)) (eOp dPow (eC (.int 10)) (eC (.int 18)))) aNil))))
      (sRet (eLstM (aCons (eVar 3) (aCons (eOp dMod (eOp dAdd (eOp dAdd (eOp dMul (eOp dMod (eVar 2) (eC (.int 2305843009213693951))) (eC (.int 70003))) (eOp dMul (eOp dMul (eC (.int 6011)) (eVar 1)) (eVar 1))) (eC (.int 61))) (eC (.int 2305843009213693921))) (aCons (eC (.int 0)) aNil))))))
      [some (.scr ns), some (.int j), some (.int cell), none] st (outK Q) := by
    intro cell
    have w1 : CPowW 10 60 := ⟨by decide, by decide +kernel⟩
    have w2 : CPowW ((10 : Int) ^ (60 : Int).toNat) 5 := ⟨by decide, by decide +kernel⟩
    have w3 : CPowW 10 18 := ⟨by decide, by decide +kernel⟩
    have p1 : ∀ s : Store, dPow (.int 10) (.int 60) s = some (.int ((10 : Int) ^ (60 : Int).toNat)) := fun s => if_pos w1
    have p2 : ∀ s : Store, dPow (.int ((10 : Int) ^ (60 : Int).toNat)) (.int 5) s = some (.int (((10 : Int) ^ (60 : Int).toNat) ^ (5 : Int).toNat)) := fun s => if_pos w2
    have p3 : ∀ s : Store, dPow (.int 10) (.int 18) s = some (.int ((10 : Int) ^ (18 : Int).toNat)) := fun s => if_pos w3
    have B0 : (0 : Int) < ((10 : Int) ^ (60 : Int).toNat) ^ (5 : Int).toNat := by decide +kernel
    have B1 : (((10 : Int) ^ (60 : Int).toNat) ^ (5 : Int).toNat).natAbs < 2 ^ 2000 := by decide +kernel
    walk_at "ev"
    simp only [p1, p2, p3, Option.some.injEq, exists_eq_left']
    generalize ((10 : Int) ^ (60 : Int).toNat) ^ (5 : Int).toNat = B at B0 B1
    generalize (10 : Int) ^ (18 : Int).toNat = C
    generalize (if cell < 0 then -cell else cell) = a
    have a0 : 0 ≤ a % B := Int.emod_nonneg _ (by omega)
    have a1 : a % B < B := Int.emod_lt_of_pos _ B0
    simp only [mod_int B0]
    walk_at "ev"
    have e0 : 0 ≤ (if C ≤ a then (1 : Int) else 0) ∧ (if C ≤ a then (1 : Int) else 0) ≤ 1 := by split <;> decide
    generalize (if C ≤ a then (1 : Int) else 0) = t at e0
    have q2 : CMulW (a % B) t := cmul 2000 2 (by
      refine Nat.lt_of_le_of_lt ?_ B1
      omega) (by omega)
    simp only [mul_int q2]
    walk_at "ev"
    have q3 : CMulW (cell % 2305843009213693951) 70003 := cmul 64 20 (by
      have := Int.emod_nonneg cell (show (2305843009213693951 : Int) ≠ 0 by decide)
      have := Int.emod_lt_of_pos cell (show (0 : Int) < 2305843009213693951 by decide)
      omega) (by decide)
    have q4 : CMulW 6011 j := cmul 20 20 (by decide) (by omega)
    have q5 : CMulW (6011 * j) j := cmul 64 20 (by omega) (by omega)
    simp only [mod_int (show (0 : Int) < 2305843009213693951 by decide), mul_int q3, mul_int q4, mul_int q5, add_int, mod_int (show (0 : Int) < 2305843009213693921 by decide), Option.some.injEq, exists_eq_left']
    refine ⟨by decide, k _ ⟨_, _, _, rfl, ?_, ?_, ?_, by omega, by omega⟩⟩
    · exact Int.mul_nonneg a0 e0.1
    · exact Int.emod_nonneg _ (by decide)
    · exact Int.lt_trans (Int.emod_lt_of_pos _ (by decide)) (by decide)
  rw [ev_seq, ev_set]
  refine EvE.mono (Q := fun d s => s = st ∧ ∃ cell : Int, d = .int cell) ?_ fun d s ⟨e, cell, e2⟩ => ?_
  · walk_at "ev"
    split
    · rename_i h
      obtain ⟨v, hv, hm⟩ := atI_in (xs := ns.map D.int) h0 (by rw [List.length_map]; exact h)
      obtain ⟨cell, _, rfl⟩ := List.mem_map.mp hm
      exact ⟨_, hv, cell, rfl⟩
    · simp only [mul_int q1]
      walk_at "ev"
      exact ⟨_, rfl⟩
  · subst e e2
    exact main cell
/-! the rules that are drawn -/
theorem kHas_ints (ns : List Int) (x : Int) : kHas (ns.map (Sum.inl : Int → Key)) (Sum.inl x) = decide (x ∈ ns) := by
  unfold kHas
  rw [List.any_map, Bool.eq_iff_iff, List.any_eq_true, decide_eq_true_eq]
  constructor
  · rintro ⟨y, hy, e⟩
    have := of_decide_eq_true e
    cases this
    exact hy
  · exact fun h => ⟨x, h, decide_eq_true rfl⟩
theorem kPutK_ints (ns : List Int) (x : Int) : kPutK (ns.map (Sum.inl : Int → Key)) (Sum.inl x) = (insL ns x).map Sum.inl := by
  unfold kPutK insL
  rw [kHas_ints]
  by_cases h : x ∈ ns
  · rw [if_pos (decide_eq_true h), if_pos h]
  · rw [if_neg (by simpa using h), if_neg h, List.map_append]; rfl
theorem ev_book {st : Store} {b n : Nat} {c : D} {top : Int} {Q : D → Store → Prop} (hb : st[b]? = some c) (hc : BoxC n c) (hn : n + 40 < 2 ^ 40) (h1 : 1 ≤ top) (h2 : top ≤ 100)
    (k : ∀ S ls c', Rules S ls → S ≤ top → BoxC (n + 20) c' → Q (.tup [.int S, .tup (ls.map .int)]) (st.set b c')) : EvF mf_Lbook [.ref b, .int top] st Q := by
  have hlt : b < st.length := (List.getElem?_eq_some_iff.mp hb).1
  rw [mf_Lbook, ev_mkF]
  unfold mb_Lbook
  walk_at "ev"
  refine ev_take hb hc (by omega) (by omega) (by omega) fun r c1 r0 r1 B1 => ?_
  walk_at "ev"
  refine ev_take (c := c1) (by rw [cell_b hlt]) B1 (by omega) (by omega) (by omega) fun t c2 t0 t1 B2 => ?_
  rw [put_b hlt]
  walk_at "ev"
  refine ⟨by omega, by omega, ?_⟩
  refine for_inv (fun i env s => ∃ (c : D) (ns : List Int) (vs : List D) (x5 x4 : Option D), BoxC (n + 2 + 2 * i) c ∧ env = [some (.ref b), some (.int top), some (.int (1 + r)), some (.ref st.length), x4, x5] ∧ s = st.set b c ++ [.dk (ns.map Sum.inl) vs] ∧
    ns.Nodup ∧ ns.length ≤ i ∧ (0 < i → ns ≠ []) ∧ ∀ x ∈ ns, 1 ≤ x ∧ x ≤ 1 + r) ?_ (fun _ _ _ _ _ => trivial) ?_ ?_
  · exact ⟨c2, [], [], none, none, B2.mono (by omega), rfl, rfl, List.nodup_nil, Nat.le_refl _, fun z => absurd z (by omega), fun _ z => absurd z (by simp)⟩
  · rintro i hi env s ⟨c, ns, vs, x5, x4, B, rfl, rfl, kn, kl, kz, km⟩
    rw [intsTo_len] at hi
    have hi6 : i < 6 := by omega
    refine ⟨_, rfl, ?_⟩
    walk_at "ev"
    refine ev_take (cell_b hlt) B (by omega) (by omega) (by omega) fun z c3 z0 z1 B3 => ?_
    rw [put_b hlt]
    have d2 : CDivW (1 + r) 2 := cdiv 20 (by decide) (by decide)
    have d3 : CDivW (1 + r) 3 := cdiv 20 (by decide) (by decide)
    walk_at "ev"
    simp only [fdiv_int d2, fdiv_int d3]
    walk_at "ev"
    refine ⟨by decide, ?_⟩
    have sl : ∀ (a1 a2 a3 a4 a5 a6 : D) (s : Store), dSl (.lst [a1, a2, a3, a4, a5, a6]) none (some 1) s = some (.lst [a1]) := fun _ _ _ _ _ _ _ => rfl
    have ml : ∀ (a : D) (s : Store), dMul (.lst [a]) (.int 3) s = some (.lst [a, a, a]) := fun a s => mul_lst (by decide) (by decide) (by show 1 * 3 ≤ sizeLine; decide)
    have ct : ∀ (a b1 b2 b3 b4 b5 b6 : D) (s : Store), dAdd (.lst [a, a, a]) (.lst [b1, b2, b3, b4, b5, b6]) s = some (.lst [a, a, a, b1, b2, b3, b4, b5, b6]) := fun _ _ _ _ _ _ _ _ => cat_lst (by show 3 + 6 ≤ sizeLine; decide)
    simp only [sl]
    walk_at "ev"
    simp only [ml]
    walk_at "ev"
    simp only [ct]
    walk_at "ev"
    refine ev_of (cell_b hlt) B3 (by omega) (.inl rfl) ?_ (by simp) (by show 9 < 2 ^ 60; decide) fun v c4 hv B4 => ?_
    · simp only [D.blws, D.blw, Bool.and_true]
    rw [put_b hlt]
    have r3 : (1 + r) / 2 + 1 ≤ 1 + r ∨ 1 + r = 1 := by omega
    have hx : ∃ x : Int, v = .int x ∧ 1 ≤ x ∧ x ≤ 1 + r := by
      simp only [List.mem_cons, List.not_mem_nil, or_false] at hv
      rcases hv with h | h | h | h | h | h | h | h | h
      all_goals first
        | exact ⟨_, h, by omega, by omega⟩
        | (refine ⟨_, h, ?_, ?_⟩ <;> (split <;> omega))
    obtain ⟨x, rfl, x1, x2⟩ := hx
    refine ⟨_, put_dk cell_n rfl (by rw [List.length_map]; exact Nat.lt_of_le_of_lt (Nat.le_trans kl (Nat.le_of_lt hi6)) (by decide)), ?_⟩
    rw [put_n, kPutK_ints]
    exact ⟨c4, B4.mono (by omega), insL ns x, _, rfl, insL_nd kn, Nat.le_trans (insL_len _ _) (by omega), fun _ => insL_ne _ _, fun y hy => (insL_mem hy).elim (km y) (fun e => by omega)⟩
  · rintro env s ⟨c, ns, vs, x5, x4, B, rfl, rfl, kn, kl, kz, km⟩
    rw [intsTo_len] at kl B kz
    have l6 : ns.length ≤ 6 := by omega
    walk_at "ev"
    refine (ev_sorted_dk cell_n (by omega)).mpr ?_
    walk_at "ev"
    refine ⟨by decide, ?_⟩
    have pm := isort_perm ns
    refine fin_tree (blw_tup (blws_cons blw_int (blws_cons (blw_tup blws_ints) blws_nil))) (closeOk_set st _ b c B.blw) ?_
    rw [cut_b]
    refine k _ _ _ ⟨by omega, by omega, ?_, by rw [pm.length_eq]; exact l6, fun l hl => km l (pm.mem_iff.mp hl), asc_of pm kn (isort_sorted ns)⟩ (by omega) (B.mono (by omega))
    intro e
    have := pm.length_eq
    rw [e] at this
    exact kz (by omega) (List.length_eq_zero_iff.mp this.symm)
end My

namespace My
open PySem PySem.Spec PyProof.Rows L2
local macro_rules | `(tactic| walk_at "ev") => `(tactic| try simp only [ev_var, ev_c, ev_un, ev_op, ev_nil, ev_cons, ev_call, ev_callD, ev_callN, ev_tup, ev_lst, ev_lstM, ev_dkM, ev_dtM, ev_bE, ev_bAnd, ev_bOr, ev_bNot, ev_bYes, ev_eAnd, ev_eOr, ev_eNot, ev_if, ev_chain, ev_oNone, ev_oSome, ev_sl, ev_bm, ev_skip, ev_brk, ev_cnt, ev_seq, then_nx, then_rt, then_bk, then_ct, ev_set, ev_asg, ev_par, ev_par3, ev_ret, ev_drop, ev_sIf, ev_aug, ev_sub, ev_seqI, ev_range1, ev_range2, ev_for, ev_lc, enter, gNm, gsNil, gsCons, gTp, wipeE,
  List.map_cons, List.map_nil, List.length_cons, List.length_nil, List.replicate, List.cons_append, List.nil_append, List.append_nil, List.getElem?_cons_zero, List.getElem?_cons_succ, List.set_cons_zero, List.set_cons_succ, Option.some.injEq, exists_eq_left', exists_eq_left, D.bl.injEq, D.int.injEq, D.str.injEq, D.tup.injEq, D.lst.injEq, D.ref.injEq, decide_eq_true_eq, List.cons.injEq, and_true, true_and, if_true, if_false, reduceCtorEq, Bool.false_eq_true, ite_true, ite_false, Nat.sub_self, Nat.reduceAdd, Nat.reduceSub, Nat.zero_add, exists_and_left, exists_const, Bool.not_true, Bool.not_false, Bool.not_eq_true', exists_eq_right, and_assoc, List.length_set, exists_eq_right',
  add_int, addI_int, sub_int, neg_int, lt_int, le_int, gt_int, ge_int, eq_int, ne_int, eq_str, ne_str, eq_bl, ne_bl, eq_is, eq_si, ne_is, ne_si, is_nn, ix_tup, ix_lst, ix_scr, at_0, at_1, at_2, at_3, len_tup, len_lst, len_scr, outF, outK, ev_len_tup, ev_len_lst, ev_len_scr, ev_abs, ev_int, ev_intb, ev_max2, ev_min2, ev_tuple_lst, ev_tuple_tup, ev_list_lst, ev_list_tup])
/- _law_tale: 0:_law_box_here, 1:_law_book_here, 2:_law_bound, 3:_law_often, 4:_law_many, 5:_law_tale_here, 6:_law_spent, 7:_law_hands, 8:_law_turn, 9:_law_way, 10:_law_line -/
noncomputable def mb_Ltale : SM :=
(sSeq (sPar3 5 6 7 (aCons (eLstM aNil) (aCons (eC (.int 0)) (aCons (eC (.int 0)) aNil))))
(sSeq (sFor (iRange1 (eVar 4)) (gNm 8)
(sSeq (sPar 9 10 (aCons (eCallD 2 mf_Ltake [] (aCons (eVar 0) (aCons (eC (.int 12)) aNil))) (aCons (eCallD 2 mf_Lof [] (aCons (eVar 0) (aCons (eOp dIx (eVar 1) (eC (.int 1))) aNil))) aNil)))
(sIf (bOr (bE (eOp dEq (eVar 9) (eC (.int 0)))) (bAnd (bE (eOp dGt (eOp dAdd (eVar 6) (eVar 10)) (eVar 2))) (bE (eOp dLt (eVar 9) (eC (.int 9))))))
(sSeq (sDrop (eBM "list" mAppend (eVar 5) (aCons (eC (.str "look")) aNil)))
(sAsg (eTup (aCons (eC (.int 0)) (aCons (eC (.int 0)) aNil))) (gTp 2 (gsCons (gNm 6) (gsCons (gNm 7) gsNil)))))
(sIf (bAnd (bE (eOp dEq (eVar 9) (eC (.int 1)))) (bE (eOp dLt (eVar 7) (eVar 3))))
(sSeq (sDrop (eBM "list" mAppend (eVar 5) (aCons (eC (.str "rotate")) aNil)))
(sSet 7 (eOp dAdd (eVar 7) (eC (.int 1)))))
(sIf (bE (eOp dLe (eOp dAdd (eVar 6) (eVar 10)) (eVar 2)))
(sSeq (sDrop (eBM "list" mAppend (eVar 5) (aCons (eVar 10) aNil)))
(sSet 6 (eOp dAdd (eVar 6) (eVar 10))))
sSkip)))))
(sRet (eCall fTuple (aCons (eVar 5) aNil)))))
noncomputable def mf_Ltale : FM := mkF 11 mb_Ltale

def Ev.D : Ev → D
  | .line l => .int l
  | .look => .str "look"
  | .rot => .str "rotate"
theorem set_self {α : Type} {st : List α} {b : Nat} {c : α} (h : st[b]? = some c) : st.set b c = st := by
  apply List.ext_getElem?
  intro i
  by_cases e : b = i
  · subst e
    rw [List.getElem?_set_self (List.getElem?_eq_some_iff.mp h).1, h]
  · rw [List.getElem?_set_ne e]
theorem app_ev {st : Store} {n : Nat} {xs : List D} {a : D} {P : D → Store → Prop} (h : st[n]? = some (.lst xs)) (hz : xs.length < sizeLine) (k : P .non (st.set n (.lst (xs ++ [a])))) :
    tyD "list" st (.ref n) ∧ ∃ d s3, mAppend (.ref n) [a] st = some (d, s3) ∧ P d s3 := ⟨tyD_cell h, .non, _, app_cell h hz, k⟩
def TaleI (st : Store) (b n : Nat) (S bound often many : Int) (ls : List Int) (i : Nat) (env : Env) (s : Store) : Prop := ∃ (c : D) (es : List Ev) (x8 x9 x10 : Option D), BoxC (n + 2 * i) c ∧ env = [some (.ref b), some (.tup [.int S, .tup (ls.map .int)]), some (.int bound), some (.int often), some (.int many), some (.ref st.length), some (.int (stOf es).1), some (.int (stOf es).2), x8, x9, x10] ∧ s = st.set b c ++ [.lst (es.map Ev.D)] ∧
    (∀ e ∈ es, Ev.ok ls e) ∧ es.length ≤ i ∧ Tame bound often es
theorem ev_tale {st : Store} {b n : Nat} {c : D} {S bound often many : Int} {ls : List Int} {Q : D → Store → Prop} (hb : st[b]? = some c) (hc : BoxC n c) (hn : n + 2000 < 2 ^ 40) (R : Rules S ls) (B0 : 0 ≤ bound) (O0 : 0 ≤ often) (M0 : 0 ≤ many) (M1 : many ≤ 1000)
    (k : ∀ es c', (∀ e ∈ es, Ev.ok ls e) → (es.length : Int) ≤ many → Tame bound often es → BoxC (n + 2000) c' → Q (.tup (es.map Ev.D)) (st.set b c')) : EvF mf_Ltale [.ref b, .tup [.int S, .tup (ls.map .int)], .int bound, .int often, .int many] st Q := by
  have hlt : b < st.length := (List.getElem?_eq_some_iff.mp hb).1
  rw [mf_Ltale, ev_mkF]
  unfold mb_Ltale
  walk_at "ev"
  refine ⟨by decide, by omega, by omega, ?_⟩
  refine for_inv (TaleI st b n S bound often many ls) ?_ (fun _ _ _ _ _ => trivial) ?_ ?_
  · exact ⟨c, [], none, none, none, hc, rfl, by rw [set_self hb]; rfl, fun _ h => absurd h (by simp), Nat.le_refl _, Tame.nil B0 O0⟩
  · rintro i hi env s ⟨c, es, x8, x9, x10, B, rfl, rfl, ko, kl, kt⟩
    rw [intsTo_len] at hi
    refine ⟨_, rfl, ?_⟩
    walk_at "ev"
    refine ev_take (cell_b hlt) B (by omega) (by omega) (by omega) fun way c3 z0 z1 B3 => ?_
    rw [put_b hlt]
    walk_at "ev"
    refine ev_of (cell_b hlt) B3 (by omega) (.inr rfl) blws_ints (by simpa using R.ne) (by rw [List.length_map]; have := R.six; omega) fun v c4 hv B4 => ?_
    rw [put_b hlt]
    obtain ⟨l, hl, rfl⟩ := List.mem_map.mp hv
    have B5 : BoxC (n + 2 * (i + 1)) c4 := B4.mono (by omega)
    have l1 := R.mem l hl
    have cn : (st.set b c4 ++ [D.lst (es.map Ev.D)])[st.length]? = some (.lst (es.map Ev.D)) := cell_n
    have hsz : (es.map Ev.D).length < sizeLine := by rw [List.length_map]; exact Nat.lt_of_le_of_lt kl (Nat.lt_trans (show i < 1001 by omega) (by decide))
    have q0 := kt es.length (Nat.le_refl _)
    rw [List.take_length] at q0
    have add : ∀ (e : Ev) (x8 : Option D) (x y : Int) (d : D), d = e.D → Ev.st (stOf es) e = (x, y) → Ev.ok ls e → x ≤ bound → y ≤ often →
        TaleI st b n S bound often many ls (i + 1) [some (.ref b), some (.tup [.int S, .tup (ls.map .int)]), some (.int bound), some (.int often), some (.int many), some (.ref st.length), some (.int x), some (.int y), x8, some (.int way), some (.int l)] ((st.set b c4 ++ [D.lst (es.map Ev.D)]).set st.length (.lst (es.map Ev.D ++ [d]))) := by
      intro e x8 x y d ed h1 h2 h3 h4
      subst ed
      refine ⟨c4, es ++ [e], _, _, _, B5, by rw [stOf_snoc, h1], by rw [put_n, List.map_append]; rfl, ?_, by simp; omega, kt.snoc (by rw [h1]; exact h3) (by rw [h1]; exact h4)⟩
      intro e' he
      rcases List.mem_append.mp he with z | z
      · exact ko _ z
      · rw [List.mem_singleton.mp z]; exact h2
    have same : ∀ x8 : Option D, TaleI st b n S bound often many ls (i + 1) [some (.ref b), some (.tup [.int S, .tup (ls.map .int)]), some (.int bound), some (.int often), some (.int many), some (.ref st.length), some (.int (stOf es).1), some (.int (stOf es).2), x8, some (.int way), some (.int l)] (st.set b c4 ++ [D.lst (es.map Ev.D)]) :=
      fun x8 => ⟨c4, es, _, _, _, B5, rfl, rfl, ko, by omega, kt⟩
    walk_at "ev"
    have A1 := fun x8 => add .look x8 0 0 _ rfl rfl trivial B0 O0
    have A2 : ∀ (_ : (stOf es).2 < often) (x8 : Option D), _ := fun h x8 => add .rot x8 (stOf es).1 ((stOf es).2 + 1) _ rfl rfl trivial q0.1 (by omega)
    have A3 : ∀ (_ : (stOf es).1 + l ≤ bound) (x8 : Option D), _ := fun h x8 => add (.line l) x8 ((stOf es).1 + l) (stOf es).2 _ rfl rfl hl h q0.2
    repeat' split
    all_goals first
      | exact same _
      | exact app_ev cn hsz (A2 (by assumption) _)
      | exact app_ev cn hsz (A3 (by assumption) _)
      | exact app_ev cn hsz ⟨by decide, A1 _⟩
  · rintro env s ⟨c, es, x8, x9, x10, B, rfl, rfl, ko, kl, kt⟩
    rw [intsTo_len] at kl B
    walk_at "ev"
    rw [ev_tuple_cell cell_n]
    walk_at "ev"
    refine fin_tree (blw_tup (blws_map (fun e => by cases e <;> simp only [Ev.D, D.blw]) es)) (closeOk_set st _ b c B.blw) ?_
    rw [cut_b]
    exact k es c ko (by omega) kt (B.mono (by omega))
end My

namespace My
open PySem L2

/-! ### a log that runs: its files, the lines that are gone -/
structure RS where
  old : List (List Int × Int)
  cur : List Int
  beg : Int
  places : List Int
  gone : List (Int × Bool)
  fill : Int
  here : Int
  turns : Int
namespace RS
def init : RS := ⟨[], [], 0 - 1, [], [], 0, 0, 0⟩
def lost (pl : List Int) (here : Int) (f : List Int × Int) : List (Int × Bool) :=
  (f.1.filter fun n => decide (pl.getD n.toNat 0 = here)).map fun n => (n, decide (f.2 = here))
def turn (r : RS) : RS := { r with old := r.old ++ [(r.cur, r.beg)], cur := [], beg := r.here, fill := 0, turns := r.turns + 1 }
def drop (r : RS) (f : List Int × Int) (o : List (List Int × Int)) : RS := { r with old := o, gone := r.gone ++ lost r.places r.here f }
def trim (many : Nat) (r : RS) : RS := if many < r.old.length then (match r.old with | [] => r | f :: o => r.drop f o) else r
def add (l : Int) (r : RS) : RS := { r with cur := r.cur ++ [(r.places.length : Int)], places := r.places ++ [r.here], fill := r.fill + l }
def step (S : Int) (many : Nat) (r : RS) : Ev → RS
  | .look => { r with here := r.here + 1 }
  | .rot => trim many (turn r)
  | .line l => add l (if S < r.fill + l then trim many (turn r) else r)
def run (S : Int) (many : Nat) (es : List Ev) : RS := es.foldl (step S many) init
theorem run_snoc (S : Int) (many : Nat) (es : List Ev) (e : Ev) : run S many (es ++ [e]) = step S many (run S many es) e := by
  unfold run
  rw [List.foldl_append]
  rfl
def cnt (o : List (List Int × Int)) : Nat := (o.map fun f => f.1.length).sum
/-- what stays so -/
structure Ok (many i : Nat) (r : RS) : Prop where
  o1 : r.old.length ≤ many
  o2 : r.old.length ≤ i
  pl : r.places.length ≤ i
  tot : r.gone.length + cnt r.old + r.cur.length ≤ r.places.length
  fs : ∀ f ∈ r.old, ∀ n ∈ f.1, 0 ≤ n ∧ n < (r.places.length : Int)
  cs : ∀ n ∈ r.cur, 0 ≤ n ∧ n < (r.places.length : Int)
theorem Ok.init (many : Nat) : Ok many 0 RS.init := ⟨Nat.zero_le _, Nat.le_refl _, Nat.le_refl _, Nat.le_refl _, fun _ h => absurd h (by simp [RS.init]), fun _ h => absurd h (by simp [RS.init])⟩
theorem Ok.mono {many i j : Nat} {r : RS} (h : Ok many i r) (l : i ≤ j) : Ok many j r := ⟨h.o1, Nat.le_trans h.o2 l, Nat.le_trans h.pl l, h.tot, h.fs, h.cs⟩
/-- behind a turn, before old files go -/
structure Ok1 (many i : Nat) (r : RS) : Prop where
  o1 : r.old.length ≤ many + 1
  o2 : r.old.length ≤ i + 1
  pl : r.places.length ≤ i
  tot : r.gone.length + cnt r.old + r.cur.length ≤ r.places.length
  fs : ∀ f ∈ r.old, ∀ n ∈ f.1, 0 ≤ n ∧ n < (r.places.length : Int)
  cs : ∀ n ∈ r.cur, 0 ≤ n ∧ n < (r.places.length : Int)
theorem cnt_snoc (o : List (List Int × Int)) (f : List Int × Int) : cnt (o ++ [f]) = cnt o + f.1.length := by
  unfold cnt
  rw [List.map_append, List.sum_append]
  simp
theorem Ok.turn {many i : Nat} {r : RS} (h : Ok many i r) : Ok1 many i r.turn := by
  obtain ⟨o1, o2, pl, tot, fs, cs⟩ := h
  refine ⟨?_, ?_, pl, ?_, fun f hf => ?_, fun n hn => absurd hn (by simp [RS.turn])⟩
  · show (r.old ++ [(r.cur, r.beg)]).length ≤ _
    rw [List.length_append, List.length_singleton]; omega
  · show (r.old ++ [(r.cur, r.beg)]).length ≤ _
    rw [List.length_append, List.length_singleton]; omega
  · show r.gone.length + cnt (r.old ++ [(r.cur, r.beg)]) + 0 ≤ r.places.length
    rw [cnt_snoc]
    simp only
    omega
  · rcases List.mem_append.mp (show f ∈ r.old ++ [(r.cur, r.beg)] from hf) with hf | hf
    · exact fs f hf
    · rw [List.mem_singleton.mp hf]
      exact cs
theorem lost_len (pl : List Int) (here : Int) (f : List Int × Int) : (lost pl here f).length ≤ f.1.length := by
  unfold lost
  rw [List.length_map]
  exact List.length_filter_le _ _
theorem Ok1.drop {many i : Nat} {r : RS} {f : List Int × Int} {o : List (List Int × Int)} (h : Ok1 many i r) (e : r.old = f :: o) : Ok many (i + 1) (r.drop f o) := by
  obtain ⟨o1, o2, pl, tot, fs, cs⟩ := h
  rw [e] at o1 o2 fs tot
  rw [List.length_cons] at o1 o2
  refine ⟨by show o.length ≤ many; omega, by show o.length ≤ i + 1; omega, by show r.places.length ≤ i + 1; omega, ?_, fun g hg => fs g (List.mem_cons_of_mem _ hg), cs⟩
  show (r.gone ++ lost r.places r.here f).length + cnt o + r.cur.length ≤ r.places.length
  rw [List.length_append]
  have := lost_len r.places r.here f
  unfold cnt at tot ⊢
  rw [List.map_cons, List.sum_cons] at tot
  omega
theorem Ok1.keep {many i : Nat} {r : RS} (h : Ok1 many i r) (l : r.old.length ≤ many) : Ok many (i + 1) r := ⟨l, h.o2, by have := h.pl; omega, h.tot, h.fs, h.cs⟩
theorem Ok.add {many i : Nat} {r : RS} {l : Int} (h : r.places.length ≤ i) (g : Ok many (i + 1) r) : Ok many (i + 1) (r.add l) := by
  obtain ⟨o1, o2, pl, tot, fs, cs⟩ := g
  have e : ((r.add l).places.length : Int) = r.places.length + 1 := by
    show (((r.places ++ [r.here]).length : Nat) : Int) = _
    rw [List.length_append, List.length_singleton]
    omega
  refine ⟨o1, o2, ?_, ?_, fun f hf n hn => ?_, fun n hn => ?_⟩
  · show (r.places ++ [r.here]).length ≤ _
    rw [List.length_append, List.length_singleton]; omega
  · show r.gone.length + cnt r.old + (r.cur ++ [(r.places.length : Int)]).length ≤ (r.places ++ [r.here]).length
    rw [List.length_append, List.length_append, List.length_singleton, List.length_singleton]; omega
  · have := fs f hf n hn
    omega
  · rcases List.mem_append.mp (show n ∈ r.cur ++ [(r.places.length : Int)] from hn) with hn | hn
    · have := cs n hn
      omega
    · rw [List.mem_singleton.mp hn]
      omega
theorem trim_drop {many : Nat} {r : RS} {f : List Int × Int} {o : List (List Int × Int)} (e : r.old = f :: o) (l : many < r.old.length) : trim many r = r.drop f o := by
  unfold trim
  rw [if_pos l, e]
theorem trim_keep {many : Nat} {r : RS} (l : r.old.length ≤ many) : trim many r = r := by
  unfold trim
  rw [if_neg (by omega)]
theorem Ok1.trim {many i : Nat} {r : RS} (h : Ok1 many i r) : Ok many (i + 1) (trim many r) := by
  by_cases l : many < r.old.length
  · cases e : r.old with
    | nil => rw [e] at l; exact absurd l (by simp)
    | cons f o =>
      rw [trim_drop e l]
      exact h.drop e
  · rw [trim_keep (by omega)]
    exact h.keep (by omega)
theorem trim_places (many : Nat) (r : RS) : (trim many r).places = r.places := by
  unfold RS.trim
  split
  · split <;> rfl
  · rfl
theorem Ok.step {many i : Nat} {r : RS} {S : Int} (h : Ok many i r) (e : Ev) : Ok many (i + 1) (step S many r e) := by
  cases e with
  | look => exact ⟨h.o1, Nat.le_succ_of_le h.o2, Nat.le_succ_of_le h.pl, h.tot, h.fs, h.cs⟩
  | rot => exact h.turn.trim
  | line l =>
    show Ok many (i + 1) (RS.add l _)
    split
    · exact Ok.add (by rw [trim_places]; exact h.pl) h.turn.trim
    · exact Ok.add h.pl (h.mono (Nat.le_succ _))
theorem Ok.run (S : Int) (many : Nat) (es : List Ev) : Ok many es.length (run S many es) := by
  have : ∀ (es : List Ev) (r : RS) (i : Nat), Ok many i r → Ok many (i + es.length) (es.foldl (RS.step S many) r) := by
    intro es
    induction es with
    | nil => intro r i h; exact h
    | cons e es ih =>
      intro r i h
      have := ih _ _ (h.step (S := S) e)
      rw [List.length_cons, show i + (es.length + 1) = i + 1 + es.length by omega]
      exact this
  have h := this es RS.init 0 (Ok.init many)
  rwa [Nat.zero_add] at h
end RS

/-! ### tests that are known -/
theorem iteA {c A B : Prop} [Decidable c] (hc : c) (h : A) : if decide c = true then A else B := by
  rw [decide_eq_true hc]
  exact iteT h
theorem iteN {c A B : Prop} [Decidable c] (hc : ¬ c) (h : B) : if decide c = true then A else B := by
  rw [decide_eq_false hc]
  exact iteF h
theorem iteNA {c A B : Prop} [Decidable c] (hc : ¬ c) (h : A) : if (!decide c) = true then A else B := by
  rw [decide_eq_false hc]
  exact iteT h
/-- two ways that go on alike, from a state that is known -/
theorem join2 {G : Prop} (Hy : St → Hp → Prop) (P : St → Hp → Prop) (rest : ∀ σ H, Hy σ H → P σ H) (use : (∀ σ H, Hy σ H → P σ H) → G) : G := use rest
theorem pairs_app {α β : Type} {R : α → β → Prop} : ∀ {xs xs' : List α} {ys ys' : List β}, Paired R xs ys → Paired R xs' ys' → Paired R (xs ++ xs') (ys ++ ys')
  | _, _, _, _, .nil, q => q
  | _, _, _, _, .cons h t, q => .cons h (pairs_app t q)

theorem pairs_get {α β : Type} {R : α → β → Prop} : ∀ {xs : List α} {ys : List β} {j : Nat} {x : α}, Paired R xs ys → xs[j]? = some x → ∃ y, ys[j]? = some y ∧ R x y
  | _, _, 0, _, .cons h _, e => ⟨_, rfl, by cases e; exact h⟩
  | _, _, j + 1, _, .cons _ t, e => pairs_get (j := j) t e
theorem take_at {α : Type} {xs : List α} {j : Nat} {x : α} (h : xs[j]? = some x) : xs.take (j + 1) = xs.take j ++ [x] := by rw [List.take_add_one, h]; rfl

/-! ### how it lies in the heap -/
def FileAt (H : Hp) (N : List Addr) (v : V) (f : List Int × Int) : Prop := ∃ t c, v = .ref t ∧ H t = some (.tup [.ref c, .int f.2]) ∧ H c = some (.lst (f.1.map V.int)) ∧ c ∉ N
def GoneAt (H : Hp) (v : V) (p : Int × Bool) : Prop := ∃ t, v = .ref t ∧ H t = some (.tup [.int p.1, .bl p.2])
/-- all but some stands -/
def Buts (N : List Addr) (H H' : Hp) : Prop := ∀ a o, a ∉ N → H a = some o → H' a = some o
structure RunAt (H0 H : Hp) (F P G c : Addr) (ov gv : List V) (t : Addr) (r : RS) : Prop where
  hF : H F = some (.lst (ov ++ [.ref t]))
  ht : H t = some (.tup [.ref c, .int r.beg])
  hc : H c = some (.lst (r.cur.map V.int))
  hP : H P = some (.lst (r.places.map V.int))
  hG : H G = some (.lst gv)
  po : Paired (FileAt H [c, P, G, F]) ov r.old
  pg : Paired (GoneAt H) gv r.gone
  ne : c ≠ P ∧ c ≠ G ∧ c ≠ F ∧ P ≠ G ∧ P ≠ F ∧ G ≠ F
  fr : H0 F = none ∧ H0 P = none ∧ H0 G = none ∧ H0 c = none
  sm : Same H0 H
theorem FileAt.buts {H H' : Hp} {N M : List Addr} {v : V} {f : List Int × Int} (h : FileAt H N v f) (b : Buts N H H') (tn : ∀ a xs, H a = some (.tup xs) → a ∉ N) (hm : ∀ a, a ∉ N → H a ≠ none → a ∉ M) : FileAt H' M v f := by
  obtain ⟨t, c, rfl, h1, h2, h3⟩ := h
  exact ⟨t, c, rfl, b _ _ (tn _ _ h1) h1, b _ _ h3 h2, hm _ h3 (by rw [h2]; simp)⟩
theorem GoneAt.buts {H H' : Hp} {N : List Addr} {v : V} {p : Int × Bool} (h : GoneAt H v p) (b : Buts N H H') (tn : ∀ a xs, H a = some (.tup xs) → a ∉ N) : GoneAt H' v p := by
  obtain ⟨t, rfl, h1⟩ := h
  exact ⟨t, rfl, b _ _ (tn _ _ h1) h1⟩
theorem RunAt.tn {H0 H : Hp} {F P G c : Addr} {ov gv : List V} {t : Addr} {r : RS} (R : RunAt H0 H F P G c ov gv t r) : ∀ a xs, H a = some (.tup xs) → a ∉ [c, P, G, F] := by
  intro a xs h hm
  simp only [List.mem_cons, List.not_mem_nil, or_false] at hm
  rcases hm with rfl | rfl | rfl | rfl
  · exact tup_ne h R.hc rfl
  · exact tup_ne h R.hP rfl
  · exact tup_ne h R.hG rfl
  · exact tup_ne h R.hF rfl
theorem RunAt.nn {H0 H : Hp} {F P G c : Addr} {ov gv : List V} {t : Addr} {r : RS} (R : RunAt H0 H F P G c ov gv t r) : ∀ a, H a = none → a ∉ [c, P, G, F] := by
  intro a h hm
  simp only [List.mem_cons, List.not_mem_nil, or_false] at hm
  rcases hm with rfl | rfl | rfl | rfl
  · rw [R.hc] at h; cases h
  · rw [R.hP] at h; cases h
  · rw [R.hG] at h; cases h
  · rw [R.hF] at h; cases h
theorem RunAt.old {H0 H H' : Hp} {F P G c : Addr} {ov gv : List V} {t : Addr} {r : RS} {os : List (List Int × Int)} (R : RunAt H0 H F P G c ov gv t r) (b : Buts [c, P, G, F] H H') (p : Paired (FileAt H [c, P, G, F]) ov os) : Paired (FileAt H' [c, P, G, F]) ov os :=
  Paired.mapP p fun _ _ x => x.buts b R.tn fun _ n _ => n
theorem RunAt.gn {H0 H H' : Hp} {F P G c : Addr} {ov gv : List V} {t : Addr} {r : RS} (R : RunAt H0 H F P G c ov gv t r) (b : Buts [c, P, G, F] H H') : Paired (GoneAt H') gv r.gone :=
  Paired.mapP R.pg fun _ _ x => x.buts b R.tn
theorem RunAt.keep {H0 H H' : Hp} {F P G c : Addr} {ov gv : List V} {t : Addr} {r : RS} (R : RunAt H0 H F P G c ov gv t r) (b : Buts [c, P, G, F] H H') : Same H0 H' := fun a o h => b _ _ (fun hm => by
  obtain ⟨h1, h2, h3, h4⟩ := R.fr
  simp only [List.mem_cons, List.not_mem_nil, or_false] at hm
  rcases hm with rfl | rfl | rfl | rfl
  · rw [h4] at h; cases h
  · rw [h2] at h; cases h
  · rw [h3] at h; cases h
  · rw [h1] at h; cases h) (R.sm _ _ h)
theorem Buts.of {N : List Addr} {H H' : Hp} (s : Same H H') : Buts N H H' := fun a o _ h => s a o h
theorem RunAt.same {H0 H H' : Hp} {F P G c : Addr} {ov gv : List V} {t : Addr} {r : RS} (R : RunAt H0 H F P G c ov gv t r) (s : Same H H') : RunAt H0 H' F P G c ov gv t r :=
  ⟨s _ _ R.hF, s _ _ R.ht, s _ _ R.hc, s _ _ R.hP, s _ _ R.hG, R.old (Buts.of s) R.po, R.gn (Buts.of s), R.ne, R.fr, R.sm.trans s⟩
theorem none_of {H H' : Hp} {a : Addr} (s : Same H H') (h : H' a = none) : H a = none := by
  cases e : H a with
  | none => rfl
  | some o => rw [s _ _ e] at h; cases h
theorem RunAt.turn {H0 H : Hp} {F P G c : Addr} {ov gv : List V} {t : Addr} {r : RS} (R : RunAt H0 H F P G c ov gv t r) {c' t' L F' : Addr} {H1 H2 H3 H4 : Hp}
    (n1 : H c' = none) (e1 : H1 = upd H c' (.lst [])) (n2 : H1 t' = none) (e2 : H2 = upd H1 t' (.tup [.ref c', .int r.here])) (n3 : H2 L = none) (e3 : H3 = upd H2 L (.lst [.ref t'])) (n4 : H3 F' = none) (e4 : H4 = upd H3 F' (.lst (ov ++ [.ref t] ++ [.ref t']))) :
    RunAt H0 H4 F' P G c' (ov ++ [.ref t]) gv t' r.turn := by
  have s1 : Same H H1 := e1 ▸ same_new n1
  have s2 : Same H1 H2 := e2 ▸ same_new n2
  have s3 : Same H2 H3 := e3 ▸ same_new n3
  have s4 : Same H3 H4 := e4 ▸ same_new n4
  have s24 := (s2.trans s3).trans s4
  have s : Same H H4 := s1.trans s24
  have R4 := R.same s
  have hc1 : H1 c' = some (.lst []) := e1 ▸ upd_same
  have ht2 : H2 t' = some (.tup [.ref c', .int r.here]) := e2 ▸ upd_same
  have m4 : H F' = none := none_of (s1.trans (s2.trans s3)) n4
  have q1 := R.nn _ n1
  have q4 := R.nn _ m4
  have d1 : c' ≠ F' := ne_of_none ((s2.trans s3) _ _ hc1) n4
  have nF : ∀ v f, FileAt H [c, P, G, F] v f → FileAt H4 [c', P, G, F'] v f := fun v f x => x.buts (Buts.of s) R.tn fun a ha hn => by
    simp only [List.mem_cons, List.not_mem_nil, or_false, not_or] at ha ⊢
    exact ⟨fun e => hn (e ▸ n1), ha.2.1, ha.2.2.1, fun e => hn (e ▸ m4)⟩
  simp only [List.mem_cons, List.not_mem_nil, or_false, not_or] at q1 q4
  obtain ⟨f1, f2, f3, f4⟩ := R.fr
  have cn := R.ne
  refine ⟨e4 ▸ upd_same, (s3.trans s4) _ _ ht2, s24 _ _ hc1, R4.hP, R4.hG, Paired.snoc (Paired.mapP R.po nF) ⟨t, c, rfl, s _ _ R.ht, s _ _ R.hc, ?_⟩, R4.pg, ⟨q1.2.1, q1.2.2.1, d1, cn.2.2.2.1, fun e => q4.2.1 e.symm, fun e => q4.2.2.1 e.symm⟩, ⟨none_of R.sm m4, f2, f3, none_of R.sm n1⟩, R4.sm⟩
  simp only [List.mem_cons, List.not_mem_nil, or_false, not_or]
  exact ⟨fun e => q1.1 e.symm, cn.1, cn.2.1, fun e => q4.1 e.symm⟩
theorem RunAt.drop {H0 H H' : Hp} {F P G c : Addr} {v : V} {ov gv gn : List V} {t : Addr} {r : RS} {f : List Int × Int} {o : List (List Int × Int)} (R : RunAt H0 H F P G c (v :: ov) gv t r) (e : r.old = f :: o)
    (b : Buts [F, G] H H') (hF : H' F = some (.lst (ov ++ [.ref t]))) (hG : H' G = some (.lst (gv ++ gn))) (pn : Paired (GoneAt H') gn (RS.lost r.places r.here f)) : RunAt H0 H' F P G c ov (gv ++ gn) t (r.drop f o) := by
  have b4 : Buts [c, P, G, F] H H' := fun a u n h => b a u (fun z => n (by
    simp only [List.mem_cons, List.not_mem_nil, or_false] at z ⊢
    rcases z with z | z
    · exact .inr (.inr (.inr z))
    · exact .inr (.inr (.inl z)))) h
  have cn := R.ne
  have po := R.old b4 R.po
  rw [e] at po
  cases po with
  | cons _ po =>
    refine ⟨hF, b _ _ (fun z => R.tn _ _ R.ht ?_) R.ht, b _ _ ?_ R.hc, b _ _ ?_ R.hP, hG, po, pairs_app (R.gn b4) pn, R.ne, R.fr, R.keep b4⟩
    · simp only [List.mem_cons, List.not_mem_nil, or_false] at z ⊢
      rcases z with z | z
      · exact .inr (.inr (.inr z))
      · exact .inr (.inr (.inl z))
    · simp only [List.mem_cons, List.not_mem_nil, or_false, not_or]
      exact ⟨cn.2.2.1, cn.2.1⟩
    · simp only [List.mem_cons, List.not_mem_nil, or_false, not_or]
      exact ⟨cn.2.2.2.2.1, cn.2.2.2.1⟩
theorem RunAt.add {H0 H : Hp} {F P G c : Addr} {ov gv : List V} {t : Addr} {r : RS} (R : RunAt H0 H F P G c ov gv t r) (l : Int) {xs ys : List V} (ex : xs = (r.add l).cur.map V.int) (ey : ys = (r.add l).places.map V.int) :
    RunAt H0 (upd (upd H c (.lst xs)) P (.lst ys)) F P G c ov gv t (r.add l) := by
  have b : Buts [c, P, G, F] H (upd (upd H c (.lst xs)) P (.lst ys)) := fun a o n h => by
    simp only [List.mem_cons, List.not_mem_nil, or_false, not_or] at n
    exact kp_set n.2.1 (kp_set n.1 h)
  have cn := R.ne
  have tn := R.tn _ _ R.ht
  refine ⟨kp_set (fun e => cn.2.2.2.2.1 e.symm) (kp_set (fun e => cn.2.2.1 e.symm) R.hF), b _ _ tn R.ht, ?_, ?_, kp_set (fun e => cn.2.2.2.1 e.symm) (kp_set (fun e => cn.2.1 e.symm) R.hG), R.old b R.po, R.gn b, R.ne, R.fr, R.keep b⟩
  · rw [kp_set cn.1 upd_same, ex]
  · rw [upd_same, ey]
theorem seq0 (n : Nat) (h : 0 < n) : seqIndex? 0 n = some 0 := by
  unfold seqIndex?
  simp
  omega
theorem lost_snoc (pl : List Int) (h : Int) (xs : List Int) (n b : Int) : RS.lost pl h (xs ++ [n], b) = RS.lost pl h (xs, b) ++ (if pl.getD n.toNat 0 = h then [(n, decide (b = h))] else []) := by
  unfold RS.lost
  simp only [List.filter_append, List.map_append]
  congr 1
  by_cases e : pl.getD n.toNat 0 = h
  · rw [if_pos e, List.filter_cons_of_pos (by simpa using e)]
    rfl
  · rw [if_neg e, List.filter_cons_of_neg (by simpa using e)]
    rfl
theorem at_map {xs : List Int} {n : Int} (h0 : 0 ≤ n) (h1 : n < xs.length) : atI (xs.map V.int) n = some (.int (xs.getD n.toNat 0)) := by
  obtain ⟨k, rfl⟩ : ∃ k : Nat, n = k := ⟨n.toNat, by omega⟩
  have hk : k < xs.length := by omega
  refine atI_nat ?_
  rw [List.getElem?_map, List.getElem?_eq_getElem hk, Int.toNat_natCast, List.getD_eq_getElem?_getD, List.getElem?_eq_getElem hk]
  rfl
theorem dec_vi {a b : Int} : decide (V.int a = V.int b) = decide (a = b) := by
  by_cases e : a = b
  · rw [e, decide_eq_true rfl, decide_eq_true rfl]
  · rw [decide_eq_false e, decide_eq_false fun z => e (by cases z; rfl)]
def Ev.n : Ev → Int
  | .line l => l
  | _ => 0
theorem Ev.sc (e : Ev) (x : Str) : scal e.v (.str x) = true := by cases e <;> rfl

/-- what a run tells: the files, the lines that are missed, the rotations -/
def TupsAt (H : Hp) (v : V) (xs : List Int) : Prop := ∃ t, v = .ref t ∧ H t = some (.tup (xs.map V.int))
def sp_run : Sp := fun vs H Q _ => ∃ (bk t : Addr) (S : Int) (ls : List Int) (many : Int) (es : List Ev), vs = [.ref bk, .int many, .ref t] ∧ BookAt H bk S ls ∧ 0 ≤ many ∧ H t = some (.tup (es.map Ev.v)) ∧ es.length ≤ 1000 ∧
  ∀ (p fs ms hs : Addr) (fv : List V) (M N : List Int) (H' : Hp), H' p = some (.tup [.ref fs, .ref ms, .ref hs, .int (RS.run S many.toNat es).turns]) →
    H' fs = some (.tup fv) → Paired (TupsAt H') fv (((RS.run S many.toNat es).old.map Prod.fst) ++ [(RS.run S many.toNat es).cur]) →
    H' ms = some (.tup (M.map V.int)) → M.Perm ((RS.run S many.toNat es).gone.map Prod.fst) → M.Pairwise (· ≤ ·) →
    H' hs = some (.tup (N.map V.int)) → N.Perm (((RS.run S many.toNat es).gone.filter Prod.snd).map Prod.fst) → N.Pairwise (· ≤ ·) → Same H H' → Q (.ref p) H'
end My

namespace My
open PySem PySem.Spec PyProof.Rows L2
/-! the caller's cells stand -/
def Ext (st s : Store) : Prop := ∃ l, s = st ++ l
theorem Ext.refl (st : Store) : Ext st st := ⟨[], (List.append_nil _).symm⟩
theorem Ext.app {st s : Store} (h : Ext st s) (l : Store) : Ext st (s ++ l) := by
  obtain ⟨k, rfl⟩ := h
  exact ⟨k ++ l, List.append_assoc ..⟩
theorem Ext.set {st s : Store} (h : Ext st s) {i : Nat} {c : D} (hi : st.length ≤ i) : Ext st (s.set i c) := by
  obtain ⟨k, rfl⟩ := h
  exact ⟨k.set (i - st.length) c, by rw [List.set_append_right _ _ hi]⟩
theorem Ext.le {st s : Store} (h : Ext st s) : st.length ≤ s.length := by
  obtain ⟨k, rfl⟩ := h
  simp
theorem Ext.close {st s : Store} (h : Ext st s) : closeOk st s := by
  obtain ⟨k, rfl⟩ := h
  exact closeOk_app st k
theorem Ext.cut {st s : Store} (h : Ext st s) : s.take st.length = st := by
  obtain ⟨k, rfl⟩ := h
  exact cut_0
theorem Ext.get {st s : Store} (h : Ext st s) {i : Nat} {c : D} (e : st[i]? = some c) : s[i]? = some c := by
  obtain ⟨k, rfl⟩ := h
  rw [List.getElem?_append_left (List.getElem?_eq_some_iff.mp e).1]; exact e
theorem Ext.trans {a b c : Store} (h : Ext a b) (k : Ext b c) : Ext a c := by
  obtain ⟨l, rfl⟩ := h
  obtain ⟨m, rfl⟩ := k
  exact ⟨l ++ m, List.append_assoc ..⟩
section
variable {s : Store} {i j : Nat} {x y : D}
theorem up_ne (h : i ≠ j) (e : s[i]? = some x) : (s.set j y)[i]? = some x := by rw [List.getElem?_set_ne (Ne.symm h)]; exact e
theorem up_eq (e : s[i]? = some x) : (s.set i y)[i]? = some y := List.getElem?_set_self (List.getElem?_eq_some_iff.mp e).1
theorem up_app (e : s[i]? = some x) (l : Store) : (s ++ l)[i]? = some x := by rw [List.getElem?_append_left (List.getElem?_eq_some_iff.mp e).1]; exact e
theorem up_new (l : Store) : (s ++ x :: l)[s.length]? = some x := by simp
theorem up_lt (e : s[i]? = some x) : i < s.length := (List.getElem?_eq_some_iff.mp e).1
end
theorem up_at {st l : Store} {i : Nat} {x : D} (h : l[i]? = some x) : (st ++ l)[st.length + i]? = some x := by
  rw [List.getElem?_append_right (by omega), Nat.add_sub_cancel_left]; exact h
local macro_rules | `(tactic| walk_at "ev") => `(tactic| try simp only [ev_var, ev_c, ev_un, ev_op, ev_nil, ev_cons, ev_call, ev_callD, ev_callN, ev_callK, ev_opM, ev_lcM, ev_tup, ev_lst, ev_lstM, ev_dkM, ev_dtM, ev_bE, ev_bAnd, ev_bOr, ev_bNot, ev_bYes, ev_eAnd, ev_eOr, ev_eNot, ev_if, ev_chain, ev_oNone, ev_oSome, ev_sl, ev_bm, ev_skip, ev_brk, ev_cnt, ev_seq, then_nx, then_rt, then_bk, then_ct, ev_set, ev_asg, ev_par, ev_par3, ev_ret, ev_drop, ev_sIf, ev_aug, ev_sub, ev_seqI, ev_fld, ev_fldM, ev_meth, ev_new, ev_newK, ev_enum, ev_zip, ev_range1, ev_range2, ev_for, ev_lc, enter, gNm, gsNil, gsCons, gTp, wipeE,
  List.map_cons, List.map_nil, List.length_cons, List.length_nil, List.replicate, List.cons_append, List.nil_append, List.append_nil, List.getElem?_cons_zero, List.getElem?_cons_succ, List.set_cons_zero, List.set_cons_succ, Option.some.injEq, exists_eq_left', exists_eq_left, D.bl.injEq, D.int.injEq, D.str.injEq, D.tup.injEq, D.lst.injEq, D.ref.injEq, decide_eq_true_eq, List.cons.injEq, and_true, true_and, if_true, if_false, reduceCtorEq, Bool.false_eq_true, ite_true, ite_false, Nat.sub_self, Nat.reduceAdd, Nat.reduceSub, Nat.zero_add, exists_and_left, exists_const, Bool.not_true, Bool.not_false, Bool.not_eq_true', exists_eq_right, and_assoc, List.length_set, exists_eq_right',
  add_int, addI_int, sub_int, neg_int, lt_int, le_int, gt_int, ge_int, eq_int, ne_int, eq_str, ne_str, eq_bl, ne_bl, eq_is, eq_si, ne_is, ne_si, is_nn, ix_tup, ix_lst, ix_scr, at_0, at_1, at_2, at_3, len_tup, len_lst, len_scr, outF, outK, ev_len_tup, ev_len_lst, ev_len_scr, ev_abs, ev_int, ev_intb, ev_max2, ev_min2, ev_tuple_lst, ev_tuple_tup, ev_list_lst, ev_list_tup, sz0, sz1, sz2, sz3, sz4, sz5, sz6, sz7, sz8, sz9, sz10, sz11, sz12, s_rl, s_lr, atI_last, decide_false, decide_true, Bool.or_false, Bool.false_or])
local macro_rules | `(tactic| walk_at "st") => `(tactic| try simp only [List.append_assoc, List.cons_append, List.nil_append, List.length_append, List.length_cons, List.length_nil, Nat.reduceAdd, Nat.add_assoc])
/- _law_run: 0:_law_book_here, 1:_law_many, 2:_law_tale_here, 3:_law_files, 4:_law_places, 5:_law_gone, 6:_law_fill, 7:_law_here, 8:_law_turns_here, 9:_law_deed, 10:_law_numbers, 11:_law_begun, 12:_law_held, 13:_law_shown, 14:_law_number, 15:_law_is_new -/
noncomputable def mb_Lrun : SM :=
(sSeq (sAsg (eTup (aCons (eLstM (aCons (eTup (aCons (eLstM aNil) (aCons (eOp dSub (eC (.int 0)) (eC (.int 1))) aNil))) aNil)) (aCons (eLstM aNil) (aCons (eLstM aNil) (aCons (eC (.int 0)) (aCons (eC (.int 0)) (aCons (eC (.int 0)) aNil))))))) (gTp 6 (gsCons (gNm 3) (gsCons (gNm 4) (gsCons (gNm 5) (gsCons (gNm 6) (gsCons (gNm 7) (gsCons (gNm 8) gsNil))))))))
(sSeq (sFor (iSeq (eVar 2)) (gNm 9)
(sSeq (sIf (bE (eOp dEq (eVar 9) (eC (.str "look"))))
(sSeq (sSet 7 (eOp dAdd (eVar 7) (eC (.int 1))))
sCnt)
sSkip)
(sSeq (sIf (bOr (bE (eOp dEq (eVar 9) (eC (.str "rotate")))) (bE (eOp dGt (eOp dAdd (eVar 6) (eVar 9)) (eOp dIx (eVar 0) (eC (.int 0))))))
(sSeq (sPar3 3 6 8 (aCons (eOpM dCat (eVar 3) (eLstM (aCons (eTup (aCons (eLstM aNil) (aCons (eVar 7) aNil))) aNil))) (aCons (eC (.int 0)) (aCons (eOp dAdd (eVar 8) (eC (.int 1))) aNil))))
(sWhile 100000 (bE (eOp dGt (eCall fLen (aCons (eVar 3) aNil)) (eOp dAdd (eVar 1) (eC (.int 1)))))
(sSeq (sAsg (eBM "list" mPop (eVar 3) (aCons (eC (.int 0)) aNil)) (gTp 2 (gsCons (gNm 10) (gsCons (gNm 11) gsNil))))
(sDrop (eBM "list" mExtend (eVar 5) (aCons (eLc (iSeq (eVar 10)) (gNm 14) (bE (eOp dEq (eOp dIx (eVar 4) (eVar 14)) (eVar 7))) (eTup (aCons (eVar 14) (aCons (eOp dEq (eVar 11) (eVar 7)) aNil))) [14]) aNil))))))
sSkip)
(sIf (bE (eOp dNe (eVar 9) (eC (.str "rotate"))))
(sSeq (sDrop (eBM "list" mAppend (eOp dIx (eOp dIx (eVar 3) (eUn dNeg (eC (.int 1)))) (eC (.int 0))) (aCons (eCall fLen (aCons (eVar 4) aNil)) aNil)))
(sSeq (sDrop (eBM "list" mAppend (eVar 4) (aCons (eVar 7) aNil)))
(sSet 6 (eOp dAdd (eVar 6) (eVar 9)))))
sSkip))))
(sSeq (sSet 12 (eLc (iSeq (eVar 5)) (gTp 2 (gsCons (gNm 14) (gsCons (gNm 15) gsNil))) (bE (eVar 15)) (eVar 14) [14, 15]))
(sSeq (sSet 13 (eCall fTuple (aCons (eLc (iSeq (eVar 3)) (gTp 2 (gsCons (gNm 10) (gsCons (gNm 11) gsNil))) bYes (eCall fTuple (aCons (eVar 10) aNil)) [10, 11]) aNil)))
(sRet (eTup (aCons (eVar 13) (aCons (eCall fTuple (aCons (eCall fSorted (aCons (eLc (iSeq (eVar 5)) (gTp 2 (gsCons (gNm 14) (gsCons (gNm 15) gsNil))) bYes (eVar 14) [14, 15]) aNil)) aNil)) (aCons (eCall fTuple (aCons (eCall fSorted (aCons (eVar 12) aNil)) aNil)) (aCons (eVar 8) aNil))))))))))
noncomputable def mf_Lrun : FM := mkF 16 mb_Lrun

def fileD (x : Nat × (List Int × Int)) : D := .tup [.ref x.1, .int x.2.2]
def goneD (x : Int × Bool) : D := .tup [.int x.1, .bl x.2]
/-- a log under way: its cells -/
structure RunC (st s : Store) (f p g c : Nat) (ks : List (Nat × (List Int × Int))) (r : RS) : Prop where
  ext : Ext st s
  old : ks.map (·.2) = r.old
  hk : ∀ x ∈ ks, s[x.1]? = some (.lst (x.2.1.map .int)) ∧ x.1 ≠ f ∧ x.1 ≠ p ∧ x.1 ≠ g ∧ x.1 ≠ c
  hf : s[f]? = some (.lst (ks.map fileD ++ [.tup [.ref c, .int r.beg]]))
  hp : s[p]? = some (.lst (r.places.map .int))
  hg : s[g]? = some (.lst (r.gone.map goneD))
  hc : s[c]? = some (.lst (r.cur.map .int))
  lf : st.length ≤ f
  lp : st.length ≤ p
  lg : st.length ≤ g
  lc : st.length ≤ c
  fp : f ≠ p
  fg : f ≠ g
  fc : f ≠ c
  pg : p ≠ g
  pc : p ≠ c
  gc : g ≠ c
section
variable {st s : Store} {f p g c : Nat} {ks : List (Nat × (List Int × Int))} {r : RS}
theorem RunC.look (h : RunC st s f p g c ks r) (i : Int) : RunC st s f p g c ks { r with here := i } := ⟨h.ext, h.old, h.hk, h.hf, h.hp, h.hg, h.hc, h.lf, h.lp, h.lg, h.lc, h.fp, h.fg, h.fc, h.pg, h.pc, h.gc⟩
theorem RunC.turn (h : RunC st s f p g c ks r) (z : D) : RunC st (s ++ [.lst [], z, .lst (ks.map fileD ++ [.tup [.ref c, .int r.beg]] ++ [.tup [.ref s.length, .int r.here]])]) (s.length + 2) p g s.length (ks ++ [(c, (r.cur, r.beg))]) r.turn := by
  have l1 := up_lt h.hp
  have l2 := up_lt h.hg
  have l3 := up_lt h.hc
  have l4 := h.ext.le
  refine ⟨h.ext.app _, by rw [List.map_append, h.old]; rfl, fun x hx => ?_, ?_, up_app h.hp _, up_app h.hg _, up_new _, by omega, h.lp, h.lg, l4, by omega, by omega, by omega, h.pg, by omega, by omega⟩
  · rcases List.mem_append.mp hx with q | q
    · obtain ⟨e, _, n2, n3, _⟩ := h.hk x q
      have := up_lt e
      exact ⟨up_app e _, by omega, n2, n3, by omega⟩
    · rw [List.mem_singleton.mp q]
      exact ⟨up_app h.hc _, by show c ≠ _; omega, Ne.symm h.pc, Ne.symm h.gc, by show c ≠ _; omega⟩
  · rw [List.getElem?_append_right (by omega), show s.length + 2 - s.length = 2 by omega, List.map_append]
    rfl
theorem RunC.drop {k : Nat} {fl : List Int × Int} {o : List (List Int × Int)} {kt : List (Nat × (List Int × Int))} (h : RunC st s f p g c ks r) (e : r.old = fl :: o) (ek : ks = (k, fl) :: kt) :
    RunC st ((s.set f (.lst (kt.map fileD ++ [.tup [.ref c, .int r.beg]]))).set g (.lst (r.gone.map goneD ++ (RS.lost r.places r.here fl).map goneD))) f p g c kt (r.drop fl o) := by
  subst ek
  refine ⟨(h.ext.set h.lf).set h.lg, ?_, fun x hx => ?_, up_ne h.fg (up_eq h.hf), up_ne h.pg (up_ne (Ne.symm h.fp) h.hp), by rw [up_eq (up_ne (Ne.symm h.fg) h.hg)]; show _ = some (D.lst (List.map goneD (_ ++ _))); rw [List.map_append], up_ne (Ne.symm h.gc) (up_ne (Ne.symm h.fc) h.hc), h.lf, h.lp, h.lg, h.lc, h.fp, h.fg, h.fc, h.pg, h.pc, h.gc⟩
  · have := h.old
    rw [e, List.map_cons] at this
    exact (List.cons.inj this).2
  · obtain ⟨e, n1, n2, n3, n4⟩ := h.hk x (List.mem_cons_of_mem _ hx)
    exact ⟨up_ne n3 (up_ne n1 e), n1, n2, n3, n4⟩
theorem RunC.add (h : RunC st s f p g c ks r) (l : Int) : RunC st ((s.set c (.lst (r.cur.map .int ++ [.int r.places.length]))).set p (.lst (r.places.map .int ++ [.int r.here]))) f p g c ks (r.add l) := by
  refine ⟨(h.ext.set h.lc).set h.lp, h.old, fun x hx => ?_, up_ne h.fp (up_ne h.fc h.hf), ?_, up_ne (Ne.symm h.pg) (up_ne h.gc h.hg), ?_, h.lf, h.lp, h.lg, h.lc, h.fp, h.fg, h.fc, h.pg, h.pc, h.gc⟩
  · obtain ⟨e, n1, n2, n3, n4⟩ := h.hk x hx
    exact ⟨up_ne n2 (up_ne n4 e), n1, n2, n3, n4⟩
  · rw [up_eq (up_ne h.pc h.hp)]
    show _ = some (D.lst (List.map _ (_ ++ _)))
    rw [List.map_append]; rfl
  · rw [up_ne (Ne.symm h.pc) (up_eq h.hc)]
    show _ = some (D.lst (List.map _ (_ ++ _)))
    rw [List.map_append]; rfl
end
def RunI (st : Store) (S : Int) (ls : List Int) (M : Nat) (es : List Ev) (i : Nat) (env : Env) (s : Store) : Prop := ∃ f p g c ks x9 x10 x11 x12 x13 x14 x15, RunC st s f p g c ks (RS.run S M (es.take i)) ∧
  env = [some (.tup [.int S, .tup (ls.map .int)]), some (.int M), some (.tup (es.map Ev.D)), some (.ref f), some (.ref p), some (.ref g), some (.int (RS.run S M (es.take i)).fill), some (.int (RS.run S M (es.take i)).here), some (.int (RS.run S M (es.take i)).turns), x9, x10, x11, x12, x13, x14, x15]
def runEnv (S : Int) (ls : List Int) (M : Nat) (es : List Ev) (f p g : Nat) (fill here turns : Int) (x9 x10 x11 x12 x13 x14 x15 : Option D) : Env := [some (.tup [.int S, .tup (ls.map .int)]), some (.int M), some (.tup (es.map Ev.D)), some (.ref f), some (.ref p), some (.ref g), some (.int fill), some (.int here), some (.int turns), x9, x10, x11, x12, x13, x14, x15]
theorem pop0 {s : Store} {f : Nat} {x : D} {xs : List D} (h : s[f]? = some (.lst (x :: xs))) : mPop (.ref f) [.int 0] s = some (x, s.set f (.lst xs)) := by
  have e : seqIndex? 0 (x :: xs).length = some 0 := seqIndex_of (by omega) (by simp)
  simp only [mPop, h]
  rw [if_pos (by decide), e]
  rfl
theorem ext_cell {s : Store} {g : Nat} {xs ys : List D} {y : D} (h : s[g]? = some (.lst xs)) (h2 : seqL s y = some ys) (hz : xs.length + ys.length ≤ sizeLine) : mExtend (.ref g) [y] s = some (.non, s.set g (.lst (xs ++ ys))) := by
  simp only [mExtend, h, h2, if_pos hz]
def RollI (st : Store) (S : Int) (ls : List Int) (M : Nat) (es : List Ev) (f2 p g c2 : Nat) (t : RS) (turns : Int) (x9 x12 x13 x14 x15 : Option D) (n : Nat) (env : Env) (s : Store) : Prop := ∃ ks r' y10 y11, RunC st s f2 p g c2 ks r' ∧ env = [some (.tup [.int S, .tup (ls.map .int)]), some (.int M), some (.tup (es.map Ev.D)), some (.ref f2), some (.ref p), some (.ref g), some (.int 0), some (.int t.here), some (.int turns), x9, y10, y11, x12, x13, x14, x15] ∧
    ((n = 1 ∧ r' = t) ∨ (n = 0 ∧ r' = RS.trim M t ∧ r'.old.length ≤ M))
theorem run_roll {st s : Store} {S : Int} {ls : List Int} {M i : Nat} {es : List Ev} {f p g c : Nat} {ks : List (Nat × (List Int × Int))} {r : RS} {QS : Out → Store → Prop} {x9 x10 x11 x12 x13 x14 x15 : Option D} (R : RunC st s f p g c ks r) (hok : RS.Ok M i r) (hi : i ≤ 1000)
    (k : ∀ f c ks s x10 x11, RunC st s f p g c ks (RS.trim M r.turn) → QS (.nx (runEnv S ls M es f p g 0 r.here (r.turns + 1) x9 x10 x11 x12 x13 x14 x15)) s) :
    EvS (sSeq (sPar3 3 6 8 (aCons (eOpM dCat (eVar 3) (eLstM (aCons (eTup (aCons (eLstM aNil) (aCons (eVar 7) aNil))) aNil))) (aCons (eC (.int 0)) (aCons (eOp dAdd (eVar 8) (eC (.int 1))) aNil)))) (sWhile 100000 (bE (eOp dGt (eCall fLen (aCons (eVar 3) aNil)) (eOp dAdd (eVar 1) (eC (.int 1))))) (sSeq (sAsg (eBM "list" mPop (eVar 3) (aCons (eC (.int 0)) aNil)) (gTp 2 (gsCons (gNm 10) (gsCons (gNm 11) gsNil)))) (sDrop (eBM "list" mExtend (eVar 5) (aCons (eLc (iSeq (eVar 10)) (gNm 14) (bE (eOp dEq (eOp dIx (eVar 4) (eVar 14)) (eVar 7))) (eTup (aCons (eVar 14) (aCons (eOp dEq (eVar 11) (eVar 7)) aNil))) [14]) aNil)))))) (runEnv S ls M es f p g r.fill r.here r.turns x9 x10 x11 x12 x13 x14 x15) s QS := by
  unfold runEnv at k ⊢
  have kl : ks.length = r.old.length := by rw [← R.old, List.length_map]
  have hsz : ∀ n : Nat, n ≤ 2000 → n ≤ sizeLine := fun n h => Nat.le_trans h (by decide)
  have R1 := R.turn (.lst [.tup [.ref s.length, .int r.here]])
  walk_at "ev"
  walk_at "st"
  have e1 : dCat (.ref f) (.ref (s.length + 1)) (s ++ [D.lst [], D.lst [D.tup [D.ref s.length, D.int r.here]]]) = some (ks.map fileD ++ [.tup [.ref c, .int r.beg]] ++ [.tup [.ref s.length, .int r.here]]) :=
    cat_ev (seqL_cell (up_app R.hf _)) (seqL_cell (up_at (i := 1) rfl)) (hsz _ (by have := hok.o2; simp; omega))
  refine ⟨_, e1, ?_⟩
  have e2 : s ++ [D.lst [], D.lst [D.tup [D.ref s.length, D.int r.here]], D.lst (ks.map fileD ++ [.tup [.ref c, .int r.beg], .tup [.ref s.length, .int r.here]])] = s ++ [D.lst [], D.lst [D.tup [D.ref s.length, D.int r.here]], D.lst (ks.map fileD ++ [.tup [.ref c, .int r.beg]] ++ [.tup [.ref s.length, .int r.here]])] := by simp
  have ok1 := hok.turn
  try rw [e2]
  generalize s ++ [D.lst [], D.lst [D.tup [D.ref s.length, D.int r.here]], D.lst (ks.map fileD ++ [.tup [.ref c, .int r.beg]] ++ [.tup [.ref s.length, .int r.here]])] = s2 at R1 ⊢
  generalize s.length + 2 = f2 at R1 ⊢
  generalize s.length = c2 at R1 ⊢
  generalize ks ++ [(c, (r.cur, r.beg))] = k2 at R1
  have hh : r.turn.here = r.here := rfl
  rw [← hh] at k ⊢
  generalize r.turn = t at R1 k ok1 ⊢
  refine while_inv (RollI st S ls M es f2 p g c2 t (r.turns + 1) x9 x12 x13 x14 x15) ⟨1, by decide, k2, t, x10, x11, R1, rfl, .inl ⟨rfl, rfl⟩⟩ ?_
  rintro n env s3 ⟨ks, r', y10, y11, R, rfl, h⟩
  have kl : ks.length = r'.old.length := by rw [← R.old, List.length_map]
  walk_at "ev"
  rw [ev_len_cell R.hf]
  walk_at "ev"
  have el : ((ks.map fileD ++ [D.tup [D.ref c2, D.int r'.beg]]).length : Int) = r'.old.length + 1 := by simp [kl]
  rw [el]
  split
  · rename_i hgt
    have hlt : M < r'.old.length := by omega
    have h1 : n = 1 ∧ r' = t := h.resolve_right fun z => by omega
    obtain ⟨rfl, rfl⟩ := h1
    cases ek : ks with
    | nil => rw [ek] at kl; simp at kl; omega
    | cons x kt =>
      obtain ⟨kk, fl⟩ := x
      subst ek
      have eo : r'.old = fl :: kt.map (·.2) := by rw [← R.old]; rfl
      have R2 := R.drop (k := kk) eo rfl
      obtain ⟨hkk, m1, m2, m3, m4⟩ := R.hk (kk, fl) List.mem_cons_self
      have pop : mPop (.ref f2) [.int 0] s3 = some (.tup [.ref kk, .int fl.2], s3.set f2 (.lst (kt.map fileD ++ [.tup [.ref c2, .int r'.beg]]))) := pop0 R.hf
      refine ⟨tyD_cell R.hf, _, _, pop, ?_⟩
      walk_at "ev"
      refine ⟨tyD_cell (up_ne (Ne.symm R.fg) R.hg), _, up_ne m1 hkk, ?_⟩
      refine lc_map (fun d => match d with | .int n => decide (r'.places.getD n.toNat 0 = r'.here) | _ => false) (fun d => .tup [d, .bl (decide (fl.2 = r'.here))]) (up_ne m1 hkk) ?_ ?_
      · intro d hd
        obtain ⟨n, hn, rfl⟩ := List.mem_map.mp hd
        obtain ⟨n0, n1⟩ := ok1.fs fl (by rw [eo]; exact List.mem_cons_self) n hn
        obtain ⟨j, rfl⟩ : ∃ j : Nat, n = j := ⟨n.toNat, by omega⟩
        have hj : j < r'.places.length := by omega
        have hat : atI (r'.places.map D.int) (j : Int) = some (.int r'.places[j]) := atI_nat (by rw [List.getElem?_map, List.getElem?_eq_getElem hj]; rfl)
        have e3 : r'.places.getD j 0 = r'.places[j] := by rw [List.getD_eq_getElem?_getD, List.getElem?_eq_getElem hj]; rfl
        refine ⟨_, rfl, ?_⟩
        walk_at "ev"
        simp only [ix_cell (up_ne (Ne.symm R.fp) R.hp), hat, Int.toNat_natCast, e3]
        walk_at "ev"
        try exact fun _ => trivial
      · refine ⟨by
          refine hsz _ ?_
          rw [List.length_map]
          refine Nat.le_trans (List.length_filter_le _ _) ?_
          rw [List.length_map]
          show fl.1.length ≤ 2000
          have t1 := ok1.tot
          have t2 := ok1.pl
          rw [eo] at t1
          simp only [RS.cnt, List.map_cons, List.sum_cons] at t1
          omega, ?_⟩
        have el2 : (((fl.1.map D.int).filter fun d => match d with | .int n => decide (r'.places.getD n.toNat 0 = r'.here) | _ => false).map fun d => D.tup [d, .bl (decide (fl.2 = r'.here))]) = (RS.lost r'.places r'.here fl).map goneD := by
          unfold RS.lost goneD
          rw [List.filter_map, List.map_map, List.map_map]
          rfl
        rw [el2]
        have gl : (r'.gone.map goneD).length + ((RS.lost r'.places r'.here fl).map goneD).length ≤ sizeLine := by
          refine hsz _ ?_
          have t1 := ok1.tot
          have t2 := ok1.pl
          have t3 := RS.lost_len r'.places r'.here fl
          rw [eo] at t1
          simp only [RS.cnt, List.map_cons, List.sum_cons] at t1
          rw [List.length_map, List.length_map]
          omega
        refine ⟨_, _, ext_cell (up_ne (Ne.symm R.fg) R.hg) rfl gl, 0, by decide, kt, r'.drop fl (kt.map (·.2)), some (D.ref kk), some (D.int fl.2), R2, rfl, .inr ⟨rfl, ?_, ?_⟩⟩
        · rw [RS.trim_drop eo hlt]
        · have := ok1.o1
          rw [eo] at this
          show (kt.map (·.2)).length ≤ M
          rw [List.length_cons] at this
          omega
  · rename_i hle
    have hle2 : r'.old.length ≤ M := by omega
    have er : r' = RS.trim M t := by
      rcases h with ⟨_, rfl⟩ | ⟨_, e, _⟩
      · rw [RS.trim_keep hle2]
      · exact e
    subst er
    exact k f2 c2 ks s3 _ _ R
theorem RS.trim_fill (M : Nat) (r : RS) : (RS.trim M r).fill = r.fill := by
  unfold RS.trim
  split
  · split <;> rfl
  · rfl
theorem RS.trim_here (M : Nat) (r : RS) : (RS.trim M r).here = r.here := by
  unfold RS.trim
  split
  · split <;> rfl
  · rfl
theorem RS.trim_turns (M : Nat) (r : RS) : (RS.trim M r).turns = r.turns := by
  unfold RS.trim
  split
  · split <;> rfl
  · rfl
theorem filter_yes {α : Type} (xs : List α) : xs.filter (fun _ => true) = xs := List.filter_eq_self.mpr fun _ _ => rfl
theorem run_add {st s : Store} {f p g c M i : Nat} {ks : List (Nat × (List Int × Int))} {r : RS} {here : Int} {P : Store → Prop} (R : RunC st s f p g c ks r) (hok : RS.Ok M i r) (hi : i ≤ 1001) (hh : here = r.here)
    (k : P ((s.set c (.lst (r.cur.map .int ++ [.int r.places.length]))).set p (.lst (r.places.map .int ++ [.int r.here])))) :
    ∃ z, dIx (.ref f) (.int (-1)) s = some z ∧ ∃ z_1, dIx z (.int 0) s = some z_1 ∧ tyD "list" s z_1 ∧ EvF fLen [.ref p] s fun x s1 => ∃ d s3, mAppend z_1 [x] s1 = some (d, s3) ∧ tyD "list" s3 (.ref p) ∧ ∃ d s3_1, mAppend (.ref p) [.int here] s3 = some (d, s3_1) ∧ P s3_1 := by
  subst hh
  have t1 := hok.tot
  have t2 := hok.pl
  have hsz : ∀ n : Nat, n ≤ 2000 → n < sizeLine := fun n h => Nat.lt_of_le_of_lt h (by decide)
  refine ⟨_, (ix_cell R.hf).trans (atI_last _ _), .ref c, rfl, tyD_cell R.hc, ?_⟩
  rw [ev_len_cell R.hp, List.length_map]
  refine ⟨_, _, app_cell R.hc (hsz _ (by rw [List.length_map]; omega)), tyD_cell (up_ne R.pc R.hp), _, _, app_cell (up_ne R.pc R.hp) (hsz _ (by rw [List.length_map]; omega)), k⟩
theorem ev_run {st : Store} {S : Int} {ls : List Int} {M : Nat} {es : List Ev} {Q : D → Store → Prop} (hl : es.length ≤ 1000)
    (k : ∀ X Y : List Int, X = isort ((RS.run S M es).gone.map Prod.fst) → Y = isort (((RS.run S M es).gone.filter Prod.snd).map Prod.fst) →
      Q (.tup [.tup (((RS.run S M es).old.map fun f => D.tup (f.1.map .int)) ++ [.tup ((RS.run S M es).cur.map .int)]), .tup (X.map .int), .tup (Y.map .int), .int (RS.run S M es).turns]) st) : EvF mf_Lrun [.tup [.int S, .tup (ls.map .int)], .int M, .tup (es.map Ev.D)] st Q := by
  rw [mf_Lrun, ev_mkF]
  unfold mb_Lrun
  walk_at "ev"
  walk_at "st"
  refine for_inv (RunI st S ls M es) ?_ (fun _ _ _ _ _ => trivial) ?_ ?_
  · refine ⟨st.length + 1, st.length + 2, st.length + 3, st.length, [], none, none, none, none, none, none, none, ⟨Ext.refl st |>.app _, rfl, fun _ h => absurd h (by simp), ?_, ?_, ?_, ?_, by omega, by omega, by omega, by omega, by omega, by omega, by omega, by omega, by omega, by omega⟩, ?_⟩
    · exact up_at (i := 1) rfl
    · exact up_at (i := 2) rfl
    · exact up_at (i := 3) rfl
    · exact up_at (i := 0) rfl
    · rfl
  · generalize thenS _ (outF st Q) = QR
    rintro i hi env s ⟨f, p, g, c, ks, x9, x10, x11, x12, x13, x14, x15, R, rfl⟩
    rw [List.length_map] at hi
    have hok := RS.Ok.run S M (es.take i)
    rw [List.length_take, Nat.min_eq_left (Nat.le_of_lt hi)] at hok
    have hnx : RS.run S M (es.take (i + 1)) = RS.step S M (RS.run S M (es.take i)) es[i] := by
      rw [take_at (List.getElem?_eq_getElem hi), RS.run_snoc]
    have fin : ∀ (f c : Nat) (ks : List (Nat × (List Int × Int))) (s : Store) (r' : RS) (x9 x10 x11 x12 x13 x14 x15 : Option D), RS.step S M (RS.run S M (es.take i)) es[i] = r' → RunC st s f p g c ks r' →
        RunI st S ls M es (i + 1) [some (.tup [.int S, .tup (ls.map .int)]), some (.int M), some (.tup (es.map Ev.D)), some (.ref f), some (.ref p), some (.ref g), some (.int r'.fill), some (.int r'.here), some (.int r'.turns), x9, x10, x11, x12, x13, x14, x15] s := by
      intro f c ks s r' x9 x10 x11 x12 x13 x14 x15 e R
      subst e
      exact ⟨f, p, g, c, ks, x9, x10, x11, x12, x13, x14, x15, hnx ▸ R, by rw [hnx]⟩
    refine ⟨_, rfl, ?_⟩
    rw [List.getElem_map]
    generalize es[i] = e at fin ⊢
    generalize RS.run S M (es.take i) = r at R hok fin ⊢
    have roll := fun QS x9 x10 x11 x12 x13 x14 x15 => run_roll (S := S) (ls := ls) (es := es) (QS := QS) (x9 := x9) (x10 := x10) (x11 := x11) (x12 := x12) (x13 := x13) (x14 := x14) (x15 := x15) R hok (by omega)
    generalize (sSeq (sPar3 3 6 8 (aCons (eOpM dCat (eVar 3) (eLstM (aCons (eTup (aCons (eLstM aNil) (aCons (eVar 7) aNil))) aNil))) (aCons (eC (.int 0)) (aCons (eOp dAdd (eVar 8) (eC (.int 1))) aNil)))) (sWhile 100000 (bE (eOp dGt (eCall fLen (aCons (eVar 3) aNil)) (eOp dAdd (eVar 1) (eC (.int 1))))) (sSeq (sAsg (eBM "list" mPop (eVar 3) (aCons (eC (.int 0)) aNil)) (gTp 2 (gsCons (gNm 10) (gsCons (gNm 11) gsNil)))) (sDrop (eBM "list" mExtend (eVar 5) (aCons (eLc (iSeq (eVar 10)) (gNm 14) (bE (eOp dEq (eOp dIx (eVar 4) (eVar 14)) (eVar 7))) (eTup (aCons (eVar 14) (aCons (eOp dEq (eVar 11) (eVar 7)) aNil))) [14]) aNil)))))) = B1 at roll ⊢
    unfold runEnv at roll
    cases e with
    | look =>
      simp only [Ev.D]
      walk_at "ev"
      exact fin f c ks s _ _ _ _ _ _ _ _ rfl (R.look _)
    | rot =>
      simp only [Ev.D]
      walk_at "ev"
      refine roll _ _ _ _ _ _ _ _ fun f c ks s x10 x11 R' => ?_
      walk_at "ev"
      have z := fin f c ks s (RS.trim M r.turn) (some (.str "rotate")) x10 x11 x12 x13 x14 x15 rfl R'
      rw [RS.trim_fill, RS.trim_here, RS.trim_turns] at z
      exact z
    | line l =>
      simp only [Ev.D]
      walk_at "ev"
      split
      · rename_i hgt
        refine roll _ _ _ _ _ _ _ _ fun f c ks s x10 x11 R' => ?_
        walk_at "ev"
        have ok2 := hok.turn.trim
        have h1 := fin f c ks _ ((RS.trim M r.turn).add l) (some (.int l)) x10 x11 x12 x13 x14 x15 (show RS.add l (if S < r.fill + l then RS.trim M r.turn else r) = _ by rw [if_pos hgt]) (R'.add l)
        have e4 : ((RS.trim M r.turn).add l).fill = 0 + l := by show (RS.trim M r.turn).fill + l = _; rw [RS.trim_fill]; rfl
        have e5 : ((RS.trim M r.turn).add l).here = r.here := by show (RS.trim M r.turn).here = _; rw [RS.trim_here]; rfl
        have e6 : ((RS.trim M r.turn).add l).turns = r.turns + 1 := by show (RS.trim M r.turn).turns = _; rw [RS.trim_turns]; rfl
        rw [e4, e5, e6] at h1
        have e7 : (RS.trim M r.turn).here = r.here := by rw [RS.trim_here]; rfl
        exact run_add R' ok2 (by omega) e7.symm h1
      · rename_i hle
        have h1 := fin f c ks _ (r.add l) (some (.int l)) x10 x11 x12 x13 x14 x15 (show RS.add l (if S < r.fill + l then RS.trim M r.turn else r) = _ by rw [if_neg hle]) (R.add l)
        exact run_add R hok (by omega) rfl h1
  · rintro env s ⟨f, p, g, c, ks, x9, x10, x11, x12, x13, x14, x15, R, rfl⟩
    have hok := RS.Ok.run S M es
    rw [List.length_map, List.take_length] at R
    simp only [List.length_map, List.take_length]
    generalize RS.run S M es = r at R hok k ⊢
    have hsz : ∀ n : Nat, n ≤ 2000 → n ≤ sizeLine := fun n h => Nat.le_trans h (by decide)
    have t1 := hok.tot
    have t2 := hok.pl
    have gl : ∀ p : Int × Bool → Bool, (r.gone.filter p).length ≤ 2000 := fun p => Nat.le_trans (List.length_filter_le _ _) (by omega)
    have kl : ks.length = r.old.length := by rw [← R.old, List.length_map]
    have o2 := hok.o2
    walk_at "ev"
    refine ⟨_, R.hg, ?_⟩
    refine lc_map (fun d => match d with | .tup [_, .bl b] => b | _ => false) (fun d => match d with | .tup [x, _] => x | _ => .non) R.hg ?_ ?_
    · intro d hd
      obtain ⟨x, hx, rfl⟩ := List.mem_map.mp hd
      refine ⟨_, rfl, ?_⟩
      walk_at "ev"
      exact ⟨rfl, fun _ => rfl⟩
    have e1 : (((r.gone.map goneD).filter fun d => match d with | .tup [_, .bl b] => b | _ => false).map fun d => match d with | .tup [x, _] => x | _ => .non) = ((r.gone.filter Prod.snd).map Prod.fst).map D.int := by
      rw [List.filter_map, List.map_map, List.map_map]
      rfl
    rw [e1]
    refine ⟨hsz _ (by rw [List.length_map, List.length_map]; exact gl _), _, R.hf, ?_⟩
    refine lc_map (fun _ => true) (fun d => match d with | .tup [.ref k, _] => (match s[k]? with | some (.lst xs) => .tup xs | _ => .non) | _ => .non) R.hf ?_ ?_
    · intro d hd
      rcases List.mem_append.mp hd with q | q
      · obtain ⟨x, hx, rfl⟩ := List.mem_map.mp q
        obtain ⟨e, _⟩ := R.hk x hx
        refine ⟨_, rfl, ?_⟩
        walk_at "ev"
        rw [ev_tuple_cell e]
        refine fun _ => ⟨rfl, ?_⟩
        show _ = (match s[x.1]? with | some (.lst xs) => D.tup xs | _ => .non)
        rw [e]
      · rw [List.mem_singleton.mp q]
        refine ⟨_, rfl, ?_⟩
        walk_at "ev"
        rw [ev_tuple_cell R.hc]
        refine fun _ => ⟨rfl, ?_⟩
        rw [R.hc]
    have e2 : (((ks.map fileD ++ [D.tup [.ref c, .int r.beg]]).filter fun _ => true).map fun d => match d with | .tup [.ref k, _] => (match s[k]? with | some (.lst xs) => D.tup xs | _ => .non) | _ => .non) = (r.old.map fun f => D.tup (f.1.map .int)) ++ [.tup (r.cur.map .int)] := by
      rw [filter_yes, List.map_append, List.map_map, ← R.old, List.map_map]
      congr 1
      · refine List.map_congr_left fun x hx => ?_
        obtain ⟨e, _⟩ := R.hk x hx
        show (match s[x.1]? with | some (.lst xs) => D.tup xs | _ => .non) = _
        rw [e]; rfl
      · show [match s[c]? with | some (.lst xs) => D.tup xs | _ => .non] = _
        rw [R.hc]
    rw [e2]
    refine ⟨hsz _ (by simp; omega), _, R.hg, ?_⟩
    refine lc_map (fun _ => true) (fun d => match d with | .tup [x, _] => x | _ => .non) R.hg ?_ ?_
    · intro d hd
      obtain ⟨x, hx, rfl⟩ := List.mem_map.mp hd
      refine ⟨_, rfl, ?_⟩
      walk_at "ev"
      exact fun _ => rfl
    have e3 : (((r.gone.map goneD).filter fun _ => true).map fun d => match d with | .tup [x, _] => x | _ => .non) = (r.gone.map Prod.fst).map D.int := by
      rw [filter_yes, List.map_map, List.map_map]
      rfl
    rw [e3]
    refine ⟨hsz _ (by rw [List.length_map, List.length_map]; omega), ?_⟩
    rw [ev_sorted_lst]
    walk_at "ev"
    rw [ev_sorted_lst]
    walk_at "ev"
    refine fin_tree ?_ R.ext.close ?_
    · refine blw_tup (blws_cons (blw_tup (blws_all fun d hd => ?_)) (blws_cons (blw_tup blws_ints) (blws_cons (blw_tup blws_ints) (blws_cons blw_int blws_nil))))
      rcases List.mem_append.mp hd with q | q
      · obtain ⟨x, _, rfl⟩ := List.mem_map.mp q
        exact blw_tup blws_ints
      · rw [List.mem_singleton.mp q]
        exact blw_tup blws_ints
    · rw [R.ext.cut]
      exact k _ _ rfl rfl
end My

namespace My
open PySem PySem.Spec PyProof.Rows L2
/-! ### repr of trees -/
structure RP (n k : Nat) (d : D) (p : PyData) : Prop where
  py : d.py = some p
  tr : d.blw 0 = true
  tx : Tx n k p
  lay : p.canLay0 = true
theorem RP.mono {n m k l : Nat} {d : D} {p : PyData} (h : RP n k d p) (h1 : n ≤ m) (h2 : k ≤ l) : RP m l d p := ⟨h.py, h.tr, h.tx.mono h1 h2, h.lay⟩
theorem RP.int {i : Int} (n : Nat) (h : i.natAbs < 10 ^ n) (h0 : 0 < n := by decide) (h1 : n ≤ 500 := by decide) : RP (n + 1) 0 (.int i) (.int i) := ⟨by simp only [D.py], blw_int, Tx.int h0 h1 h, rfl⟩
theorem RP.bl {b : Bool} : RP 5 0 (.bl b) (.bool b) := ⟨by simp only [D.py], blw_bl, Tx.bool, rfl⟩
theorem RP.non : RP 4 0 .non .none := ⟨by simp only [D.py], blw_non, Tx.none, rfl⟩
theorem lays_all : ∀ {ps : List PyData}, (∀ p ∈ ps, p.canLay0 = true) → PyData.canLayAll0 ps = true
  | [], _ => rfl
  | p :: ps, h => by
    simp only [PyData.canLayAll0, Bool.and_eq_true]
    exact ⟨h p List.mem_cons_self, lays_all fun q hq => h q (List.mem_cons_of_mem _ hq)⟩
theorem pys_map {α : Type} {f : α → D} {g : α → PyData} : ∀ {xs : List α}, (∀ x ∈ xs, (f x).py = some (g x)) → D.pys (xs.map f) = some (xs.map g)
  | [], _ => by simp only [List.map_nil, D.pys]
  | x :: xs, h => by simp only [List.map_cons, D.pys, h x List.mem_cons_self, pys_map fun y hy => h y (List.mem_cons_of_mem _ hy), Option.map_some]
theorem RP.lstM {α : Type} {f : α → D} {g : α → PyData} {xs : List α} {n k m : Nat} (h : ∀ x ∈ xs, RP n k (f x) (g x)) (hm : xs.length ≤ m) : RP (m * (n + 2) + 2) (k + 1) (.lst (xs.map f)) (.list (xs.map g)) := by
  refine ⟨by simp only [D.py, pys_map fun x hx => (h x hx).py, Option.map_some], blw_lst (blws_all fun d hd => ?_), Tx.list (fun d hd => ?_) (by rw [List.length_map]; exact hm), by
    simp only [PyData.canLay0]
    refine lays_all fun p hp => ?_
    obtain ⟨x, hx, rfl⟩ := List.mem_map.mp hp
    exact (h x hx).lay⟩
  · obtain ⟨x, hx, rfl⟩ := List.mem_map.mp hd
    exact (h x hx).tr
  · obtain ⟨x, hx, rfl⟩ := List.mem_map.mp hd
    exact (h x hx).tx
theorem RP.tupM {α : Type} {f : α → D} {g : α → PyData} {xs : List α} {n k m : Nat} (h : ∀ x ∈ xs, RP n k (f x) (g x)) (hm : xs.length ≤ m) : RP (m * (n + 2) + 3) (k + 1) (.tup (xs.map f)) (.tuple (xs.map g)) := by
  refine ⟨by simp only [D.py, pys_map fun x hx => (h x hx).py, Option.map_some], blw_tup (blws_all fun d hd => ?_), Tx.tuple (fun d hd => ?_) (by rw [List.length_map]; exact hm), by
    simp only [PyData.canLay0]
    refine lays_all fun p hp => ?_
    obtain ⟨x, hx, rfl⟩ := List.mem_map.mp hp
    exact (h x hx).lay⟩
  · obtain ⟨x, hx, rfl⟩ := List.mem_map.mp hd
    exact (h x hx).tr
  · obtain ⟨x, hx, rfl⟩ := List.mem_map.mp hd
    exact (h x hx).tx
theorem RP.ev {e : Ev} {ls : List Int} (h : Ev.ok ls e) (hl : ∀ l ∈ ls, 1 ≤ l ∧ l ≤ 100) : RP 62 0 e.D e.d := by
  refine ⟨?_, by cases e <;> simp only [Ev.D, D.blw], Ev.tx h hl, by cases e <;> first | rfl | decide +kernel⟩
  cases e <;> simp only [Ev.D, D.py, Ev.d]
/-- all of a list -/
inductive RPs (n k : Nat) : List D → List PyData → Prop
  | nil : RPs n k [] []
  | cons {d : D} {p : PyData} {ds : List D} {ps : List PyData} : RP n k d p → RPs n k ds ps → RPs n k (d :: ds) (p :: ps)
theorem RPs.py {n k : Nat} : ∀ {ds : List D} {ps : List PyData}, RPs n k ds ps → D.pys ds = some ps ∧ D.blws 0 ds = true ∧ (∀ p ∈ ps, Tx n k p) ∧ ps.length = ds.length ∧ PyData.canLayAll0 ps = true
  | _, _, .nil => ⟨by simp only [D.pys], blws_nil, fun _ h => absurd h (by simp), rfl, rfl⟩
  | _, _, .cons h t => by
    obtain ⟨h1, h2, h3, h4, h5⟩ := RPs.py t
    exact ⟨by simp only [D.pys, h.py, h1, Option.map_some], blws_cons h.tr h2, fun q hq => (List.mem_cons.mp hq).elim (fun e => e ▸ h.tx) (h3 q), by simp [h4], by simp only [PyData.canLayAll0, h.lay, h5, Bool.and_self]⟩
theorem RPs.lst {n k : Nat} {ds : List D} {ps : List PyData} (h : RPs n k ds ps) : RP (ds.length * (n + 2) + 2) (k + 1) (.lst ds) (.list ps) := by
  obtain ⟨h1, h2, h3, h4, h5⟩ := h.py
  exact ⟨by simp only [D.py, h1, Option.map_some], blw_lst h2, Tx.list h3 (Nat.le_of_eq h4), by simp only [PyData.canLay0]; exact h5⟩
theorem RPs.tup {n k : Nat} {ds : List D} {ps : List PyData} (h : RPs n k ds ps) : RP (ds.length * (n + 2) + 3) (k + 1) (.tup ds) (.tuple ps) := by
  obtain ⟨h1, h2, h3, h4, h5⟩ := h.py
  exact ⟨by simp only [D.py, h1, Option.map_some], blw_tup h2, Tx.tuple h3 (Nat.le_of_eq h4), by simp only [PyData.canLay0]; exact h5⟩
theorem view_tree {st : Store} {d : D} (h : d.blw 0 = true) : view st d = some d := fz_blw (n := 0) (fun i hi => absurd hi (Nat.not_lt_zero _)) d h
theorem ev_repr {n k : Nat} {d : D} {p : PyData} {st : Store} {Q : D → Store → Prop} (h : RP n k d p) (hn : n ≤ 16777216) (hk : k ≤ 60) (q : Q (.str p.shown) st) : EvF fRepr [d] st Q := by
  refine ⟨.str p.shown, st, ?_, q⟩
  have t := h.tx.mono hn hk
  simp only [fRepr, ro, pyOf, view_tree h.tr, Option.bind_some, h.py]
  rw [if_pos t]
  rfl
theorem RP.shaped {n k : Nat} {d : D} {p : PyData} (h : RP n k d p) (hk : k ≤ 64) : SeqAt.shaped p = true := by
  unfold SeqAt.shaped
  rw [h.lay, Bool.true_and, decide_eq_true_eq]
  exact Nat.le_trans h.tx.dp hk
theorem eq_tup {n k m l : Nat} {xs ys : List D} {p q : PyData} {st : Store} (h : RP n k (.tup xs) p) (h2 : RP m l (.tup ys) q) (hk : k ≤ 64 := by decide) (hl : l ≤ 64 := by decide) : dEq (.tup xs) (.tup ys) st = some (.bl (PyData.eqv p q)) := by
  simp only [dEq, eqB, pyOf, view_tree h.tr, view_tree h2.tr, Option.bind_some, h.py, h2.py, h.shaped hk, h2.shaped hl, and_self, if_true, Option.map_some]
theorem eq_lst {n k m l : Nat} {xs ys : List D} {p q : PyData} {st : Store} (h : RP n k (.lst xs) p) (h2 : RP m l (.lst ys) q) (hk : k ≤ 64 := by decide) (hl : l ≤ 64 := by decide) : dEq (.lst xs) (.lst ys) st = some (.bl (PyData.eqv p q)) := by
  simp only [dEq, eqB, pyOf, view_tree h.tr, view_tree h2.tr, Option.bind_some, h.py, h2.py, h.shaped hk, h2.shaped hl, and_self, if_true, Option.map_some]
theorem ne_tup {n k m l : Nat} {xs ys : List D} {p q : PyData} {st : Store} (h : RP n k (.tup xs) p) (h2 : RP m l (.tup ys) q) (hk : k ≤ 64 := by decide) (hl : l ≤ 64 := by decide) : dNe (.tup xs) (.tup ys) st = some (.bl (!PyData.eqv p q)) := by
  simp only [dNe, eqB, pyOf, view_tree h.tr, view_tree h2.tr, Option.bind_some, h.py, h2.py, h.shaped hk, h2.shaped hl, and_self, if_true, Option.map_some]
theorem ne_lst {n k m l : Nat} {xs ys : List D} {p q : PyData} {st : Store} (h : RP n k (.lst xs) p) (h2 : RP m l (.lst ys) q) (hk : k ≤ 64 := by decide) (hl : l ≤ 64 := by decide) : dNe (.lst xs) (.lst ys) st = some (.bl (!PyData.eqv p q)) := by
  simp only [dNe, eqB, pyOf, view_tree h.tr, view_tree h2.tr, Option.bind_some, h.py, h2.py, h.shaped hk, h2.shaped hl, and_self, if_true, Option.map_some]
theorem RP.refl {n k : Nat} {d : D} {p : PyData} (h : RP n k d p) : PyData.eqv p p = true := SeqAt.eqv_refl p h.lay
theorem RP.ints {ns : List Int} (n m : Nat) (h : ∀ i ∈ ns, i.natAbs < 10 ^ n) (hm : ns.length ≤ m) (h0 : 0 < n := by decide) (h1 : n ≤ 500 := by decide) : RP (m * (n + 1 + 2) + 3) 1 (.tup (ns.map .int)) (.tuple (ns.map .int)) := RP.tupM (fun i hi => RP.int n (h i hi) h0 h1) hm
theorem RP.intsL {ns : List Int} (n m : Nat) (h : ∀ i ∈ ns, i.natAbs < 10 ^ n) (hm : ns.length ≤ m) (h0 : 0 < n := by decide) (h1 : n ≤ 500 := by decide) : RP (m * (n + 1 + 2) + 2) 1 (.lst (ns.map .int)) (.list (ns.map .int)) := RP.lstM (fun i hi => RP.int n (h i hi) h0 h1) hm
/-- a tuple of whole numbers beside another -/
theorem eq_ints {ns ms : List Int} {st : Store} : dEq (.tup (ns.map .int)) (.tup (ms.map .int)) st = some (.bl (decide (ns = ms))) := by
  have py : ∀ zs : List Int, (D.tup (zs.map .int)).py = some (.tuple (zs.map .int)) := fun zs => by simp only [D.py, pys_map (fun x _ => show (D.int x).py = some (PyData.int x) by simp only [D.py]), Option.map_some]
  have sh : ∀ zs : List Int, SeqAt.shaped (.tuple (zs.map .int)) = true := fun zs => by
    unfold SeqAt.shaped
    rw [Bool.and_eq_true, decide_eq_true_eq]
    refine ⟨?_, ?_⟩
    · simp only [PyData.canLay0]
      refine lays_all fun p hp => ?_
      obtain ⟨x, _, rfl⟩ := List.mem_map.mp hp
      rfl
    · simp only [PyData.depth]
      refine Nat.le_trans (Nat.succ_le_succ (depthAll_le (k := 0) _ fun p hp => ?_)) (by decide)
      obtain ⟨x, _, rfl⟩ := List.mem_map.mp hp
      simp only [PyData.depth]
      exact Nat.le_refl _
  simp only [dEq, eqB, pyOf, view_tree (blw_tup blws_ints), Option.bind_some, py, sh, and_self, if_true, Option.map_some, PyData.eqv, PySem.W.ked_eqvAll]
/-- a list of whole numbers beside another -/
theorem eq_intsL {ns ms : List Int} {st : Store} : dEq (.lst (ns.map .int)) (.lst (ms.map .int)) st = some (.bl (decide (ns = ms))) := by
  have py : ∀ zs : List Int, (D.lst (zs.map .int)).py = some (.list (zs.map .int)) := fun zs => by simp only [D.py, pys_map (fun x _ => show (D.int x).py = some (PyData.int x) by simp only [D.py]), Option.map_some]
  have sh : ∀ zs : List Int, SeqAt.shaped (.list (zs.map .int)) = true := fun zs => by
    unfold SeqAt.shaped
    rw [Bool.and_eq_true, decide_eq_true_eq]
    refine ⟨?_, ?_⟩
    · simp only [PyData.canLay0]
      refine lays_all fun p hp => ?_
      obtain ⟨x, _, rfl⟩ := List.mem_map.mp hp
      rfl
    · simp only [PyData.depth]
      refine Nat.le_trans (Nat.succ_le_succ (depthAll_le (k := 0) _ fun p hp => ?_)) (by decide)
      obtain ⟨x, _, rfl⟩ := List.mem_map.mp hp
      simp only [PyData.depth]
      exact Nat.le_refl _
  simp only [dEq, eqB, pyOf, view_tree (blw_lst blws_ints), Option.bind_some, py, sh, and_self, if_true, Option.map_some, PyData.eqv, PySem.W.ked_eqvAll]
theorem eq_ints0 {ns : List Int} {st : Store} : dEq (.tup (ns.map .int)) (.tup []) st = some (.bl (decide (ns = []))) := eq_ints (ms := [])
/-! ### max with default -/
theorem ev_maxD {ns : List Int} {d : D} {st : Store} {Q : D → Store → Prop} (q : Q ((ns.max?.map D.int).getD d) st) : EvF (fun _ s => fMaxD [.lst (ns.map D.int)] [d] s) [] st Q := by
  refine ⟨_, st, ?_, q⟩
  simp only [fMaxD, seqL, intsOf_map]
  cases ns.max? <;> rfl
/-! ### cells told -/
theorem lkc_lst {st : Store} {n k i : Nat} {ds : List D} (h : st[i]? = some (.lst ds)) (hn : n ≤ i) (hd : D.blws 0 ds = true) : lkc st n (k + 1) i = some (.lst ds) := by
  simp only [lkc, if_neg (Nat.not_lt.mpr hn), h, fzs_blw (n := 0) (fun i hi => absurd hi (Nat.not_lt_zero _)) ds hd, Option.map_some]
theorem fin_to {st s1 : Store} {r r' : D} {Q : D → Store → Prop} (h : fz (lkc s1 st.length 3) r = some r') (c : closeOk st s1) (q : Q r' (s1.take st.length)) : EvF (fun _ s => fin st r s) [] s1 Q := by
  refine ⟨r', s1.take st.length, ?_, q⟩
  show fin st r s1 = _
  unfold fin
  rw [h]
  dsimp only
  rw [if_pos c]
end My

namespace My
open PySem L2

/-! ### histories: fills and rotations -/
def rotd (S fill : Int) : Ev → Bool
  | .line l => decide (S < fill + l)
  | .rot => true
  | .look => false
def fillB (S fill : Int) (e : Ev) : Int := (if rotd S fill e = true then 0 else fill) + e.n
def rot2 (S : Int) (s : Int × Int) (e : Ev) : Int × Int := (fillB S s.1 e, s.2 + if rotd S s.1 e = true then 1 else 0)
def rots (S : Int) (es : List Ev) : Int × Int := es.foldl (rot2 S) (0, 0)
theorem rots_snoc (S : Int) (es : List Ev) (e : Ev) : rots S (es ++ [e]) = rot2 S (rots S es) e := by
  unfold rots
  rw [List.foldl_append]
  rfl
theorem trim_fill (M : Nat) (r : RS) : (RS.trim M r).fill = r.fill ∧ (RS.trim M r).turns = r.turns := by
  unfold RS.trim
  split
  · split <;> exact ⟨rfl, rfl⟩
  · exact ⟨rfl, rfl⟩
theorem run_step (S : Int) (M : Nat) (r : RS) (e : Ev) : ((RS.step S M r e).fill, (RS.step S M r e).turns) = rot2 S (r.fill, r.turns) e := by
  cases e with
  | look => simp [RS.step, rot2, fillB, rotd, Ev.n]
  | rot =>
    have h := trim_fill M r.turn
    show ((RS.trim M r.turn).fill, (RS.trim M r.turn).turns) = _
    rw [h.1, h.2]
    simp [RS.turn, rot2, fillB, rotd, Ev.n]
  | line l =>
    have h := trim_fill M r.turn
    show ((RS.add l _).fill, (RS.add l _).turns) = _
    by_cases c : S < r.fill + l
    · rw [if_pos c]
      show ((RS.trim M r.turn).fill + l, (RS.trim M r.turn).turns) = _
      rw [h.1, h.2]
      simp [RS.turn, rot2, fillB, rotd, Ev.n, c]
    · rw [if_neg c]
      show (r.fill + l, r.turns) = _
      simp [rot2, fillB, rotd, Ev.n, c]
theorem run_rots (S : Int) (M : Nat) (es : List Ev) : ((RS.run S M es).fill, (RS.run S M es).turns) = rots S es := by
  have : ∀ (es : List Ev) (r : RS), ((es.foldl (RS.step S M) r).fill, (es.foldl (RS.step S M) r).turns) = es.foldl (rot2 S) (r.fill, r.turns) := by
    intro es
    induction es with
    | nil => intro r; rfl
    | cons e es ih =>
      intro r
      rw [List.foldl_cons, List.foldl_cons, ih, run_step]
  exact this es RS.init
theorem rot2_look (S : Int) (s : Int × Int) : rot2 S s .look = s := by
  simp [rot2, fillB, rotd, Ev.n]
def bare (es : List Ev) : List Ev := es.filter fun e => decide (e ≠ .look)
theorem rots_bare (S : Int) (es : List Ev) : rots S (bare es) = rots S es := by
  have : ∀ (es : List Ev) (s : Int × Int), (bare es).foldl (rot2 S) s = es.foldl (rot2 S) s := by
    intro es
    induction es with
    | nil => intro s; rfl
    | cons e es ih =>
      intro s
      unfold bare at ih ⊢
      by_cases h : e = .look
      · subst h
        rw [List.filter_cons_of_neg (by simp), ih, List.foldl_cons, rot2_look]
      · rw [List.filter_cons_of_pos (by simpa using h), List.foldl_cons, List.foldl_cons, ih]
  exact this es (0, 0)
theorem rots_rot (S : Int) (n : Nat) : (rots S (List.replicate n .rot)).2 = n := by
  induction n with
  | zero => rfl
  | succ n ih =>
    rw [List.replicate_succ', rots_snoc]
    show (rots S (List.replicate n .rot)).2 + 1 = _
    rw [ih]
    omega
theorem lines_at {S l : Int} (h1 : 1 ≤ l) (h2 : l ≤ S) (n : Nat) : ∃ c k : Nat, n + 1 = c * (S / l).toNat + k ∧ 1 ≤ k ∧ k ≤ (S / l).toNat ∧ rots S (List.replicate (n + 1) (.line l)) = ((k : Int) * l, (c : Int)) := by
  have q1 : 1 ≤ S / l := (Int.le_ediv_iff_mul_le (by omega)).mpr (by omega)
  induction n with
  | zero =>
    refine ⟨0, 1, by omega, by omega, by omega, ?_⟩
    have : ¬ S < 0 + l := by omega
    simp [rots, List.replicate_succ, rot2, fillB, rotd, Ev.n, h2]
  | succ n ih =>
    obtain ⟨c, k, e, k1, k2, er⟩ := ih
    rw [List.replicate_succ', rots_snoc, er]
    have key : (S < (k : Int) * l + l) ↔ k = (S / l).toNat := by
      have a := Int.le_ediv_iff_mul_le (c := l) (a := ((k : Int) + 1)) (b := S) (by omega)
      rw [Int.add_mul, Int.one_mul] at a
      constructor
      · intro h
        by_cases z : (k : Int) + 1 ≤ S / l
        · exact absurd (a.mp z) (by omega)
        · omega
      · intro h
        by_cases z : (k : Int) * l + l ≤ S
        · have := a.mpr z
          omega
        · omega
    by_cases hk : k = (S / l).toNat
    · refine ⟨c + 1, 1, ?_, by omega, by omega, ?_⟩
      · rw [Nat.succ_mul]; omega
      · simp [rot2, fillB, rotd, Ev.n, key.mpr hk]
    · refine ⟨c, k + 1, by omega, by omega, by omega, ?_⟩
      have : ¬ S < (k : Int) * l + l := fun z => hk (key.mp z)
      simp [rot2, fillB, rotd, Ev.n, this]
      rw [Int.add_mul]; omega
/-- of one line, so many times -/
theorem rots_lines {S l : Int} (h1 : 1 ≤ l) (h2 : l ≤ S) (n : Nat) : (rots S (List.replicate n (.line l))).2 = if (n : Int) > 0 then ((n : Int) - 1) / (S / l) else 0 := by
  cases n with
  | zero => rfl
  | succ n =>
    obtain ⟨c, k, e, k1, k2, er⟩ := lines_at h1 h2 n
    rw [er, if_pos (by omega)]
    have q1 : 1 ≤ S / l := (Int.le_ediv_iff_mul_le (by omega)).mpr (by omega)
    generalize hq : (S / l).toNat = q at *
    have eq : S / l = (q : Int) := by omega
    rw [eq]
    have e2 : (((n + 1 : Nat) : Int) - 1) = ((k : Int) - 1) + (c : Int) * q := by
      rw [e]
      push_cast
      omega
    rw [e2, Int.add_mul_ediv_right _ _ (by omega), Int.ediv_eq_zero_of_lt (by omega) (by omega)]
    simp
theorem rots_looked (S l : Int) (n : Nat) : rots S (List.replicate n [Ev.look, .line l]).flatten = rots S (List.replicate n (.line l)) := by
  rw [← rots_bare]
  congr 1
  induction n with
  | zero => rfl
  | succ n ih =>
    rw [List.replicate_succ, List.replicate_succ, List.flatten_cons]
    unfold bare at ih ⊢
    rw [List.filter_append, ih]
    simp
theorem rots_bound (S : Int) (es : List Ev) : 0 ≤ (rots S es).2 ∧ (rots S es).2 ≤ es.length := by
  have : ∀ (es : List Ev) (s : Int × Int), s.2 ≤ (es.foldl (rot2 S) s).2 ∧ (es.foldl (rot2 S) s).2 ≤ s.2 + es.length := by
    intro es
    induction es with
    | nil => intro s; exact ⟨Int.le_refl _, by simp⟩
    | cons e es ih =>
      intro s
      obtain ⟨h1, h2⟩ := ih (rot2 S s e)
      have h3 : s.2 ≤ (rot2 S s e).2 ∧ (rot2 S s e).2 ≤ s.2 + 1 := by
        unfold rot2
        dsimp only
        split <;> omega
      rw [List.foldl_cons, List.length_cons]
      omega
  have h := this es (0, 0)
  exact ⟨h.1, by have := h.2; unfold rots; omega⟩
theorem ev_at {es : List Ev} {i : Nat} {v : V} (hi : (es.map Ev.v)[i]? = some v) : ∃ e, es[i]? = some e ∧ v = e.v := by
  rw [List.getElem?_map] at hi
  cases h : es[i]? with
  | none => rw [h] at hi; cases hi
  | some e => rw [h] at hi; exact ⟨e, rfl, (Option.some.inj hi).symm⟩
theorem rep_ev (n : Nat) (es : List Ev) : (List.replicate n (es.map Ev.v)).flatten = ((List.replicate n es).flatten).map Ev.v := by
  rw [List.map_flatten, List.map_replicate]
theorem rep_one {α : Type} (n : Nat) (e : α) : (List.replicate n [e]).flatten = List.replicate n e := by
  induction n with
  | zero => rfl
  | succ n ih => rw [List.replicate_succ, List.flatten_cons, ih, List.replicate_succ]; rfl
theorem joinI {G : Prop} (Hy : Int → Prop) (P : Int → Prop) (rest : ∀ x, Hy x → P x) (use : (∀ x, Hy x → P x) → G) : G := use rest
def sp_isrot : Sp := fun vs H Q _ => ∃ (bk q : Addr) (S fill : Int) (e : Ev), vs = [.ref bk, .int fill, e.v] ∧ H bk = some (.tup [.int S, .ref q]) ∧ Q (.bl (rotd S fill e)) H
def sp_fillb : Sp := fun vs H Q _ => ∃ (bk q : Addr) (S fill : Int) (e : Ev), vs = [.ref bk, .int fill, e.v] ∧ H bk = some (.tup [.int S, .ref q]) ∧ Q (.int (fillB S fill e)) H
def sp_rots : Sp := fun vs H Q _ => ∃ (bk q t : Addr) (S : Int) (es : List Ev), vs = [.ref bk, .ref t] ∧ H bk = some (.tup [.int S, .ref q]) ∧ H t = some (.tup (es.map Ev.v)) ∧ ∀ H', Same H H' → Q (.int (rots S es).2) H'
end My

namespace My
open PySem L2

/-! ### the course of a history: for each line its stretch and file -/
structure CS where
  spots : List (Int × Int)
  borders : List Int
  fill : Int
  turned : Int
namespace CS
def init : CS := ⟨[], [0], 0, 0⟩
def step (S : Int) (c : CS) (e : Ev) : CS :=
  let t := c.turned + if rotd S c.fill e = true then 1 else 0
  { spots := (match e with | .line _ => c.spots ++ [((c.borders.length : Int) - 1, t)] | _ => c.spots), borders := (match e with | .look => c.borders ++ [t] | _ => c.borders), fill := fillB S c.fill e, turned := t }
def run (S : Int) (es : List Ev) : CS := es.foldl (step S) init
theorem run_snoc (S : Int) (es : List Ev) (e : Ev) : run S (es ++ [e]) = step S (run S es) e := by
  unfold run
  rw [List.foldl_append]
  rfl
/-- the borders and the end -/
def ends (c : CS) : List Int := c.borders ++ [c.turned]
def stretch (c : CS) (n : Nat) : Int := (c.spots.getD n (0, 0)).1
def file (c : CS) (n : Nat) : Int := (c.spots.getD n (0, 0)).2
def upto (c : CS) (st : Int) : Int := c.ends.getD (st.toNat + 1) 0
def since (c : CS) (st : Int) : Int := c.ends.getD st.toNat 0
/-- how often the log rotates behind line n in its stretch -/
def behind (c : CS) (n : Nat) (holds : Bool) : Int :=
  if holds = true ∧ c.file n = c.since (c.stretch n) then 0 else c.upto (c.stretch n) - c.file n
def numbers (c : CS) (p : Nat → Bool) : List Int := ((List.range c.spots.length).filter p).map Int.ofNat
def linesOf (c : CS) (j : Int) : List Int := c.numbers fun n => decide (c.file n = j)
def missed (c : CS) (kept : Int) (holds : Bool) : List Int := c.numbers fun n => decide (kept < c.behind n holds)
theorem mem_numbers {c : CS} {p : Nat → Bool} {x : Int} : x ∈ c.numbers p ↔ ∃ n : Nat, x = n ∧ n < c.spots.length ∧ p n = true := by
  unfold numbers
  rw [List.mem_map]
  constructor
  · rintro ⟨n, hn, rfl⟩
    rw [List.mem_filter, List.mem_range] at hn
    exact ⟨n, rfl, hn.1, hn.2⟩
  · rintro ⟨n, rfl, h1, h2⟩
    exact ⟨n, List.mem_filter.mpr ⟨List.mem_range.mpr h1, h2⟩, rfl⟩
theorem numbers_lt (c : CS) (p : Nat → Bool) : (c.numbers p).Pairwise (· < ·) := by
  unfold numbers
  rw [List.pairwise_map]
  exact (List.pairwise_lt_range.filter _).imp fun {a b} h => by
    show (a : Int) < b
    omega
theorem numbers_nd (c : CS) (p : Nat → Bool) : (c.numbers p).Nodup := (numbers_lt c p).imp fun {a b} h e => by omega
/-- what holds of a course -/
structure Ok (c : CS) : Prop where
  ne : 0 < c.borders.length
  bd : ∀ i, i < c.borders.length → 0 ≤ c.borders.getD i 0 ∧ c.borders.getD i 0 ≤ c.turned
  ln : ∀ n, n < c.spots.length → 0 ≤ c.stretch n ∧ c.stretch n < c.borders.length ∧ c.since (c.stretch n) ≤ c.file n ∧ c.file n ≤ c.upto (c.stretch n) ∧ c.file n ≤ c.turned
theorem Ok.init : Ok CS.init := ⟨by decide, fun i hi => by
  have : i = 0 := by simp [CS.init] at hi; exact hi
  subst this
  decide, fun n hn => absurd hn (by simp [CS.init])⟩
theorem ends_lt {c : CS} {i : Nat} (h : i < c.borders.length) : c.ends.getD i 0 = c.borders.getD i 0 := by
  unfold ends
  rw [List.getD_eq_getElem?_getD, List.getD_eq_getElem?_getD, List.getElem?_append_left h]
theorem ends_last (c : CS) : c.ends.getD c.borders.length 0 = c.turned := by
  unfold ends
  rw [List.getD_eq_getElem?_getD, List.getElem?_append_right (Nat.le_refl _)]
  simp
theorem getD_app {α : Type} {xs ys : List α} {i : Nat} {d : α} (h : i < xs.length) : (xs ++ ys).getD i d = xs.getD i d := by
  rw [List.getD_eq_getElem?_getD, List.getD_eq_getElem?_getD, List.getElem?_append_left h]
theorem getD_at {α : Type} {xs : List α} {x d : α} : (xs ++ [x]).getD xs.length d = x := by
  rw [List.getD_eq_getElem?_getD, List.getElem?_append_right (Nat.le_refl _)]
  simp
def turn (c : CS) : CS := { c with turned := c.turned + 1, fill := 0 }
def add (c : CS) (l : Int) : CS := { c with spots := c.spots ++ [((c.borders.length : Int) - 1, c.turned)], fill := c.fill + l }
def look (c : CS) : CS := { c with borders := c.borders ++ [c.turned] }
theorem step_look (S : Int) (c : CS) : step S c .look = c.look := by
  simp [step, look, rotd, fillB, Ev.n]
theorem step_rot (S : Int) (c : CS) : step S c .rot = c.turn := by
  simp [step, turn, rotd, fillB, Ev.n]
theorem step_line (S l : Int) (c : CS) : step S c (.line l) = (if S < c.fill + l then c.turn else c).add l := by
  by_cases h : S < c.fill + l
  · simp [step, turn, add, rotd, fillB, Ev.n, h]
  · simp [step, add, rotd, fillB, Ev.n, h]
theorem ends_look {c : CS} {i : Nat} (h : i ≤ c.borders.length) : c.look.ends.getD i 0 = c.ends.getD i 0 := by
  show ((c.borders ++ [c.turned]) ++ [c.turned]).getD i 0 = (c.borders ++ [c.turned]).getD i 0
  rw [getD_app]
  rw [List.length_append, List.length_singleton]
  omega
theorem ends_look2 {c : CS} : c.look.ends.getD (c.borders.length + 1) 0 = c.turned := by
  have := ends_last c.look
  rwa [show c.look.borders.length = c.borders.length + 1 from by show (c.borders ++ [c.turned]).length = _; rw [List.length_append]; rfl] at this
theorem ends_turn {c : CS} {i : Nat} (h : i < c.borders.length) : c.turn.ends.getD i 0 = c.ends.getD i 0 := by
  rw [ends_lt h, ends_lt (c := c.turn) h]
  rfl
theorem ends_turn2 {c : CS} : c.turn.ends.getD c.borders.length 0 = c.turned + 1 := ends_last c.turn
theorem Ok.look {c : CS} (h : Ok c) : Ok c.look := by
  have bl : c.look.borders.length = c.borders.length + 1 := by show (c.borders ++ [c.turned]).length = _; rw [List.length_append]; rfl
  refine ⟨by rw [bl]; omega, fun i hi => ?_, fun n hn => ?_⟩
  · rw [bl] at hi
    show 0 ≤ (c.borders ++ [c.turned]).getD i 0 ∧ (c.borders ++ [c.turned]).getD i 0 ≤ c.turned
    by_cases e : i < c.borders.length
    · rw [getD_app e]
      exact h.bd i e
    · have : i = c.borders.length := by omega
      subst this
      rw [getD_at]
      have := h.bd 0 h.ne
      omega
  · obtain ⟨a1, a2, a3, a4, a5⟩ := h.ln n hn
    refine ⟨a1, by rw [bl]; show c.stretch n < _; omega, ?_, ?_, a5⟩
    · show c.look.ends.getD (c.stretch n).toNat 0 ≤ c.file n
      rw [ends_look (by omega)]
      exact a3
    · show c.file n ≤ c.look.ends.getD ((c.stretch n).toNat + 1) 0
      rw [ends_look (by omega)]
      exact a4
theorem Ok.turn {c : CS} (h : Ok c) : Ok c.turn := by
  refine ⟨h.ne, fun i hi => ?_, fun n hn => ?_⟩
  · have := h.bd i hi
    show _ ∧ c.borders.getD i 0 ≤ c.turned + 1
    exact ⟨this.1, by omega⟩
  · obtain ⟨a1, a2, a3, a4, a5⟩ := h.ln n hn
    refine ⟨a1, a2, ?_, ?_, by show c.file n ≤ c.turned + 1; omega⟩
    · show c.turn.ends.getD (c.stretch n).toNat 0 ≤ c.file n
      rw [ends_turn (by omega)]
      exact a3
    · show c.file n ≤ c.turn.ends.getD ((c.stretch n).toNat + 1) 0
      by_cases e : (c.stretch n).toNat + 1 < c.borders.length
      · rw [ends_turn e]
        exact a4
      · have : (c.stretch n).toNat + 1 = c.borders.length := by omega
        rw [this, ends_turn2]
        omega
theorem spot_old {c : CS} {l : Int} {n : Nat} (h : n < c.spots.length) : (c.add l).stretch n = c.stretch n ∧ (c.add l).file n = c.file n := by
  unfold stretch file add
  dsimp only
  rw [getD_app h]
  exact ⟨rfl, rfl⟩
theorem spot_new {c : CS} {l : Int} : (c.add l).stretch c.spots.length = (c.borders.length : Int) - 1 ∧ (c.add l).file c.spots.length = c.turned := by
  unfold stretch file add
  dsimp only
  rw [getD_at]
  exact ⟨rfl, rfl⟩
theorem add_len {c : CS} {l : Int} : (c.add l).spots.length = c.spots.length + 1 := by
  show (c.spots ++ _).length = _
  rw [List.length_append]
  rfl
theorem Ok.add {c : CS} (h : Ok c) (l : Int) : Ok (c.add l) := by
  refine ⟨h.ne, h.bd, fun n hn => ?_⟩
  rw [add_len] at hn
  by_cases e : n < c.spots.length
  · rw [(spot_old e).1, (spot_old e).2]
    exact h.ln n e
  · have : n = c.spots.length := by omega
    subst this
    rw [spot_new.1, spot_new.2]
    have hn := h.ne
    refine ⟨by omega, by show _ < ((c.borders.length : Nat) : Int); omega, ?_, ?_, Int.le_refl _⟩
    · show c.ends.getD ((c.borders.length : Int) - 1).toNat 0 ≤ c.turned
      rw [ends_lt (by omega)]
      exact (h.bd _ (by omega)).2
    · show c.turned ≤ c.ends.getD (((c.borders.length : Int) - 1).toNat + 1) 0
      rw [show ((c.borders.length : Int) - 1).toNat + 1 = c.borders.length by omega, ends_last]
      exact Int.le_refl _
theorem Ok.step {c : CS} (h : Ok c) (S : Int) (e : Ev) : Ok (step S c e) := by
  cases e with
  | look => rw [step_look]; exact h.look
  | rot => rw [step_rot]; exact h.turn
  | line l =>
    rw [step_line]
    split
    · exact h.turn.add l
    · exact h.add l
theorem Ok.run (S : Int) (es : List Ev) : Ok (run S es) := by
  have : ∀ (es : List Ev) (c : CS), Ok c → Ok (es.foldl (CS.step S) c) := by
    intro es
    induction es with
    | nil => intro c h; exact h
    | cons e es ih => intro c h; exact ih _ (h.step S e)
  exact this es _ Ok.init
theorem lines_add {c : CS} {l j : Int} : (c.add l).linesOf j = c.linesOf j ++ (if c.turned = j then [(c.spots.length : Int)] else []) := by
  unfold linesOf numbers
  rw [add_len, List.range_succ, List.filter_append, List.map_append]
  congr 1
  · congr 1
    apply List.filter_congr
    intro n hn
    rw [(spot_old (List.mem_range.mp hn)).2]
  · by_cases e : c.turned = j
    · rw [if_pos e, List.filter_cons_of_pos (by rw [spot_new.2]; exact decide_eq_true e)]
      rfl
    · rw [if_neg e, List.filter_cons_of_neg (by rw [spot_new.2]; simpa using e)]
      rfl
/-- where a file begins: in which stretch -/
def Beg (c : CS) (j β : Int) : Prop := β < c.borders.length ∧ ∀ st : Nat, st < c.borders.length → (β = st ↔ c.ends.getD st 0 < j ∧ j ≤ c.ends.getD (st + 1) 0)
theorem Beg.look {c : CS} {j β : Int} (h : Beg c j β) (hj : j ≤ c.turned) : Beg c.look j β := by
  have bl : c.look.borders.length = c.borders.length + 1 := by show (c.borders ++ [c.turned]).length = _; rw [List.length_append]; rfl
  refine ⟨by rw [bl]; have := h.1; omega, fun st hst => ?_⟩
  rw [bl] at hst
  by_cases e : st < c.borders.length
  · rw [ends_look (by omega), ends_look (by omega)]
    exact h.2 st e
  · have : st = c.borders.length := by omega
    subst this
    rw [ends_look (Nat.le_refl _), ends_last]
    have := h.1
    omega
theorem Beg.turn {c : CS} {j β : Int} (h : Beg c j β) (hj : j ≤ c.turned) : Beg c.turn j β := by
  refine ⟨h.1, fun st hst => ?_⟩
  have hst : st < c.borders.length := hst
  rw [ends_turn hst, h.2 st hst]
  by_cases e : st + 1 < c.borders.length
  · rw [ends_turn e]
  · have : st + 1 = c.borders.length := by omega
    rw [this, ends_turn2, ends_last]
    omega
theorem Beg.new {c : CS} (k : Ok c) : Beg c.turn (c.turned + 1) ((c.borders.length : Int) - 1) := by
  refine ⟨by show _ < ((c.borders.length : Nat) : Int); omega, fun st hst => ?_⟩
  have hst : st < c.borders.length := hst
  have h1 := (k.bd st hst).2
  rw [ends_turn hst, ends_lt hst]
  by_cases e : st + 1 < c.borders.length
  · rw [ends_turn e, ends_lt e]
    have := (k.bd _ e).2
    omega
  · have : st + 1 = c.borders.length := by omega
    rw [this, ends_turn2]
    omega
/-- the law's run and the course say the same -/
structure J (M : Nat) (r : RS) (c : CS) : Prop where
  fl : r.fill = c.fill
  tu : r.turns = c.turned
  he : r.here = (c.borders.length : Int) - 1
  pl : r.places = c.spots.map Prod.fst
  tn : 0 ≤ c.turned
  ol : r.old.length = min c.turned.toNat M
  cu : r.cur = c.linesOf c.turned
  cb : Beg c c.turned r.beg
  fs : ∀ (i : Nat) (f : List Int × Int), r.old[i]? = some f → f.1 = c.linesOf (c.turned - r.old.length + i) ∧ Beg c (c.turned - r.old.length + i) f.2
  gm : ∀ n b, (n, b) ∈ r.gone ↔ ∃ k : Nat, n = k ∧ k < c.spots.length ∧ (M : Int) < c.upto (c.stretch k) - c.file k ∧ b = decide (c.file k ≠ c.since (c.stretch k))
  gn : (r.gone.map Prod.fst).Nodup
theorem J.init (M : Nat) : J M RS.init CS.init := by
  refine ⟨rfl, rfl, rfl, rfl, Int.le_refl _, by simp [RS.init, CS.init], rfl, ⟨by decide, fun st hst => ?_⟩, fun i f h => by simp [RS.init] at h, fun n b => ?_, List.nodup_nil⟩
  · have : st = 0 := by simp [CS.init] at hst; exact hst
    subst this
    decide
  · constructor
    · intro h
      simp [RS.init] at h
    · rintro ⟨k, _, h, _⟩
      simp [CS.init] at h
theorem J.look {M : Nat} {r : RS} {c : CS} (h : J M r c) (k : Ok c) : J M { r with here := r.here + 1 } c.look := by
  have bl : c.look.borders.length = c.borders.length + 1 := by show (c.borders ++ [c.turned]).length = _; rw [List.length_append]; rfl
  refine ⟨h.fl, h.tu, by rw [bl]; show r.here + 1 = _; rw [h.he]; omega, h.pl, h.tn, h.ol, h.cu, h.cb.look (Int.le_refl _), fun i f hf => ?_, fun n b => ?_, h.gn⟩
  · have hi := (List.getElem?_eq_some_iff.mp hf).1
    obtain ⟨h1, h2⟩ := h.fs i f hf
    exact ⟨h1, h2.look (by show c.turned - ((r.old.length : Nat) : Int) + i ≤ c.turned; have hi : i < r.old.length := hi; omega)⟩
  · rw [h.gm n b]
    constructor
    · rintro ⟨q, e, hq, h1, h2⟩
      obtain ⟨a1, a2, _⟩ := k.ln q hq
      refine ⟨q, e, hq, ?_, ?_⟩
      · show (M : Int) < c.look.ends.getD ((c.stretch q).toNat + 1) 0 - c.file q
        rw [ends_look (by omega)]
        exact h1
      · rw [h2]
        show decide (c.file q ≠ c.ends.getD (c.stretch q).toNat 0) = decide (c.file q ≠ c.look.ends.getD (c.stretch q).toNat 0)
        rw [ends_look (by omega)]
    · rintro ⟨q, e, hq, h1, h2⟩
      obtain ⟨a1, a2, _⟩ := k.ln q hq
      refine ⟨q, e, hq, ?_, ?_⟩
      · have h1 : (M : Int) < c.look.ends.getD ((c.stretch q).toNat + 1) 0 - c.file q := h1
        rw [ends_look (by omega)] at h1
        exact h1
      · rw [h2]
        show decide (c.file q ≠ c.look.ends.getD (c.stretch q).toNat 0) = decide (c.file q ≠ c.ends.getD (c.stretch q).toNat 0)
        rw [ends_look (by omega)]
theorem J.add {M : Nat} {r : RS} {c : CS} (h : J M r c) (k : Ok c) (l : Int) : J M (r.add l) (c.add l) := by
  have sl : (r.places.length : Int) = c.spots.length := by rw [h.pl, List.length_map]
  refine ⟨by show r.fill + l = c.fill + l; rw [h.fl], h.tu, h.he, ?_, h.tn, h.ol, ?_, h.cb, fun i f hf => ?_, fun n b => ?_, h.gn⟩
  · show r.places ++ [r.here] = (c.spots ++ [((c.borders.length : Int) - 1, c.turned)]).map Prod.fst
    rw [List.map_append, h.pl, h.he]
    rfl
  · show r.cur ++ [(r.places.length : Int)] = (c.add l).linesOf c.turned
    rw [lines_add, if_pos rfl, h.cu, sl]
  · have hi : i < r.old.length := (List.getElem?_eq_some_iff.mp hf).1
    obtain ⟨h1, h2⟩ := h.fs i f hf
    refine ⟨?_, h2⟩
    show f.1 = (c.add l).linesOf (c.turned - r.old.length + i)
    rw [lines_add, if_neg (by omega), List.append_nil]
    exact h1
  · refine (h.gm n b).trans ?_
    constructor
    · rintro ⟨q, e, hq, h1, h2⟩
      refine ⟨q, e, by rw [add_len]; omega, ?_, ?_⟩
      · rw [(spot_old hq).1, (spot_old hq).2]
        exact h1
      · rw [(spot_old hq).1, (spot_old hq).2]
        exact h2
    · rintro ⟨q, e, hq, h1, h2⟩
      rw [add_len] at hq
      by_cases hl : q < c.spots.length
      · rw [(spot_old hl).1, (spot_old hl).2] at h1 h2
        exact ⟨q, e, hl, h1, h2⟩
      · exfalso
        have : q = c.spots.length := by omega
        subst this
        rw [spot_new.1, spot_new.2] at h1
        have h1 : (M : Int) < c.ends.getD (((c.borders.length : Int) - 1).toNat + 1) 0 - c.turned := h1
        have := k.ne
        rw [show ((c.borders.length : Int) - 1).toNat + 1 = c.borders.length by omega, ends_last] at h1
        omega
theorem mem_lost {pl : List Int} {h : Int} {f : List Int × Int} {n : Int} {b : Bool} : (n, b) ∈ RS.lost pl h f ↔ n ∈ f.1 ∧ pl.getD n.toNat 0 = h ∧ b = decide (f.2 = h) := by
  unfold RS.lost
  rw [List.mem_map]
  constructor
  · rintro ⟨m, hm, e⟩
    rw [List.mem_filter] at hm
    cases e
    exact ⟨hm.1, of_decide_eq_true hm.2, rfl⟩
  · rintro ⟨h1, h2, rfl⟩
    exact ⟨n, List.mem_filter.mpr ⟨h1, decide_eq_true h2⟩, rfl⟩
theorem mem_lines {c : CS} {j x : Int} : x ∈ c.linesOf j ↔ ∃ n : Nat, x = n ∧ n < c.spots.length ∧ c.file n = j := by
  unfold linesOf
  rw [mem_numbers]
  constructor
  · rintro ⟨n, h1, h2, h3⟩
    exact ⟨n, h1, h2, of_decide_eq_true h3⟩
  · rintro ⟨n, h1, h2, h3⟩
    exact ⟨n, h1, h2, decide_eq_true h3⟩
theorem place_at {c : CS} {k : Nat} : (c.spots.map Prod.fst).getD k 0 = c.stretch k := by
  unfold stretch
  rw [List.getD_eq_getElem?_getD, List.getD_eq_getElem?_getD, List.getElem?_map]
  cases c.spots[k]? <;> rfl
/-- behind one more rotation: what is counted of line k -/
theorem turn_upto {c : CS} (k : Ok c) {q : Nat} (hq : q < c.spots.length) : c.turn.upto (c.stretch q) = (if c.stretch q = (c.borders.length : Int) - 1 then c.turned + 1 else c.upto (c.stretch q)) := by
  obtain ⟨a1, a2, _⟩ := k.ln q hq
  unfold upto
  by_cases e : c.stretch q = (c.borders.length : Int) - 1
  · rw [if_pos e, show (c.stretch q).toNat + 1 = c.borders.length by omega, ends_turn2]
  · rw [if_neg e, ends_turn (by omega)]
theorem turn_since {c : CS} (k : Ok c) {q : Nat} (hq : q < c.spots.length) : c.turn.since (c.stretch q) = c.since (c.stretch q) := by
  obtain ⟨a1, a2, _⟩ := k.ln q hq
  unfold since
  rw [ends_turn (by omega)]
theorem upto_here {c : CS} (k : Ok c) : c.upto ((c.borders.length : Int) - 1) = c.turned := by
  have := k.ne
  unfold upto
  rw [show ((c.borders.length : Int) - 1).toNat + 1 = c.borders.length by omega, ends_last]
theorem J.turn {M : Nat} {r : RS} {c : CS} (h : J M r c) (k : Ok c) : J M (RS.trim M r.turn) c.turn := by
  have ol := h.ol
  have tn := h.tn
  have fs : ∀ (i : Nat) (f : List Int × Int), (r.old ++ [(r.cur, r.beg)])[i]? = some f → f.1 = c.linesOf (c.turned - r.old.length + i) ∧ Beg c (c.turned - r.old.length + i) f.2 := by
    intro i f hf
    by_cases hi : i < r.old.length
    · rw [List.getElem?_append_left hi] at hf
      exact h.fs i f hf
    · have hl := (List.getElem?_eq_some_iff.mp hf).1
      rw [List.length_append, List.length_singleton] at hl
      have : i = r.old.length := by omega
      subst this
      rw [List.getElem?_append_right (Nat.le_refl _)] at hf
      simp at hf
      subst hf
      rw [show c.turned - (r.old.length : Int) + (r.old.length : Int) = c.turned by omega]
      exact ⟨h.cu, h.cb⟩
  have tl : r.turn.old.length = r.old.length + 1 := by show (r.old ++ [(r.cur, r.beg)]).length = _; rw [List.length_append]; rfl
  have hne := k.ne
  have none_new : c.turn.linesOf (c.turned + 1) = [] := by
    rw [List.eq_nil_iff_forall_not_mem]
    intro x hx
    obtain ⟨q, _, hq, e⟩ := mem_lines.mp hx
    have := (k.ln q hq).2.2.2.2
    have e : c.file q = c.turned + 1 := e
    omega
  by_cases lo : M < r.turn.old.length
  · -- the oldest file goes
    have eo : r.old.length = M := by omega
    have eM : (M : Int) ≤ c.turned := by omega
    cases eq : r.turn.old with
    | nil => rw [eq] at lo; exact absurd lo (by simp)
    | cons f o =>
      rw [RS.trim_drop eq lo]
      have olen : o.length = M := by
        rw [eq, List.length_cons] at tl
        omega
      obtain ⟨f1, f2⟩ := fs 0 f (by show r.turn.old[0]? = _; rw [eq]; rfl)
      rw [eo, show c.turned - (M : Int) + ((0 : Nat) : Int) = c.turned - M by omega] at f1 f2
      have fb := f2.2 (c.borders.length - 1) (by omega)
      rw [show c.borders.length - 1 + 1 = c.borders.length by omega, ends_last] at fb
      have hhere : ((c.borders.length - 1 : Nat) : Int) = (c.borders.length : Int) - 1 := by omega
      rw [hhere] at fb
      have lm : ∀ n b, (n, b) ∈ RS.lost r.places r.here f ↔ ∃ q : Nat, n = q ∧ q < c.spots.length ∧ c.file q = c.turned - M ∧ c.stretch q = (c.borders.length : Int) - 1 ∧ b = decide (c.file q ≠ c.since (c.stretch q)) := by
        intro n b
        rw [mem_lost, f1, mem_lines, h.pl, h.he]
        constructor
        · rintro ⟨⟨q, rfl, hq, e⟩, e2, rfl⟩
          rw [Int.toNat_natCast, place_at] at e2
          refine ⟨q, rfl, hq, e, e2, ?_⟩
          obtain ⟨_, _, a3, _, _⟩ := k.ln q hq
          rw [e2] at a3 ⊢
          have es : c.since ((c.borders.length : Int) - 1) = c.ends.getD (c.borders.length - 1) 0 := by
            unfold since
            rw [show ((c.borders.length : Int) - 1).toNat = c.borders.length - 1 by omega]
          rw [es] at a3 ⊢
          rw [e] at a3 ⊢
          rw [decide_eq_decide, fb]
          constructor
          · rintro ⟨z, _⟩ y
            omega
          · intro z
            exact ⟨by omega, by omega⟩
        · rintro ⟨q, rfl, hq, e, e2, rfl⟩
          refine ⟨⟨q, rfl, hq, e⟩, by rw [Int.toNat_natCast, place_at]; exact e2, ?_⟩
          obtain ⟨_, _, a3, _, _⟩ := k.ln q hq
          rw [e2] at a3 ⊢
          have es : c.since ((c.borders.length : Int) - 1) = c.ends.getD (c.borders.length - 1) 0 := by
            unfold since
            rw [show ((c.borders.length : Int) - 1).toNat = c.borders.length - 1 by omega]
          rw [es] at a3 ⊢
          rw [e] at a3 ⊢
          rw [decide_eq_decide, fb]
          constructor
          · intro z
            exact ⟨by omega, by omega⟩
          · rintro ⟨z, _⟩ y
            omega
      refine ⟨rfl, by show r.turns + 1 = c.turned + 1; rw [h.tu], h.he, h.pl, by show 0 ≤ c.turned + 1; omega, ?_, ?_, ?_, fun i g hg => ?_, fun n b => ?_, ?_⟩
      · show o.length = min (c.turned + 1).toNat M
        omega
      · show ([] : List Int) = c.turn.linesOf (c.turned + 1)
        rw [none_new]
      · show Beg c.turn (c.turned + 1) r.here
        rw [h.he]
        exact Beg.new k
      · have hg : o[i]? = some g := hg
        have hi := (List.getElem?_eq_some_iff.mp hg).1
        obtain ⟨g1, g2⟩ := fs (i + 1) g (by show r.turn.old[i + 1]? = _; rw [eq]; exact hg)
        have ej : c.turned - (r.old.length : Int) + ((i + 1 : Nat) : Int) = c.turned + 1 - (o.length : Int) + i := by omega
        rw [ej] at g1 g2
        exact ⟨g1, g2.turn (by omega)⟩
      · show (n, b) ∈ r.gone ++ RS.lost r.places r.here f ↔ _
        rw [List.mem_append, h.gm n b, lm n b]
        constructor
        · rintro (⟨q, rfl, hq, h1, h2⟩ | ⟨q, rfl, hq, h1, h2, h3⟩)
          · refine ⟨q, rfl, hq, ?_, by rw [h2]; show _ = decide (c.file q ≠ c.turn.since (c.stretch q)); rw [turn_since k hq]⟩
            show (M : Int) < c.turn.upto (c.stretch q) - c.file q
            rw [turn_upto k hq]
            split
            · rename_i z
              rw [z, upto_here k] at h1
              omega
            · exact h1
          · refine ⟨q, rfl, hq, ?_, by rw [h3]; show _ = decide (c.file q ≠ c.turn.since (c.stretch q)); rw [turn_since k hq]⟩
            show (M : Int) < c.turn.upto (c.stretch q) - c.file q
            rw [turn_upto k hq, if_pos h2]
            omega
        · rintro ⟨q, rfl, hq, h1, h2⟩
          have hq : q < c.spots.length := hq
          have h1 : (M : Int) < c.turn.upto (c.stretch q) - c.file q := h1
          have h2 : b = decide (c.file q ≠ c.turn.since (c.stretch q)) := h2
          rw [turn_since k hq] at h2
          rw [turn_upto k hq] at h1
          by_cases z : c.stretch q = (c.borders.length : Int) - 1
          · rw [if_pos z] at h1
            by_cases y : c.file q = c.turned - M
            · exact .inr ⟨q, rfl, hq, y, z, h2⟩
            · refine .inl ⟨q, rfl, hq, ?_, h2⟩
              rw [z, upto_here k]
              omega
          · rw [if_neg z] at h1
            exact .inl ⟨q, rfl, hq, h1, h2⟩
      · show ((r.gone ++ RS.lost r.places r.here f).map Prod.fst).Nodup
        rw [List.map_append, List.nodup_append]
        refine ⟨h.gn, ?_, ?_⟩
        · unfold RS.lost
          rw [List.map_map]
          have : (f.1.filter fun n => decide (r.places.getD n.toNat 0 = r.here)).Nodup := by
            rw [f1]
            exact (numbers_nd c _).filter _
          rw [show (Prod.fst ∘ fun n : Int => (n, decide (f.2 = r.here))) = id from rfl, List.map_id]
          exact this
        · intro x hx y hy e
          obtain ⟨⟨n, b⟩, hn, rfl⟩ := List.mem_map.mp hx
          obtain ⟨⟨n', b'⟩, hn', rfl⟩ := List.mem_map.mp hy
          obtain ⟨q, e1, hq, h1, _⟩ := (h.gm n b).mp hn
          obtain ⟨q', e2, hq', h1', h2', _⟩ := (lm n' b').mp hn'
          have e3 : n = n' := e
          have : q = q' := by omega
          subst this
          rw [h2', upto_here k] at h1
          omega
  · -- all stay
    have lo : r.turn.old.length ≤ M := by omega
    rw [RS.trim_keep lo]
    have eT : (r.old.length : Int) = c.turned := by omega
    refine ⟨rfl, by show r.turns + 1 = c.turned + 1; rw [h.tu], h.he, h.pl, by show 0 ≤ c.turned + 1; omega, ?_, ?_, ?_, fun i g hg => ?_, fun n b => ?_, h.gn⟩
    · show r.turn.old.length = min (c.turned + 1).toNat M
      omega
    · show ([] : List Int) = c.turn.linesOf (c.turned + 1)
      rw [none_new]
    · show Beg c.turn (c.turned + 1) r.here
      rw [h.he]
      exact Beg.new k
    · obtain ⟨g1, g2⟩ := fs i g hg
      have hi : i < r.turn.old.length := (List.getElem?_eq_some_iff.mp hg).1
      have ej : c.turned - (r.old.length : Int) + (i : Int) = c.turned + 1 - (r.turn.old.length : Int) + i := by omega
      rw [ej] at g1 g2
      exact ⟨g1, g2.turn (by omega)⟩
    · refine (h.gm n b).trans ?_
      constructor
      · rintro ⟨q, rfl, hq, h1, h2⟩
        refine ⟨q, rfl, hq, ?_, by rw [h2]; show _ = decide (c.file q ≠ c.turn.since (c.stretch q)); rw [turn_since k hq]⟩
        show (M : Int) < c.turn.upto (c.stretch q) - c.file q
        rw [turn_upto k hq]
        split
        · rename_i z
          rw [z, upto_here k] at h1
          omega
        · exact h1
      · rintro ⟨q, rfl, hq, h1, h2⟩
        have hq : q < c.spots.length := hq
        have h1 : (M : Int) < c.turn.upto (c.stretch q) - c.file q := h1
        have h2 : b = decide (c.file q ≠ c.turn.since (c.stretch q)) := h2
        rw [turn_since k hq] at h2
        rw [turn_upto k hq] at h1
        obtain ⟨a1, a2, a3, _⟩ := k.ln q hq
        have s0 : 0 ≤ c.since (c.stretch q) := by
          unfold since
          rw [ends_lt (by omega)]
          exact (k.bd _ (by omega)).1
        by_cases z : c.stretch q = (c.borders.length : Int) - 1
        · rw [if_pos z] at h1
          omega
        · rw [if_neg z] at h1
          exact ⟨q, rfl, hq, h1, h2⟩
theorem J.step {M : Nat} {r : RS} {c : CS} (h : J M r c) (k : Ok c) (S : Int) (e : Ev) : J M (RS.step S M r e) (CS.step S c e) := by
  cases e with
  | look => rw [step_look]; exact h.look k
  | rot => rw [step_rot]; exact h.turn k
  | line l =>
    rw [step_line]
    show J M (RS.add l _) _
    rw [h.fl]
    by_cases z : S < c.fill + l
    · rw [if_pos z, if_pos z]
      exact (h.turn k).add k.turn l
    · rw [if_neg z, if_neg z]
      exact h.add k l
theorem J.run (S : Int) (M : Nat) (es : List Ev) : J M (RS.run S M es) (CS.run S es) := by
  have : ∀ (es : List Ev) (r : RS) (c : CS), J M r c → Ok c → J M (es.foldl (RS.step S M) r) (es.foldl (CS.step S) c) := by
    intro es
    induction es with
    | nil => intro r c h _; exact h
    | cons e es ih => intro r c h k; exact ih _ _ (h.step k S e) (k.step S e)
  exact this es _ _ (J.init M) Ok.init
theorem sorted_eq {xs ys zs : List Int} (p : xs.Perm ys) (s : xs.Pairwise (· ≤ ·)) (nd : ys.Nodup) (m : ∀ x, x ∈ ys ↔ x ∈ zs) (z : zs.Pairwise (· < ·)) : xs = zs := by
  have p2 : ys.Perm zs := (List.perm_ext_iff_of_nodup nd (z.imp fun {a b} h e => by omega)).mpr m
  exact (p.trans p2).eq_of_pairwise (le := (· ≤ ·)) (fun a b _ _ h1 h2 => by omega) s (z.imp fun {a b} h => by omega)
theorem gone_missed {S : Int} {M : Nat} {es : List Ev} {xs : List Int} (p : xs.Perm ((RS.run S M es).gone.map Prod.fst)) (s : xs.Pairwise (· ≤ ·)) : xs = (CS.run S es).missed M false := by
  have j := J.run S M es
  refine sorted_eq p s j.gn (fun x => ?_) (numbers_lt _ _)
  rw [List.mem_map]
  unfold missed
  rw [mem_numbers]
  constructor
  · rintro ⟨⟨n, b⟩, hn, rfl⟩
    obtain ⟨q, e, hq, h1, _⟩ := (j.gm n b).mp hn
    exact ⟨q, e, hq, decide_eq_true (by unfold behind; rw [if_neg (by simp)]; exact h1)⟩
  · rintro ⟨q, rfl, hq, h1⟩
    have h1 := of_decide_eq_true h1
    unfold behind at h1
    rw [if_neg (by simp)] at h1
    exact ⟨(q, _), (j.gm q _).mpr ⟨q, rfl, hq, h1, rfl⟩, rfl⟩
theorem gone_held {S : Int} {M : Nat} {es : List Ev} {xs : List Int} (p : xs.Perm (((RS.run S M es).gone.filter Prod.snd).map Prod.fst)) (s : xs.Pairwise (· ≤ ·)) : xs = (CS.run S es).missed M true := by
  have j := J.run S M es
  have nd : (((RS.run S M es).gone.filter Prod.snd).map Prod.fst).Nodup := List.Nodup.sublist (List.Sublist.map _ List.filter_sublist) j.gn
  refine sorted_eq p s nd (fun x => ?_) (numbers_lt _ _)
  rw [List.mem_map]
  unfold missed
  rw [mem_numbers]
  constructor
  · rintro ⟨⟨n, b⟩, hn, rfl⟩
    rw [List.mem_filter] at hn
    obtain ⟨q, e, hq, h1, h2⟩ := (j.gm n b).mp hn.1
    have hb : b = true := hn.2
    rw [hb] at h2
    have h3 := of_decide_eq_true h2.symm
    exact ⟨q, e, hq, decide_eq_true (by unfold behind; rw [if_neg fun z => h3 z.2]; exact h1)⟩
  · rintro ⟨q, rfl, hq, h1⟩
    have h1 := of_decide_eq_true h1
    unfold behind at h1
    by_cases z : (CS.run S es).file q = (CS.run S es).since ((CS.run S es).stretch q)
    · rw [if_pos ⟨rfl, z⟩] at h1
      omega
    · rw [if_neg fun y => z y.2] at h1
      exact ⟨(q, true), List.mem_filter.mpr ⟨(j.gm q _).mpr ⟨q, rfl, hq, h1, (decide_eq_true z).symm⟩, rfl⟩, rfl⟩
end CS

/-! ### the course in the heap -/
def cf (s b : Addr) : List (Str × V) := [("spots", .ref s), ("borders", .ref b)]
theorem cf_s (s b : Addr) : (cf s b).lookup ("spots" : Str) = some (.ref s) := rfl
theorem cf_b (s b : Addr) : (cf s b).lookup ("borders" : Str) = some (.ref b) := rfl
theorem cf_mk (s b : Addr) : putF "borders" (.ref b) (putF "spots" (.ref s) []) = cf s b := by
  show (if ("spots" : Str) = "borders" then _ else (("spots" : Str), V.ref s) :: putF "borders" (V.ref b) []) = cf s b
  rw [if_neg (by decide +kernel)]
  rfl
theorem CS.lens (S : Int) (es : List Ev) : (CS.run S es).spots.length ≤ es.length ∧ (CS.run S es).borders.length ≤ es.length + 1 := by
  have : ∀ (es : List Ev) (c : CS), (es.foldl (CS.step S) c).spots.length ≤ c.spots.length + es.length ∧ (es.foldl (CS.step S) c).borders.length ≤ c.borders.length + es.length := by
    intro es
    induction es with
    | nil => intro c; exact ⟨Nat.le_refl _, Nat.le_refl _⟩
    | cons e es ih =>
      intro c
      have h1 := ih (CS.step S c e)
      have h2 : (CS.step S c e).spots.length ≤ c.spots.length + 1 ∧ (CS.step S c e).borders.length ≤ c.borders.length + 1 := by
        cases e <;> simp [CS.step]
      rw [List.foldl_cons, List.length_cons]
      omega
  have h := this es CS.init
  simp only [CS.init, List.length_nil, List.length_cons] at h
  exact ⟨by have := h.1; unfold CS.run CS.init; omega, by have := h.2; unfold CS.run CS.init; omega⟩
def SpotAt (H : Hp) (v : V) (x : Int × Int) : Prop := ∃ t, v = .ref t ∧ H t = some (.tup [.int x.1, .int x.2])
def CrsAt (C : Addr) (H : Hp) (p s b : Addr) (bs : List Int) (sp : List (Int × Int)) : Prop :=
  ∃ (dx : Addr) (sv : List V), H p = some (.ins C dx (cf s b)) ∧ H s = some (.lst sv) ∧ H b = some (.lst (bs.map V.int)) ∧ Paired (SpotAt H) sv sp
theorem CrsAt.same {C : Addr} {H H' : Hp} {p s b : Addr} {bs : List Int} {sp : List (Int × Int)} (h : CrsAt C H p s b bs sp) (z : Same H H') : CrsAt C H' p s b bs sp := by
  obtain ⟨dx, sv, h1, h2, h3, h4⟩ := h
  exact ⟨dx, sv, z _ _ h1, z _ _ h2, z _ _ h3, Paired.mapP h4 fun v x ⟨t, e, ht⟩ => ⟨t, e, z _ _ ht⟩⟩
def sp_cinit (C : Addr) : Sp := fun vs H Q _ => ∃ (p dx bk q t : Addr) (S : Int) (es : List Ev), vs = [.ref p, .ref bk, .ref t] ∧ H p = some (.ins C dx []) ∧ H bk = some (.tup [.int S, .ref q]) ∧ H t = some (.tup (es.map Ev.v)) ∧ es.length ≤ 1000 ∧
  ∀ (s b : Addr) (H' : Hp), CrsAt C H' p s b (CS.run S es).ends (CS.run S es).spots → But p H H' → Q .non H'
def sp_cbehind (C : Addr) : Sp := fun vs H Q _ => ∃ (p s b : Addr) (c : CS) (n : Nat) (holds : Bool), vs = [.ref p, .int n, .bl holds] ∧ CrsAt C H p s b c.ends c.spots ∧ CS.Ok c ∧ n < c.spots.length ∧ Q (.int (c.behind n holds)) H
def sp_call (C : Addr) : Sp := fun vs H Q _ => ∃ (p s b : Addr) (c : CS) (holds : Bool), vs = [.ref p, .bl holds] ∧ CrsAt C H p s b c.ends c.spots ∧ CS.Ok c ∧ c.spots.length ≤ 1000 ∧
  ∀ (l : Addr) (H' : Hp), H' l = some (.lst ((List.range c.spots.length).map fun n => .int (c.behind n holds))) → Same H H' → Q (.ref l) H'
def sp_missed : Sp := fun vs H Q _ => ∃ (bk q t : Addr) (S kept : Int) (es : List Ev) (holds : Bool), vs = [.ref bk, .int kept, .ref t, .bl holds] ∧ H bk = some (.tup [.int S, .ref q]) ∧ H t = some (.tup (es.map Ev.v)) ∧ es.length ≤ 1000 ∧
  ∀ (r : Addr) (H' : Hp), H' r = some (.tup (((CS.run S es).missed kept holds).map V.int)) → Same H H' → Q (.ref r) H'
/-- a comprehension over enumerate(list) -/
theorem lc_enumL {K : PySem.W.Frag} {a : Addr} {xs : List V} {g : TG} {tt : TT} {te : TE} {vs : List Nat} {σ : St} {H1 : Hp} {D : Addr} {Qd : Hp → Prop}
    (Pv : Nat → Hp → Prop) (h0 : Pv 0 (upd H1 D (.lst [])))
    (hl : ∀ i H, i ≤ xs.length → Pv i H → SqL K H a xs)
    (hs : ∀ i x T H, xs[i]? = some x → Pv i H → H T = none →
      g (.ref T) (wipe σ vs) (upd H T (.tup [.int (i : Nat), x])) fun σ2 H2 =>
        wipe σ2 vs = wipe σ vs ∧
        tt σ2 H2 fun b H3 =>
          if b = true then
            te σ2 H3 fun y H4 =>
              ∃ acc, H4 D = some (.lst acc) ∧ acc.length < sizeLine ∧
                Pv (i + 1) (upd H4 D (.lst (acc ++ [y])))
          else Pv (i + 1) H3)
    (hd : ∀ H, Pv xs.length H → Qd H) :
    ∃ W : Nat → Nat → Hp → Prop,
      (∃ m, W 0 m (upd H1 D (.lst []))) ∧
      ∀ i m H, W i m H →
        ((Ite K a).stop i H ∧ Qd H) ∨
        ((Ite K a).go i H ∧
          ∃ Nx : Hp → Prop,
            (∀ H', Nx H' → ∃ m', m' < m ∧ W (i + 1) m' H') ∧
            ∀ x H', (Ite K a).yld i H x H' →
              g x (wipe σ vs) H' fun σ2 H2 =>
                wipe σ2 vs = wipe σ vs ∧
                tt σ2 H2 fun b H3 =>
                  if b = true then
                    te σ2 H3 fun y H4 =>
                      ∃ acc, H4 D = some (.lst acc) ∧ acc.length < sizeLine ∧
                        Nx (upd H4 D (.lst (acc ++ [y])))
                  else Nx H3) := by
  refine ⟨fun i m H => i ≤ xs.length ∧ m + i = xs.length ∧ Pv i H, ⟨xs.length, Nat.zero_le _, rfl, h0⟩, ?_⟩
  rintro i m H ⟨hi, em, p⟩
  have sq := hl i H hi p
  by_cases lt : i < xs.length
  · refine .inr ⟨⟨xs, xs[i], sq, List.getElem?_eq_getElem lt⟩, Pv (i + 1), fun H' p' => ⟨m - 1, by omega, by omega, by omega, p'⟩, ?_⟩
    rintro x H' ⟨T, y, rfl, nT, rfl, hy⟩
    exact hs i y T H (hy xs sq) p nT
  · have e : i = xs.length := by omega
    subst e
    exact .inl ⟨⟨xs, sq, Nat.le_refl _⟩, hd H p⟩
end My

namespace My
open PySem PySem.Spec PyProof.Rows L2
local macro_rules | `(tactic| walk_at "ev") => `(tactic| try simp only [ev_var, ev_c, ev_un, ev_op, ev_nil, ev_cons, ev_call, ev_callD, ev_callN, ev_callK, ev_opM, ev_lcM, ev_tup, ev_lst, ev_lstM, ev_dkM, ev_dtM, ev_bE, ev_bAnd, ev_bOr, ev_bNot, ev_bYes, ev_eAnd, ev_eOr, ev_eNot, ev_if, ev_chain, ev_oNone, ev_oSome, ev_sl, ev_bm, ev_skip, ev_brk, ev_cnt, ev_seq, then_nx, then_rt, then_bk, then_ct, ev_set, ev_asg, ev_par, ev_par3, ev_ret, ev_drop, ev_sIf, ev_aug, ev_sub, ev_seqI, ev_fld, ev_fldM, ev_meth, ev_new, ev_newK, ev_enum, ev_zip, ev_range1, ev_range2, ev_for, ev_lc, enter, gNm, gsNil, gsCons, gTp, wipeE,
  List.map_cons, List.map_nil, List.length_cons, List.length_nil, List.replicate, List.cons_append, List.nil_append, List.append_nil, List.getElem?_cons_zero, List.getElem?_cons_succ, List.set_cons_zero, List.set_cons_succ, Option.some.injEq, exists_eq_left', exists_eq_left, D.bl.injEq, D.int.injEq, D.str.injEq, D.tup.injEq, D.lst.injEq, D.ref.injEq, decide_eq_true_eq, List.cons.injEq, and_true, true_and, if_true, if_false, reduceCtorEq, Bool.false_eq_true, ite_true, ite_false, Nat.sub_self, Nat.reduceAdd, Nat.reduceSub, Nat.zero_add, exists_and_left, exists_const, Bool.not_true, Bool.not_false, Bool.not_eq_true', exists_eq_right, and_assoc, List.length_set, exists_eq_right',
  add_int, addI_int, sub_int, neg_int, lt_int, le_int, gt_int, ge_int, eq_int, ne_int, eq_str, ne_str, eq_bl, ne_bl, eq_is, eq_si, ne_is, ne_si, is_nn, ix_tup, ix_lst, ix_scr, at_0, at_1, at_2, at_3, len_tup, len_lst, len_scr, outF, outK, ev_len_tup, ev_len_lst, ev_len_scr, ev_abs, ev_int, ev_intb, ev_max2, ev_min2, ev_tuple_lst, ev_tuple_tup, ev_list_lst, ev_list_tup, sz0, sz1, sz2, sz3, sz4, sz5, sz6, sz7, sz8, sz9, sz10, sz11, sz12, s_rl, s_lr, atI_last, decide_false, decide_true, Bool.or_false, Bool.false_or])
local macro_rules | `(tactic| walk_at "st") => `(tactic| try simp only [List.append_assoc, List.cons_append, List.nil_append, List.length_append, List.length_cons, List.length_nil, Nat.reduceAdd, Nat.add_assoc])
/- is_rotated: 0:rules, 1:fill, 2:event -/
noncomputable def mb_is_rotated : SM :=
(sSeq (sIf (bE (eCall fIsi (aCons (eVar 2) (aCons (eC (.ty "int")) aNil))))
(sRet (eOp dGt (eOp dAdd (eVar 1) (eVar 2)) (eOp dIx (eVar 0) (eC (.int 0)))))
sSkip)
(sRet (eOp dEq (eVar 2) (eC (.str "rotate")))))
noncomputable def mf_is_rotated : FM := mkF 3 mb_is_rotated

/- fill_behind: 0:rules, 1:fill, 2:event, 3:left -/
noncomputable def mb_fill_behind : SM :=
(sSeq (sSet 3 (eIf (bE (eCallD 3 mf_is_rotated [] (aCons (eVar 0) (aCons (eVar 1) (aCons (eVar 2) aNil))))) (eC (.int 0)) (eVar 1)))
(sRet (eIf (bE (eCall fIsi (aCons (eVar 2) (aCons (eC (.ty "int")) aNil)))) (eOp dAdd (eVar 3) (eVar 2)) (eVar 3))))
noncomputable def mf_fill_behind : FM := mkF 4 mb_fill_behind

/- Course.__init__: 0:self, 1:rules, 2:history, 3:fill, 4:turned, 5:event -/
noncomputable def mb_Coursedd_initdd : SM :=
(sSeq (sFldM "Course" "spots" (eVar 0) (eLstM aNil))
(sSeq (sFldM "Course" "borders" (eVar 0) (eLstM (aCons (eC (.int 0)) aNil)))
(sSeq (sAsg (eTup (aCons (eC (.int 0)) (aCons (eC (.int 0)) aNil))) (gTp 2 (gsCons (gNm 3) (gsCons (gNm 4) gsNil))))
(sSeq (sFor (iSeq (eVar 2)) (gNm 5)
(sSeq (sAug 4 dAddI (eCall fInt (aCons (eCallD 3 mf_is_rotated [] (aCons (eVar 1) (aCons (eVar 3) (aCons (eVar 5) aNil)))) aNil)))
(sSeq (sSet 3 (eCallD 3 mf_fill_behind [] (aCons (eVar 1) (aCons (eVar 3) (aCons (eVar 5) aNil)))))
(sSeq (sIf (bE (eOp dEq (eVar 5) (eC (.str "look"))))
(sDrop (eBM "list" mAppend (eFld "Course" "borders" (eVar 0)) (aCons (eVar 4) aNil)))
sSkip)
(sIf (bE (eCall fIsi (aCons (eVar 5) (aCons (eC (.ty "int")) aNil))))
(sDrop (eBM "list" mAppend (eFld "Course" "spots" (eVar 0)) (aCons (eTup (aCons (eOp dSub (eCall fLen (aCons (eFld "Course" "borders" (eVar 0)) aNil)) (eC (.int 1))) (aCons (eVar 4) aNil))) aNil)))
sSkip)))))
(sDrop (eBM "list" mAppend (eFld "Course" "borders" (eVar 0)) (aCons (eVar 4) aNil)))))))
noncomputable def mf_Coursedd_initdd : FM := mkK 6 mb_Coursedd_initdd

/- Course.behind: 0:self, 1:number, 2:holds, 3:stretch, 4:turned -/
noncomputable def mb_Course_behind : SM :=
(sSeq (sAsg (eOp dIx (eFld "Course" "spots" (eVar 0)) (eVar 1)) (gTp 2 (gsCons (gNm 3) (gsCons (gNm 4) gsNil))))
(sSeq (sIf (bAnd (bE (eVar 2)) (bE (eOp dEq (eVar 4) (eOp dIx (eFld "Course" "borders" (eVar 0)) (eVar 3)))))
(sRet (eC (.int 0)))
sSkip)
(sRet (eOp dSub (eOp dIx (eFld "Course" "borders" (eVar 0)) (eOp dAdd (eVar 3) (eC (.int 1)))) (eVar 4)))))
noncomputable def mf_Course_behind : FM := mkF 5 mb_Course_behind

/- Course.all_behind: 0:self, 1:holds, 2:number -/
noncomputable def mb_Course_all_behind : SM :=
(sRet (eLc (iRange1 (eCall fLen (aCons (eFld "Course" "spots" (eVar 0)) aNil))) (gNm 2) bYes (eMeth "Course" "behind" 3 mf_Course_behind [] (eVar 0) (aCons (eVar 2) (aCons (eVar 1) aNil))) [2]))
noncomputable def mf_Course_all_behind : FM := mkF 3 mb_Course_all_behind

theorem isi_int {i : Int} {st : Store} : fIsi [.int i, .ty "int"] st = some (.bl true, st) := rfl
theorem isi_str {x : Str} {st : Store} : fIsi [.str x, .ty "int"] st = some (.bl false, st) := rfl
theorem ev_isi_int {i : Int} {st : Store} {Q : D → Store → Prop} : EvF fIsi [.int i, .ty "int"] st Q ↔ Q (.bl true) st := evF_some isi_int
theorem ev_isi_str {x : Str} {st : Store} {Q : D → Store → Prop} : EvF fIsi [.str x, .ty "int"] st Q ↔ Q (.bl false) st := evF_some isi_str
theorem ev_is_rotated {st : Store} {S fill : Int} {l : D} {e : Ev} {Q : D → Store → Prop} (k : Q (.bl (rotd S fill e)) st) : EvF mf_is_rotated [.tup [.int S, l], .int fill, e.D] st Q := by
  rw [mf_is_rotated, ev_mkF]
  unfold mb_is_rotated
  cases e with
  | line v =>
    simp only [Ev.D]
    walk_at "ev"
    rw [ev_isi_int]
    walk_at "ev"
    exact fin_tree blw_bl (closeOk_refl st) (by rw [List.take_length]; exact k)
  | look =>
    simp only [Ev.D]
    walk_at "ev"
    rw [ev_isi_str]
    walk_at "ev"
    exact fin_tree blw_bl (closeOk_refl st) (by rw [List.take_length]; exact k)
  | rot =>
    simp only [Ev.D]
    walk_at "ev"
    rw [ev_isi_str]
    walk_at "ev"
    exact fin_tree blw_bl (closeOk_refl st) (by rw [List.take_length]; exact k)
theorem ev_fill_behind {st : Store} {S fill : Int} {l : D} {e : Ev} {Q : D → Store → Prop} (k : Q (.int (fillB S fill e)) st) : EvF mf_fill_behind [.tup [.int S, l], .int fill, e.D] st Q := by
  rw [mf_fill_behind, ev_mkF]
  unfold mb_fill_behind
  walk_at "ev"
  refine ev_is_rotated ?_
  walk_at "ev"
  have e2 : fillB S fill e = (if rotd S fill e = true then 0 else fill) + e.n := rfl
  rw [e2] at k
  generalize rotd S fill e = c at k ⊢
  cases c <;> cases e
  all_goals
    simp only [Ev.D]
    walk_at "ev"
    first
      | rw [ev_isi_int]
      | rw [ev_isi_str]
    walk_at "ev"
    exact fin_tree blw_int (closeOk_refl st) (by rw [List.take_length]; simpa [Ev.n] using k)
theorem put_at {st l : Store} {i : Nat} {w : D} : (st ++ l).set (st.length + i) w = st ++ l.set i w := by rw [List.set_append_right _ _ (by omega), Nat.add_sub_cancel_left]
theorem fld_at {s : Store} {i : Nat} {n f : Str} {v : D} {fs fs' : List Str} {vs vs' : List D} (h : s[i]? = some (.ins n fs vs)) (e : fPutF fs f = fs') (e2 : fPutV fs vs f v = vs') (hl : fs.length < 1000 := by decide) : fldPut n f (.ref i) v s = some (s.set i (.ins n fs' vs')) := by
  simp only [fldPut, h]
  rw [if_pos ⟨trivial, hl⟩, e, e2]
theorem insA_cell {s : Store} {i : Nat} {n : Str} {fs : List Str} {vs : List D} (h : s[i]? = some (.ins n fs vs)) : insA s (.ref i) = some (n, fs, vs) := by
  simp only [insA, h]
theorem insA_tree {s : Store} {n : Str} {fs : List Str} {vs : List D} : insA s (.ins n fs vs) = some (n, fs, vs) := rfl
theorem ev_fld_cell {s : Store} {env : Env} {n f : Str} {m : EM} {Q : D → Store → Prop} (k : EvE m env s fun o s1 => ∃ i fs vs d, o = .ref i ∧ s1[i]? = some (.ins n fs vs) ∧ fGet fs vs f = some d ∧ Q d s1) : EvE (eFld n f m) env s Q := by
  rw [ev_fld]
  exact EvE.mono k fun o s1 ⟨i, fs, vs, d, e, h, h2, q⟩ => ⟨fs, vs, d, e ▸ insA_cell h, h2, q⟩
/-! the class Course -/
def spotD (x : Int × Int) : D := .tup [.int x.1, .int x.2]
def courseD (c : CS) : D := .ins "Course" ["spots", "borders"] [.lst (c.spots.map spotD), .lst (c.ends.map .int)]
def CrsI (st : Store) (S : Int) (l : D) (es : List Ev) (i : Nat) (env : Env) (s : Store) : Prop := ∃ x5, env = [some (.ref st.length), some (.tup [.int S, l]), some (.tup (es.map Ev.D)), some (.int (CS.run S (es.take i)).fill), some (.int (CS.run S (es.take i)).turned), x5] ∧
  s = st ++ [.ins "Course" ["spots", "borders"] [.ref (st.length + 1), .ref (st.length + 2)], .lst ((CS.run S (es.take i)).spots.map spotD), .lst ((CS.run S (es.take i)).borders.map .int)]
theorem ev_cinit {st : Store} {S : Int} {l : D} {es : List Ev} {Q : D → Store → Prop} (hl : es.length ≤ 1000)
    (k : Q .non (st ++ [.ins "Course" ["spots", "borders"] [.ref (st.length + 1), .ref (st.length + 2)], .lst ((CS.run S es).spots.map spotD), .lst ((CS.run S es).ends.map .int)])) :
    EvF mf_Coursedd_initdd [.ref st.length, .tup [.int S, l], .tup (es.map Ev.D)] (st ++ [.ins "Course" [] []]) Q := by
  rw [mf_Coursedd_initdd, ev_mkK]
  unfold mb_Coursedd_initdd
  walk_at "ev"
  walk_at "st"
  have c0 : ∀ (x : D) (l : Store), (st ++ x :: l)[st.length]? = some x := fun x l => cell_n0
  refine ⟨_, fld_at (c0 _ _) rfl rfl, _, fld_at (up_app (up_eq (c0 _ _)) _) rfl rfl, ?_⟩
  walk_at "st"
  rw [put_n0]
  walk_at "st"
  rw [put_n0]
  refine for_inv (CrsI st S l es) ⟨none, rfl, rfl⟩ (fun _ _ _ _ _ => trivial) ?_ ?_
  · rintro i hi env s ⟨x5, rfl, rfl⟩
    rw [List.length_map] at hi
    refine ⟨_, rfl, ?_⟩
    rw [List.getElem_map]
    have hnx : CS.run S (es.take (i + 1)) = CS.step S (CS.run S (es.take i)) es[i] := by
      rw [take_at (List.getElem?_eq_getElem hi), CS.run_snoc]
    have lens := CS.lens S (es.take i)
    rw [List.length_take, Nat.min_eq_left (Nat.le_of_lt hi)] at lens
    have fin : ∀ (x5 : Option D) (c : CS), c = CS.step S (CS.run S (es.take i)) es[i] → CrsI st S l es (i + 1) [some (.ref st.length), some (.tup [.int S, l]), some (.tup (es.map Ev.D)), some (.int c.fill), some (.int c.turned), x5]
        (st ++ [.ins "Course" ["spots", "borders"] [.ref (st.length + 1), .ref (st.length + 2)], .lst (c.spots.map spotD), .lst (c.borders.map .int)]) := by
      intro x5 c e
      subst e
      exact ⟨x5, by rw [hnx], by rw [hnx]⟩
    generalize es[i] = e at fin ⊢
    generalize CS.run S (es.take i) = c at fin lens ⊢
    walk_at "ev"
    refine ev_is_rotated ?_
    walk_at "ev"
    refine ev_fill_behind ?_
    walk_at "ev"
    have h0 : ∀ x y z : D, (st ++ [x, y, z])[st.length]? = some x := fun x y z => up_at (i := 0) rfl
    have h1 : ∀ x y z : D, (st ++ [x, y, z])[st.length + 1]? = some y := fun x y z => up_at (i := 1) rfl
    have h2 : ∀ x y z : D, (st ++ [x, y, z])[st.length + 2]? = some z := fun x y z => up_at (i := 2) rfl
    have p1 : ∀ x y z w : D, (st ++ [x, y, z]).set (st.length + 1) w = st ++ [x, w, z] := fun x y z w => put_at (i := 1)
    have p2 : ∀ x y z w : D, (st ++ [x, y, z]).set (st.length + 2) w = st ++ [x, y, w] := fun x y z w => put_at (i := 2)
    have hsz : ∀ n : Nat, n ≤ 2000 → n < sizeLine := fun n h => Nat.lt_of_le_of_lt h (by decide)
    cases e with
    | look =>
      simp only [Ev.D]
      walk_at "ev"
      refine ⟨_, _, insA_cell (h0 _ _ _), _, rfl, app_ev (h2 _ _ _) (hsz _ (by rw [List.length_map]; omega)) ?_⟩
      rw [ev_isi_str]
      walk_at "ev"
      rw [p2]
      refine cast (congrArg (CrsI st S l es (i + 1) _) ?_) (fin (some (.str "look")) _ rfl)
      show _ = st ++ [_, _, D.lst (c.borders.map D.int ++ [_])]
      simp only [CS.step, List.map_append]
      rfl
    | rot =>
      simp only [Ev.D]
      walk_at "ev"
      rw [ev_isi_str]
      walk_at "ev"
      exact fin (some (.str "rotate")) _ rfl
    | line v =>
      simp only [Ev.D]
      walk_at "ev"
      rw [ev_isi_int]
      walk_at "ev"
      refine ⟨_, _, insA_cell (h0 _ _ _), _, rfl, tyD_cell (h1 _ _ _), _, _, insA_cell (h0 _ _ _), _, rfl, ?_⟩
      rw [ev_len_cell (h2 _ _ _)]
      walk_at "ev"
      refine ⟨_, _, app_cell (h1 _ _ _) (hsz _ (by rw [List.length_map]; omega)), ?_⟩
      rw [p1]
      refine cast (congrArg (CrsI st S l es (i + 1) _) ?_) (fin (some (.int v)) _ rfl)
      simp only [CS.step, List.map_append, List.length_map]
      rfl
  · rintro env s ⟨x5, rfl, rfl⟩
    rw [List.length_map, List.take_length]
    have lens := CS.lens S es
    have hsz : ∀ n : Nat, n ≤ 2000 → n < sizeLine := fun n h => Nat.lt_of_le_of_lt h (by decide)
    walk_at "ev"
    refine ⟨_, _, insA_cell (up_at (i := 0) rfl), _, rfl, app_ev (up_at (i := 2) rfl) (hsz _ (by rw [List.length_map]; omega)) ?_⟩
    refine cast (congrArg (Q .non) ?_) k
    rw [put_at (i := 2)]
    simp only [CS.ends, List.map_append]
    rfl
theorem intsTo_range (n : Nat) : intsTo 0 n = (List.range n).map fun (i : Nat) => D.int (i : Int) := by
  unfold intsTo
  refine List.map_congr_left fun i _ => ?_
  rw [Int.zero_add]
theorem intsTo_mem {n : Nat} {d : D} (h : d ∈ intsTo 0 n) : ∃ i : Nat, i < n ∧ d = .int (i : Int) := by
  rw [intsTo_range] at h
  obtain ⟨i, hi, rfl⟩ := List.mem_map.mp h
  exact ⟨i, List.mem_range.mp hi, rfl⟩
theorem lkc_ins {st : Store} {n k i : Nat} {m : Str} {fs : List Str} {ds : List D} (h : st[i]? = some (.ins m fs ds)) (hn : n ≤ i) : lkc st n (k + 1) i = (fzs (lkc st n k) ds).map (.ins m fs) := by
  simp only [lkc, if_neg (Nat.not_lt.mpr hn), h]
theorem ev_behind {st : Store} {c : CS} {n : Nat} {holds : Bool} {Q : D → Store → Prop} (h : CS.Ok c) (hn : n < c.spots.length) (k : Q (.int (c.behind n holds)) st) : EvF mf_Course_behind [courseD c, .int n, .bl holds] st Q := by
  rw [mf_Course_behind, ev_mkF]
  unfold mb_Course_behind courseD
  have el : c.ends.length = c.borders.length + 1 := by simp [CS.ends]
  obtain ⟨l1, l2, l3, l4, l5⟩ := h.ln n hn
  have at0 : atI (c.spots.map spotD) (n : Int) = some (.tup [.int (c.stretch n), .int (c.file n)]) := by
    refine atI_nat ?_
    rw [List.getElem?_map, List.getElem?_eq_getElem hn]
    unfold CS.stretch CS.file
    rw [List.getD_eq_getElem?_getD, List.getElem?_eq_getElem hn]
    rfl
  have atE : ∀ j : Nat, j < c.ends.length → atI (c.ends.map D.int) (j : Int) = some (.int (c.ends.getD j 0)) := by
    intro j hj
    refine atI_nat ?_
    rw [List.getElem?_map, List.getElem?_eq_getElem hj, List.getD_eq_getElem?_getD, List.getElem?_eq_getElem hj]
    rfl
  obtain ⟨q, hq⟩ : ∃ q : Nat, c.stretch n = q := ⟨(c.stretch n).toNat, by omega⟩
  have at1 : atI (c.ends.map D.int) (c.stretch n) = some (.int (c.since (c.stretch n))) := by
    unfold CS.since
    rw [hq]
    exact atE q (by omega)
  have at2 : atI (c.ends.map D.int) (c.stretch n + 1) = some (.int (c.upto (c.stretch n))) := by
    unfold CS.upto
    rw [hq]
    exact atE (q + 1) (by omega)
  walk_at "ev"
  refine ⟨_, _, insA_tree, _, rfl, _, at0, _, rfl, ?_⟩
  walk_at "ev"
  unfold CS.behind at k
  split
  · rename_i hh
    subst hh
    walk_at "ev"
    refine ⟨_, _, insA_tree, _, rfl, _, at1, ?_⟩
    walk_at "ev"
    split
    · rename_i e
      rw [if_pos ⟨rfl, e⟩] at k
      exact fin_tree blw_int (closeOk_refl st) (by rw [List.take_length]; exact k)
    · rename_i e
      rw [if_neg (fun z => e z.2)] at k
      walk_at "ev"
      refine ⟨_, _, insA_tree, _, rfl, _, at2, ?_⟩
      walk_at "ev"
      exact fin_tree blw_int (closeOk_refl st) (by rw [List.take_length]; exact k)
  · rename_i hh
    rw [if_neg (fun z => hh z.1)] at k
    walk_at "ev"
    refine ⟨_, _, insA_tree, _, rfl, _, at2, ?_⟩
    walk_at "ev"
    exact fin_tree blw_int (closeOk_refl st) (by rw [List.take_length]; exact k)
theorem ev_all_behind {st : Store} {c : CS} {holds : Bool} {Q : D → Store → Prop} (h : CS.Ok c) (hl : c.spots.length ≤ 1000) (k : Q (.lst (((List.range c.spots.length).map fun n => c.behind n holds).map .int)) st) : EvF mf_Course_all_behind [courseD c, .bl holds] st Q := by
  rw [mf_Course_all_behind, ev_mkF]
  unfold mb_Course_all_behind
  have hsz : ∀ n : Nat, n ≤ 2000 → n ≤ sizeLine := fun n h => Nat.le_trans h (by decide)
  walk_at "ev"
  refine ⟨_, _, insA_tree, _, rfl, ?_⟩
  rw [ev_len_lst, List.length_map]
  walk_at "ev"
  refine ⟨by omega, by omega, ?_⟩
  refine lc_map (fun _ => true) (fun d => match d with | .int i => .int (c.behind i.toNat holds) | _ => .non) trivial ?_ ?_
  · intro d hd
    obtain ⟨i, hi, rfl⟩ := intsTo_mem hd
    refine ⟨_, rfl, ?_⟩
    walk_at "ev"
    intro _
    refine ⟨_, _, insA_tree, by decide, ?_⟩
    exact ev_behind h (by omega) ⟨rfl, by rw [Int.toNat_natCast]⟩
  · have e : ((intsTo 0 (c.spots.length : Int).toNat).filter fun _ => true).map (fun d => match d with | .int i => D.int (c.behind i.toNat holds) | _ => .non) = ((List.range c.spots.length).map fun n => c.behind n holds).map .int := by
      rw [filter_yes, intsTo_range, List.map_map, List.map_map, Int.toNat_natCast]
      rfl
    rw [e]
    refine ⟨hsz _ (by simp; omega), fin_tree (blw_lst blws_ints) (closeOk_refl st) (by rw [List.take_length]; exact k)⟩
theorem ev_course {st : Store} {S : Int} {l : D} {es : List Ev} {Q : D → Store → Prop} (hl : es.length ≤ 1000) (k : Q (courseD (CS.run S es)) st) :
    EvF mf_Coursedd_initdd [.ref st.length, .tup [.int S, l], .tup (es.map Ev.D)] (st ++ [.ins "Course" [] []]) fun d s2 => d = .non ∧ EvF (fun _ s => fin st (.ref st.length) s) [] s2 Q := by
  refine ev_cinit hl ⟨rfl, ?_⟩
  refine fin_to (r' := courseD (CS.run S es)) ?_ (closeOk_app _ _) (by rw [cut_0]; exact k)
  have a0 : ∀ x y z : D, (st ++ [x, y, z])[st.length]? = some x := fun x y z => up_at (i := 0) rfl
  have a1 : ∀ x y z : D, (st ++ [x, y, z])[st.length + 1]? = some y := fun x y z => up_at (i := 1) rfl
  have a2 : ∀ x y z : D, (st ++ [x, y, z])[st.length + 2]? = some z := fun x y z => up_at (i := 2) rfl
  simp only [fz]
  rw [lkc_ins (a0 _ _ _) (Nat.le_refl _)]
  simp only [fzs, fz]
  have sp : ∀ xs : List (Int × Int), D.blws 0 (xs.map spotD) = true := fun xs => blws_map (fun _ => blw_tup (blws_cons blw_int (blws_cons blw_int blws_nil))) xs
  rw [lkc_lst (k := 1) (a1 _ _ _) (by omega) (sp _), lkc_lst (k := 1) (a2 _ _ _) (by omega) blws_ints]
  rfl
end My

namespace My
open PySem PySem.Spec PyProof.Rows L2
/-! ### a statement that is never reached: raise -/
def sStuck : SM := fun _ _ => none
theorem js_stuck {X : Cx} {W : Wd} {a : Stmt} : PS X a (TSt W sStuck) := ⟨fun pins s σ H D I ⟨ι, st, env, o, st', r, n, e, k⟩ => by cases e⟩
theorem ev_stuck {env : Env} {st : Store} {QS : Out → Store → Prop} : EvS sStuck env st QS ↔ False := by
  constructor
  · rintro ⟨o, s, e, _⟩
    cases e
  · intro h
    cases h
/-! ### a slice of a list, as a cell -/
noncomputable def eSlM (mx : EM) (ml mh : OM) : EM := fun env st => match mx env st with
  | some (x, s1) => match ml env s1 with
    | some (lo, s2) => match mh env s2 with
      | some (hi, s3) => match seqL s3 x with
        | some xs => some (.ref s3.length, s3 ++ [.lst (cutD xs lo hi)])
        | none => none
      | none => none
    | none => none
  | none => none
def MSlM (W : Wd) : V → Option Int → Option Int → Hp → VK → Prop := fun x lo hi H Q => ∃ ι st a xs, RelH W ι H st ∧ Rep W ι H a x ∧ seqL st a = some xs ∧ OkE W ι H (.ref st.length) (st ++ [.lst (cutD xs lo hi)]) Q
section
variable {X : Cx} {W : Wd}
theorem j_slM : SlR X (MSlM W) := by
  intro pins s σ H x v vl vu lo hi sl Q I rx hs pl pu ⟨ι, st, a, xs, r, ha, e, k⟩
  obtain ⟨p, us, rfl, h1, h2⟩ := seqL_ok r ha e
  exact sl_list pins s σ H _ v vl vu lo hi sl Q I rx hs pl pu ⟨p, us, rfl, SqL.of h1, fun q hq => k.lstM r (cutD_rep h2 lo hi) hq⟩
theorem j_sliceM {e : Expr} {lo hi : Option Expr} {p2 pos : Pos} {m : EM} {ml mh : OM} (he : PE X e (T W m)) (hl : PO X lo (TOm W ml)) (hh : PO X hi (TOm W mh)) : PE X (.Subscript e (.Slice lo hi none p2) pos) (T W (eSlM m ml mh)) :=
  (pe_slice (j_slM (W := W)) he hl hh).imp fun σ H Q ⟨ι, st, env, d, st', r, n, e, k⟩ => by
    unfold eSlM at e
    split at e
    · rename_i x s1 q1
      split at e
      · rename_i o1 s2 q2
        split at e
        · rename_i o2 s3 q3
          split at e
          · rename_i xs q4
            cases e
            exact T.of r n q1 fun v ι1 H1 g1 r1 p1 => ⟨ι1, s1, env, o1, s2, r1, n.grow g1, q2, fun ι2 H2 g2 r2 => ⟨ι2, s2, env, o2, _, r2, (n.grow g1).grow g2, q3, fun ι3 H3 g3 r3 => ⟨ι3, _, x, xs, r3, Rep.grow g3 _ _ (Rep.grow g2 _ _ p1), q4, k.go ((g1.trans g2).trans g3)⟩⟩⟩
          · cases e
        · cases e
      · cases e
    · cases e
end
section
variable {env : Env} {st : Store} {Q : D → Store → Prop}
theorem ev_slM {mx : EM} {ml mh : OM} : EvE (eSlM mx ml mh) env st Q ↔ EvE mx env st fun x s1 => ∃ lo s2, ml env s1 = some (lo, s2) ∧ ∃ hi s3, mh env s2 = some (hi, s3) ∧ ∃ xs, seqL s3 x = some xs ∧ Q (.ref s3.length) (s3 ++ [.lst (cutD xs lo hi)]) := by
  unfold EvE eSlM
  constructor
  · rintro ⟨d, s, e, q⟩
    split at e
    · rename_i x s1 h1
      split at e
      · rename_i lo s2 h2
        split at e
        · rename_i hi s3 h3
          split at e
          · rename_i xs h4
            cases e
            exact ⟨_, _, h1, _, _, h2, _, _, h3, _, h4, q⟩
          · cases e
        · cases e
      · cases e
    · cases e
  · rintro ⟨x, s1, h1, lo, s2, h2, hi, s3, h3, xs, h4, q⟩
    exact ⟨_, _, by rw [h1]; simp only [h2, h3, h4], q⟩
end
/-! ### comprehensions with two walks -/
/-- where a comprehension stands: its list is hidden -/
structure LcSt (W : Wd) (ι1 : Lay) (H1 : Hp) (L : Addr) (ι2 : Lay) (H : Hp) (s : Store) (acc : List D) (vacc : List V) : Prop where
  g2 : Grow ι1 H1 ι2 H
  gg : Gro ι1 H1 (ι2.hide L) H
  r2 : RelH W (ι2.hide L) H s
  hL : H L = some (.lst vacc)
  ha : Reps W (ι2.hide L) H acc vacc
section
variable {W : Wd} {ι1 ι2 ι4 : Lay} {H1 H H4 : Hp} {L : Addr} {s s4 : Store} {acc : List D} {vacc : List V}
theorem Gro.grow {ι ι' ι'' : Lay} {H H' H'' : Hp} (a : Gro ι H ι' H') (b : Grow ι' H' ι'' H'') : Gro ι H ι'' H'' :=
  ⟨fun i x h => b.pre i x (a.pre i x h), fun x o nn h => b.gro.keep x o (nn.imp (fun nn => a.notin x o nn h) id) (a.keep x o nn h), fun x o nn h => b.gro.notin x o (a.notin x o nn h) (a.keep x o (.inl nn) h)⟩
theorem LcSt.out (h : LcSt W ι1 H1 L ι2 H s acc vacc) : L ∉ (ι2.hide L).c := fun z => h.r2.dis L z List.mem_cons_self
theorem LcSt.move (h : LcSt W ι1 H1 L ι2 H s acc vacc) (hL1 : H1 L = none) (gg : Grow (ι2.hide L) H ι4 H4) (r4 : RelH W ι4 H4 s4) : ∃ ι5, ι4 = Lay.hide ι5 L ∧ LcSt W ι1 H1 L ι5 H4 s4 acc vacc := by
  have hk5 : ι4.k = L :: ι2.k := gg.hid
  have e5 : ι4 = (Lay.hide ⟨ι4.c, ι2.k⟩ L) := by
    cases ι4
    simp only [Lay.hide]
    exact congrArg _ hk5
  have hL5 : H4 L = some (.lst vacc) := gg.keep _ _ (.inl h.out) h.hL
  have hacc5 := Reps.grow gg _ _ h.ha
  have g2 := h.g2
  have gg3 := h.gg.grow gg
  rw [e5] at r4 hacc5 gg gg3
  refine ⟨⟨ι4.c, ι2.k⟩, e5, ⟨⟨fun i a q => gg.pre i a (g2.pre i a q), fun a o nn q => ?_, fun a m => ?_, g2.hid⟩, gg3, r4, hL5, hacc5⟩⟩
  · exact gg.keep a o (nn.imp (fun nn z => by
      rcases g2.new a z with q' | q'
      · exact nn q'
      · rw [q] at q'; cases q') id) (g2.keep a o nn q)
  · rcases gg.new a m with q | q
    · exact g2.new a q
    · by_cases hc : a ∈ ι1.c
      · exact .inl hc
      · refine .inr ?_
        cases e : H1 a with
        | none => rfl
        | some o => rw [g2.keep a o (.inl hc) e] at q; cases q
theorem LcSt.push (h : LcSt W ι1 H1 L ι2 H s acc vacc) (hL1 : H1 L = none) {y : D} {v : V} (p : Rep W (ι2.hide L) H y v) : LcSt W ι1 H1 L ι2 (upd H L (.lst (vacc ++ [v]))) s (acc ++ [y]) (vacc ++ [v]) :=
  ⟨⟨h.g2.pre, fun a o nn q => kp_set (ne_of_none q hL1) (h.g2.keep a o nn q), h.g2.new, h.g2.hid⟩, ⟨h.gg.pre, fun a o nn q => kp_set (ne_of_none q hL1) (h.gg.keep a o nn q), h.gg.notin⟩,
    h.r2.over List.mem_cons_self h.hL trivial, upd_same, Reps.gro (Gro.over List.mem_cons_self h.hL trivial) _ _ (Reps.append h.ha (Reps.cons p Reps.nil))⟩
/-- the other walk's ground stands, too, while the list grows -/
theorem Gro.pushed {ιa : Lay} {Ha : Hp} {va : List V} {o : HO} (h : Gro ιa Ha (ι2.hide L) H) (hk : L ∈ ιa.k) (ha : Ha L = some (.lst va)) : Gro ιa Ha (ι2.hide L) (upd H L o) :=
  ⟨h.pre, fun a u nn q => by
    by_cases z : a = L
    · subst z
      rcases nn with nn | nn
      · exact absurd (.inr hk) nn
      · rw [ha] at q
        cases q
        exact absurd trivial nn
    · rw [upd_ne z]
      exact h.keep a u nn q, h.notin⟩
end
open Classical in
noncomputable def lcGo2 (gd : Store → Prop) (g : GM) (tt : TM) (im1 : IM) (g1 : GM) (tt1 : TM) (el : EM) (vs1 : List Nat) (env : Env) : List D → Store → Option (List D × Store)
  | [], st => if gd st then some ([], st) else none
  | d :: ds, st => if gd st then match g d env with
      | some e2 => match tt e2 st with
        | some (true, s1) => match im1 e2 s1 with
          | some (ds1, gd1, s2) => match lcGo gd1 g1 tt1 el (wipeE e2 vs1) ds1 s2 with
            | some (ys, s3) => match lcGo2 gd g tt im1 g1 tt1 el vs1 env ds s3 with
              | some (zs, s4) => some (ys ++ zs, s4)
              | none => none
            | none => none
          | none => none
        | some (false, s1) => lcGo2 gd g tt im1 g1 tt1 el vs1 env ds s1
        | none => none
      | none => none
    else none
noncomputable def eLc2 (im : IM) (g : GM) (tt : TM) (im1 : IM) (g1 : GM) (tt1 : TM) (el : EM) (vs vs1 : List Nat) : EM := fun env st => match im env st with
  | some (ds, gd, s1) => match lcGo2 gd g tt im1 g1 tt1 el vs1 (wipeE env vs) ds s1 with
    | some (ys, s2) => if ys.length ≤ sizeLine then some (.lst ys, s2) else none
    | none => none
  | none => none
section
variable {W : Wd}
theorem wipe_twice (σ : L2.St) (vs : List Nat) : L2.wipe (L2.wipe σ vs) vs = L2.wipe σ vs := lc_of.wipe_wipe σ vs
theorem lc2_of {im : IM} {g : GM} {tt : TM} {im1 : IM} {g1 : GM} {tt1 : TM} {el : EM} {vs vs1 : List Nat} {σ : L2.St} {H : Hp} {Q : VK} (h : T W (eLc2 im g tt im1 g1 tt1 el vs vs1) σ H Q) :
    tLc2 (TIm W im) (TGm W g vs) (TB W tt) (TIm W im1) (TGm W g1 vs1) (TB W tt1) (T W el) vs vs1 σ H Q := by
  obtain ⟨ι, st, env, d, st', r, n, e, k⟩ := h
  unfold eLc2 at e
  split at e
  · rename_i ds gd s1 e1
    split at e
    · rename_i ys s2 e2
      split at e
      · rename_i hz
        cases e
        refine ⟨ι, st, env, ds, gd, s1, r, n, e1, fun J ι1 H1 g1' r1 ok L hL => ?_⟩
        have n1 := n.grow g1'
        refine ⟨fun i m H => i + m = ds.length ∧ ∃ ι2 s acc rest vacc, LcSt W ι1 H1 L ι2 H s acc vacc ∧ lcGo2 gd g tt im1 g1 tt1 el vs1 (wipeE env vs) (ds.drop i) s = some (rest, st') ∧ ys = acc ++ rest,
          ⟨ds.length, by omega, ι1, s1, [], ys, [], ⟨Grow.laid hL, Gro.hide hL, r1.hide hL, upd_same, Reps.nil⟩, e2, rfl⟩, ?_⟩
        rintro i m H2 ⟨hm, ι2, s, acc, rest, vacc, S2, hgo, hys⟩
        by_cases hi : i < ds.length
        · right
          have hd : ds.drop i = ds[i] :: ds.drop (i + 1) := List.drop_eq_getElem_cons hi
          rw [hd] at hgo
          unfold lcGo2 at hgo
          split at hgo
          · rename_i hgd
            obtain ⟨j1, j2⟩ := ok.go i _ H2 s _ S2.gg S2.r2 hgd (List.getElem?_eq_getElem hi)
            refine ⟨j1, fun H' => ∃ ι2 s acc rest vacc, LcSt W ι1 H1 L ι2 H' s acc vacc ∧ lcGo2 gd g tt im1 g1 tt1 el vs1 (wipeE env vs) (ds.drop (i + 1)) s = some (rest, st') ∧ ys = acc ++ rest, fun H' nx => ⟨m - 1, by omega, by omega, nx⟩, fun x H3 hy => ?_⟩
            obtain ⟨g3, r3, p3⟩ := j2 x H3 hy
            split at hgo
            · rename_i e3 q3
              have n3 : REnv W (ι2.hide L) H3 (wipeE env vs) (L2.wipe σ vs) := ((n1.wipe vs).gro S2.gg).grow g3
              refine ⟨_, s, _, _, e3, r3, n3, p3, q3, fun σ2 n4 w4 => ⟨w4.trans (wipe_twice σ vs), ?_⟩⟩
              split at hgo
              · rename_i s4 q4
                refine TB.of r3 n4 q4 fun ι4 H4 g4 r4 => ?_
                rw [if_pos rfl]
                split at hgo
                · rename_i ds1 gd1 s5 q5
                  split at hgo
                  · rename_i ys1 s6 q6
                    split at hgo
                    · rename_i zs s7 q7
                      cases hgo
                      refine ⟨ι4, s4, e3, ds1, gd1, s5, r4, n4.grow g4, q5, fun J1 ι5 H5 g5 r5 ok1 => ?_⟩
                      obtain ⟨ι5', rfl, S5⟩ := S2.move hL ((g3.trans g4).trans g5) r5
                      have n5 := (n4.grow g4).grow g5
                      have hk5 : L ∈ (ι5'.hide L).k := List.mem_cons_self
                      refine ⟨fun j kk H => j + kk = ds1.length ∧ ∃ ι2 s acc1 rest1 vacc, LcSt W ι1 H1 L ι2 H s (acc ++ acc1) vacc ∧ Gro (ι5'.hide L) H5 (ι2.hide L) H ∧ lcGo gd1 g1 tt1 el (wipeE e3 vs1) (ds1.drop j) s = some (rest1, s6) ∧ ys1 = acc1 ++ rest1,
                        ⟨ds1.length, by omega, ι5', s5, [], ys1, vacc, by rw [List.append_nil]; exact S5, ⟨fun _ _ h => h, fun _ _ _ h => h, fun _ _ h _ => h⟩, q6, rfl⟩, ?_⟩
                      rintro j kk H6 ⟨hm1, ι6, s8, acc1, rest1, vacc1, S6, gr6, hgo1, hys1⟩
                      by_cases hj : j < ds1.length
                      · right
                        have hd1 : ds1.drop j = ds1[j] :: ds1.drop (j + 1) := List.drop_eq_getElem_cons hj
                        rw [hd1] at hgo1
                        unfold lcGo at hgo1
                        split at hgo1
                        · rename_i hgd1
                          obtain ⟨j1', j2'⟩ := ok1.go j _ H6 s8 _ gr6 S6.r2 hgd1 (List.getElem?_eq_getElem hj)
                          refine ⟨j1', fun H' => ∃ ι2 s acc1 rest1 vacc, LcSt W ι1 H1 L ι2 H' s (acc ++ acc1) vacc ∧ Gro (ι5'.hide L) H5 (ι2.hide L) H' ∧ lcGo gd1 g1 tt1 el (wipeE e3 vs1) (ds1.drop (j + 1)) s = some (rest1, s6) ∧ ys1 = acc1 ++ rest1, fun H' nx => ⟨kk - 1, by omega, by omega, nx⟩, fun x1 H7 hy1 => ?_⟩
                          obtain ⟨g7, r7, p7⟩ := j2' x1 H7 hy1
                          split at hgo1
                          · rename_i e7 q8
                            have n7 : REnv W (ι6.hide L) H7 (wipeE e3 vs1) (L2.wipe σ2 vs1) := ((n5.wipe vs1).gro gr6).grow g7
                            refine ⟨_, s8, _, _, e7, r7, n7, p7, q8, fun σ3 n8 w8 => ⟨w8.trans (wipe_twice σ2 vs1), ?_⟩⟩
                            split at hgo1
                            · rename_i s9 q9
                              refine TB.of r7 n8 q9 fun ι9 H9 g9 r9 => ?_
                              rw [if_pos rfl]
                              split at hgo1
                              · rename_i y s10 q10
                                split at hgo1
                                · rename_i ys' s11 q11
                                  cases hgo1
                                  refine T.of r9 (n8.grow g9) q10 fun v ι10 H10 g10 r10 p10 => ?_
                                  have gall := (g7.trans g9).trans g10
                                  have gr10 := gr6.grow gall
                                  obtain ⟨ι11, rfl, S10⟩ := S6.move hL gall r10
                                  have lz : (acc ++ acc1).length + 1 ≤ ys.length := by rw [hys, hys1]; simp; omega
                                  refine ⟨vacc1, S10.hL, by rw [← S10.ha.length]; omega, ι11, s10, acc1 ++ [y], ys', vacc1 ++ [v], ?_, gr10.pushed hk5 S5.hL, q11, by rw [hys1]; simp⟩
                                  rw [← List.append_assoc]
                                  exact S10.push hL p10
                                · cases hgo1
                              · cases hgo1
                            · rename_i s9 q9
                              refine TB.of r7 n8 q9 fun ι9 H9 g9 r9 => ?_
                              rw [if_neg Bool.false_ne_true]
                              have gall := g7.trans g9
                              have gr9 := gr6.grow gall
                              obtain ⟨ι10, rfl, S9⟩ := S6.move hL gall r9
                              exact ⟨ι10, s9, acc1, rest1, vacc1, S9, gr9, hgo1, hys1⟩
                            · cases hgo1
                          · cases hgo1
                        · cases hgo1
                      · left
                        have hje : j = ds1.length := by omega
                        subst hje
                        rw [List.drop_length] at hgo1
                        unfold lcGo at hgo1
                        split at hgo1
                        · rename_i hgd1
                          cases hgo1
                          refine ⟨ok1.stop _ H6 _ gr6 S6.r2 hgd1, ι6, s6, acc ++ acc1, zs, vacc1, S6, q7, ?_⟩
                          rw [List.append_nil] at hys1
                          rw [hys, hys1, List.append_assoc]
                        · cases hgo1
                    · cases hgo
                  · cases hgo
                · cases hgo
              · rename_i s4 q4
                refine TB.of r3 n4 q4 fun ι4 H4 g4 r4 => ?_
                rw [if_neg Bool.false_ne_true]
                obtain ⟨ι5, rfl, S4⟩ := S2.move hL (g3.trans g4) r4
                exact ⟨ι5, s4, acc, rest, vacc, S4, hgo, hys⟩
              · cases hgo
            · cases hgo
          · cases hgo
        · left
          have hie : i = ds.length := by omega
          subst hie
          rw [List.drop_length] at hgo
          unfold lcGo2 at hgo
          split at hgo
          · rename_i hgd
            cases hgo
            refine ⟨ok.stop _ H2 _ S2.gg S2.r2 hgd, ?_⟩
            rw [List.append_nil] at hys
            subst hys
            refine k _ ι2 H2 (g1'.trans S2.g2) S2.r2.show ?_
            simp only [Rep]
            refine ⟨L, rfl, fun z => ?_, vacc, S2.hL, Reps.gro Gro.show _ _ S2.ha⟩
            rcases z with z | z
            · exact S2.r2.dis L z List.mem_cons_self
            · rw [S2.g2.hid] at z
              exact r1.free hL (.inr z)
          · cases hgo
      · cases e
    · cases e
  · cases e
end
end My

namespace My
open PySem PySem.Spec PyProof.Rows L2
/-! ### f(k = v, ..): all by name -/
section
variable {X : Cx} {CX : CXT} {k n : Nat} {f : Addr} {fd : FuncData} {ps ks : List Str} {sp : Sp} {E : XK} {x : Str} {p pos : Pos} {kws : List Keyword} {tk : TA} {g : List Value → List Value → List Value} {gV : List V → List V → List V}
theorem pe_callN0 (F : FnOk X.prog X.w X.K X.mg X.base CX k f fd ps sp) (hr : Room k X.A) (hg : Gl X x) (hm : X.mg x = some (.ref f)) (hk : PySem.W.keepIn X.K (.ref f) = true) (hb : KBn X.K fd ps 0 ks g gV) (hx : Passes CX X E)
    (hkw : PK X kws tk) (hall : (backToKw pos (keywordEach kws X.env)).all (·.1.isSome) = true := by rfl) (hks : (backToKw pos (keywordEach kws X.env)).filterMap (·.1) = ks := by rfl)
    (hdb : (x == ("__debug__" : Str)) = false := by decide)
    (hpl : ((backTo pos (starEach [] X.env)).any (·.1) || (backToKw pos (keywordEach kws X.env)).any (·.1.isNone)) = false := by rfl) :
    PE X (.Call (.Name x p) [] kws pos) (tCallN 0 ks.length sp gV E tNil tk) := by
  refine ⟨fun pins s σ H Q I h => ?_⟩
  refine wpAny_Call_Name_kw (ld_glob I hg hm ?_ hdb)
  refine PySem.W.callWith_KW0 (h₀ := X.base) I.ok.mod.kin hk hall ?_ hpl
  refine thn (hkw.run pos pins s σ H _ I h) fun ws s2 ⟨zs, H2, I2, rz, l1, l2, q2⟩ => ⟨I2.kIn, ?_⟩
  rw [hks]
  exact run_fnN (us := []) (vs := []) F hr hb hx I2 .nil rz rfl l2 q2
end
section
variable {X : Cx} {W : Wd} {k n : Nat} {f : Addr} {fd : FuncData} {ps ks : List Str} {F : FM} {E : XK} {x : Str} {p pos : Pos}
theorem j_callN0 {kws : List Keyword} {km : AM} {g : List Value → List Value → List Value} {gV : List V → List V → List V} {gD : List D → List D → List D} {m : Nat} (F0 : FnOk X.prog X.w X.K X.mg X.base CX0 k f fd ps (spM W n F)) (hr : Room k X.A) (hg : Gl X x) (hm : X.mg x = some (.ref f)) (hk : PySem.W.keepIn X.K (.ref f) = true) (hb : KBn X.K fd ps 0 ks g gV)
    (hgD : ∀ ι H (xs zs : List D) (vs us : List V), Reps W ι H xs vs → Reps W ι H zs us → Reps W ι H (gD xs zs) (gV vs us)) (hx : Passes CX0 X E)
    (hkw : PK X kws (TAs W km)) (hall : (backToKw pos (keywordEach kws X.env)).all (·.1.isSome) = true := by rfl) (hks : (backToKw pos (keywordEach kws X.env)).filterMap (·.1) = ks := by rfl)
    (hdb : (x == ("__debug__" : Str)) = false := by decide)
    (hpl : ((backTo pos (starEach [] X.env)).any (·.1) || (backToKw pos (keywordEach kws X.env)).any (·.1.isNone)) = false := by rfl) (hmk : ks.length = m := by rfl) :
    PE X (.Call (.Name x p) [] kws pos) (T W (eCallN n 0 m F gD aNil km)) := hmk ▸ (pe_callN0 F0 hr hg hm hk hb hx hkw hall hks hdb hpl).imp fun σ H Q ⟨ι, st, env, d, st', r, q, e, k⟩ => by
  unfold eCallN aNil at e
  dsimp only at e
  split at e
  · rename_i zs s2 e2
    split at e
    · rename_i hl
      exact TA.of r q e2 fun us ι2 H2 g2 r2 p2 => ⟨rfl, by rw [← p2.length]; exact hl.2.1, ι2, s2, gD [] zs, d, st', r2, hgD _ _ _ _ _ _ Reps.nil p2, hl.2.2, e, k.go g2⟩
    · cases e
  · cases e
end
end My

namespace My
open PySem PySem.Spec PyProof.Rows L2
/-! ### comprehensions with two walks: the rules -/
section
variable {X : Cx} {W : Wd}
theorem j_lc2 {elt tg iter tg1 iter1 : Expr} {ifs ifs1 : List Expr} {scope : Scope} {own : List (Str × Nat)} {vs1 : List Nat} {im im1 : IM} {g g1 : GM} {tt tt1 : TM} {el : EM} {pos : Pos} (hc : X.calm = true) (hN : X.N.Nodup) (hi : PI X tg iter (TIm W im)) (ok : BlkOk X.N X.env.scope scope own) (hv : ∀ i ∈ vs1, i ∈ own.map (·.2))
    (hg : ∀ (s : Shared) (H : Hp) (C : Addr) (cl : List (Str × Addr)) (fp : List Addr), PG (X.blk s H scope (compEnvC scope cl C X.env) fp) tg (TGm W g (own.map (·.2)))) (ht : ∀ (s : Shared) (H : Hp) (C : Addr) (cl : List (Str × Addr)) (fp : List Addr), PTs (X.blk s H scope (compEnvC scope cl C X.env) fp) ifs (TB W tt))
    (hi1 : ∀ (s : Shared) (H : Hp) (C : Addr) (cl : List (Str × Addr)) (fp : List Addr), PI (X.blk s H scope (compEnvC scope cl C X.env) fp) tg1 iter1 (TIm W im1))
    (hg1 : ∀ (s : Shared) (H : Hp) (C : Addr) (cl : List (Str × Addr)) (fp : List Addr), PG (X.blk s H scope (compEnvC scope cl C X.env) fp) tg1 (TGm W g1 vs1)) (ht1 : ∀ (s : Shared) (H : Hp) (C : Addr) (cl : List (Str × Addr)) (fp : List Addr), PTs (X.blk s H scope (compEnvC scope cl C X.env) fp) ifs1 (TB W tt1))
    (he : ∀ (s : Shared) (H : Hp) (C : Addr) (cl : List (Str × Addr)) (fp : List Addr), PE (X.blk s H scope (compEnvC scope cl C X.env) fp) elt (T W el)) (hs : ∀ x, foldedSetIterable iter X.env x = pure x := by intro _; rfl) (hs1 : ∀ env x, foldedSetIterable iter1 env x = pure x := by intro _ _; rfl) :
    PE X (.ListComp elt [⟨tg, iter, ifs, 0⟩, ⟨tg1, iter1, ifs1, 0⟩] scope pos) (T W (eLc2 im g tt im1 g1 tt1 el (own.map (·.2)) vs1)) := (pe_lc2 hc hN hi ok hv hg ht hi1 hg1 ht1 he hs hs1).imp fun _ _ _ => lc2_of
theorem js_setLc2 {i : Nat} {y : Str} {py : Pos} {elt tg iter tg1 iter1 : Expr} {ifs ifs1 : List Expr} {scope : Scope} {own : List (Str × Nat)} {vs1 : List Nat} {im im1 : IM} {g g1 : GM} {tt tt1 : TM} {el : EM} {pos spos : Pos} (hc : X.calm = true) (hN : X.N.Nodup) (hy : X.N[i]? = some y) (hyl : X.env.scope.names.lookup y = some .local)
    (hsw : swapsWith (.ListComp elt [⟨tg, iter, ifs, 0⟩, ⟨tg1, iter1, ifs1, 0⟩] scope pos) (some (.Name y py)) spos.line X.env = pure true) (hi : PI X tg iter (TIm W im)) (ok : BlkOk X.N X.env.scope scope own) (hv : ∀ i ∈ vs1, i ∈ own.map (·.2))
    (hg : ∀ (s : Shared) (H : Hp) (C : Addr) (cl : List (Str × Addr)) (fp : List Addr), PG (X.blk s H scope (compEnvC scope cl C X.env) fp) tg (TGm W g (own.map (·.2)))) (ht : ∀ (s : Shared) (H : Hp) (C : Addr) (cl : List (Str × Addr)) (fp : List Addr), PTs (X.blk s H scope (compEnvC scope cl C X.env) fp) ifs (TB W tt))
    (hi1 : ∀ (s : Shared) (H : Hp) (C : Addr) (cl : List (Str × Addr)) (fp : List Addr), PI (X.blk s H scope (compEnvC scope cl C X.env) fp) tg1 iter1 (TIm W im1))
    (hg1 : ∀ (s : Shared) (H : Hp) (C : Addr) (cl : List (Str × Addr)) (fp : List Addr), PG (X.blk s H scope (compEnvC scope cl C X.env) fp) tg1 (TGm W g1 vs1)) (ht1 : ∀ (s : Shared) (H : Hp) (C : Addr) (cl : List (Str × Addr)) (fp : List Addr), PTs (X.blk s H scope (compEnvC scope cl C X.env) fp) ifs1 (TB W tt1))
    (he : ∀ (s : Shared) (H : Hp) (C : Addr) (cl : List (Str × Addr)) (fp : List Addr), PE (X.blk s H scope (compEnvC scope cl C X.env) fp) elt (T W el)) (hs : ∀ x, foldedSetIterable iter X.env x = pure x := by intro _; rfl) (hs1 : ∀ env x, foldedSetIterable iter1 env x = pure x := by intro _ _; rfl) :
    PS X (.Assign [.Name y py] (.ListComp elt [⟨tg, iter, ifs, 0⟩, ⟨tg1, iter1, ifs1, 0⟩] scope pos) spos) (TSt W (sSet i (eLc2 im g tt im1 g1 tt1 el (own.map (·.2)) vs1))) := (ps_setLc2 hc hN hy hyl hsw hi ok hv hg ht hi1 hg1 ht1 he hs hs1).imp fun D σ H h => by
  have h2 : T W (eLc2 im g tt im1 g1 tt1 el (own.map (·.2)) vs1) σ H fun x H1 => gName i x σ H1 D.nx := set_of h
  exact lc2_of h2
end
/-! ### an instance called with no argument -/
section
variable {X : Cx} {CX : CXT} {W : Wd} {k ar n j : Nat} {C f g : Addr} {fd : FuncData} {ps ks : List Str} {m : Str} {sp : Sp} {F : FM} {E : XK} {tf ta : TE} {t tk : TA} {o e fe : Expr} {es : List Expr} {pos apos : Pos} {mo : EM} {am km : AM} {kws : List Keyword} {gg : List Value → List Value → List Value} {gV : List V → List V → List V}
theorem pe_callO0 {g : Addr} (hf : PE X fe tf) (c : StX.CallO X.K C g) (F : FnR X.prog X.w X.K X.mg X.base CX k g sp) (hr : Room k X.A) (hx : Passes CX X E)
    (ht : eval (.Call fe [] [] pos) X.env = (do callWith pos (← eval fe X.env) [] (backTo pos (starEach [] X.env)) (backToKw pos (keywordEach [] X.env))) := by rfl) : PE X (.Call fe [] [] pos) (StX.tCallO X C sp E tf tNil) := by
  refine ⟨fun pins s σ H Q I h => ?_⟩
  refine Call_ (thn (hf.run pins s σ H _ I h) fun u s1 ⟨y, H1, I1, ry, a, ey, q⟩ => ?_) ht
  subst ey
  obtain rfl : u = Value.ref a := ry
  obtain ⟨hi, q2⟩ := q
  obtain ⟨ox, od, J, hd⟩ := StX.insC_at I1 hi
  exact StX.callO_of rfl (evalArgs_nil3 ⟨⟨C, ox, od, J, hd⟩, StX.run_callO c F hr hx I1 hi .nil q2⟩)
theorem j_callO0 {n : Str} (cO : StX.CallO X.K (W.cl n) g) (F0 : FnOk X.prog X.w X.K X.mg X.base CX0 k g fd ps (spM W ar F)) (hr : Room k X.A) (hb : Binds X.K fd ps []) (hx : Passes CX0 X E) (ho : PE X fe (T W mo))
    (ht : eval (.Call fe [] [] pos) X.env = (do callWith pos (← eval fe X.env) [] (backTo pos (starEach [] X.env)) (backToKw pos (keywordEach [] X.env))) := by rfl) : PE X (.Call fe [] [] pos) (T W (eCallO n ar F mo aNil)) :=
  (pe_callO0 (pos := pos) ho cO (F0.raw hb .nil) hr hx ht).imp fun σ H Q ⟨ι, st, env, d, st', r, q, e, kk⟩ => by
    unfold eCallO aNil at e
    split at e
    · rename_i y s1 e1
      dsimp only at e
      split at e
      · rename_i n' fs vs e3
        split at e
        · rename_i hc
          obtain ⟨rfl, hl⟩ := hc
          refine T.of r q e1 fun v ι1 H1 g1 r1 p1 => ?_
          obtain ⟨a, rfl⟩ : ∃ a, v = .ref a := by
            cases y with
            | ins m fs ds => simp only [Rep] at p1; obtain ⟨a, h, _⟩ := p1; exact ⟨a, h⟩
            | ref i => simp only [Rep] at p1; obtain ⟨a, h, _⟩ := p1; exact ⟨a, h⟩
            | _ => cases e3
          refine ⟨a, rfl, ?_⟩
          obtain ⟨a', dx, us, ea, h1, h2, h3⟩ := insA_ok r1 p1 e3
          cases ea
          refine ⟨.inr ⟨dx, _, h1⟩, ι1, s1, [y], d, st', r1, ?_, by simpa using hl, e, kk.go g1⟩
          exact Reps.cons p1 Reps.nil
        · cases e
      · cases e
    · cases e
/-! ### o.m(.., k = v): methods with keywords -/
def tMethN (C : Addr) (m : Str) (n j : Nat) (sp : Sp) (gV : List V → List V → List V) (E : XK) (ta : TE) (t tk : TA) : TE := fun σ H Q => ta σ H fun x H1 => ∃ a dx fs, x = .ref a ∧ H1 a = some (.ins C dx fs) ∧ fs.lookup m = none ∧
  t σ H1 fun vs H2 => tk σ H2 fun zs H3 => vs.length = n ∧ zs.length = j ∧ sp (gV (x :: vs) zs) H3 Q E
theorem pe_methN0 {pl : Sem Bool} (he : PE X o ta) (c : Cls X.K C) (hm : Meth X.K C m f) (F : FnOk X.prog X.w X.K X.mg X.base CX k f fd ps sp) (hr : Room k X.A) (hb : KBn X.K fd ps 1 ks gg gV) (hx : Passes CX X E) (hkw : PK X kws tk)
    (hall : (backToKw pos (keywordEach kws X.env)).all (·.1.isSome) = true := by rfl) (hks : (backToKw pos (keywordEach kws X.env)).filterMap (·.1) = ks := by rfl)
    (hpl : ((backTo pos (starEach [] X.env)).any (·.1) || (backToKw pos (keywordEach kws X.env)).any (·.1.isNone)) = false := by rfl)
    (ht : eval (.Call (.Attribute o m apos) [] kws pos) X.env = (do
      let ov ← eval o X.env
      standAt apos.atName
      let (f, first) ← holding [ov] (getMethod ov m pl)
      callWith pos f first (backTo pos (starEach [] X.env)) (backToKw pos (keywordEach kws X.env))) := by rfl) :
    PE X (.Call (.Attribute o m apos) [] kws pos) (tMethN C m 0 ks.length sp gV E ta tNil tk) := by
  refine ⟨fun pins s σ H Q I h => ?_⟩
  refine PySem.W.methodCall_KW (pl := pl) (thn (he.run pins s σ H _ I h) fun u s1 ⟨x, H1, I1, rx, a, dx, fs, ex, ea, l, q⟩ => ?_) ht
  subst ex
  obtain rfl : u = Value.ref a := rx
  refine getmeth_ok I1 ea c hm l ?_
  refine PySem.W.callWith_KW0 (first := [.ref a]) (h₀ := X.base) I.ok.mod.kin hm.kp hall (thn (hkw.run pos pins s1 σ H1 _ I1 q) fun ws s2 ⟨zs, H2, I2, rz, l1, l2, q2⟩ => ⟨I2.kIn, ?_⟩) hpl
  rw [hks]
  exact run_fnN (us := [.ref a]) (vs := [.ref a]) F hr hb hx I2 (.cons rfl .nil) rz rfl l2 q2
theorem pe_methN {pl : Sem Bool} (he : PE X o ta) (c : Cls X.K C) (hm : Meth X.K C m f) (F : FnOk X.prog X.w X.K X.mg X.base CX k f fd ps sp) (hr : Room k X.A) (hb : KBn X.K fd ps (n + 1) ks gg gV) (hx : Passes CX X E) (ha : PA X (e :: es) t) (hkw : PK X kws tk)
    (hall : (backToKw pos (keywordEach kws X.env)).all (·.1.isSome) = true := by rfl) (hks : (backToKw pos (keywordEach kws X.env)).filterMap (·.1) = ks := by rfl)
    (hs : starEach (e :: es) X.env = (false, eval e X.env) :: starEach es X.env := by rfl)
    (hpl : ((backTo pos (starEach (e :: es) X.env)).any (·.1) || (backToKw pos (keywordEach kws X.env)).any (·.1.isNone)) = false := by rfl)
    (ht : eval (.Call (.Attribute o m apos) (e :: es) kws pos) X.env = (do
      let ov ← eval o X.env
      standAt apos.atName
      let (f, first) ← holding [ov] (getMethod ov m pl)
      callWith pos f first (backTo pos (starEach (e :: es) X.env)) (backToKw pos (keywordEach kws X.env))) := by rfl) :
    PE X (.Call (.Attribute o m apos) (e :: es) kws pos) (tMethN C m n ks.length sp gV E ta t tk) := by
  refine ⟨fun pins s σ H Q I h => ?_⟩
  refine PySem.W.methodCall_KW (pl := pl) (thn (he.run pins s σ H _ I h) fun u s1 ⟨x, H1, I1, rx, a, dx, fs, ex, ea, l, q⟩ => ?_) ht
  subst ex
  obtain rfl : u = Value.ref a := rx
  refine getmeth_ok I1 ea c hm l ?_
  refine PySem.W.callWith_KW (first := [.ref a]) (h₀ := X.base) I.ok.mod.kin hm.kp hall (thn (ha.run pos pins s1 σ H1 _ I1 q) fun us s2 ⟨vs, H2, I2, r, q2⟩ => thn (hkw.run pos pins s2 σ H2 _ I2 q2) fun ws s3 ⟨zs, H3, I3, rz, l1, l2, q3⟩ => ⟨I3.kIn, ?_⟩) hpl hs
  rw [hks]
  exact run_fnN (us := .ref a :: us) (vs := .ref a :: vs) F hr hb hx I3 (.cons rfl r) rz (by simp [l1]) l2 q3
open Classical in
noncomputable def eMethN (cn m : Str) (ar n j : Nat) (F : FM) (g : List D → List D → List D) (mo : EM) (am km : AM) : EM := fun env st => match mo env st with
  | some (o, s1) => match insA s1 o with
    | some (n', fs, _) => if n' = cn ∧ m ∉ fs then match am env s1 with
      | some (xs, s2) => match km env s2 with
        | some (zs, s3) => if xs.length = n ∧ zs.length = j ∧ (g (o :: xs) zs).length = ar then F (g (o :: xs) zs) s3 else none
        | none => none
      | none => none
      else none
    | none => none
  | none => none
theorem tMethN_of {cn : Str} {gD : List D → List D → List D} {σ : L2.St} {H : Hp} {Q : VK} (hgD : ∀ ι H (xs zs : List D) (vs us : List V), Reps W ι H xs vs → Reps W ι H zs us → Reps W ι H (gD xs zs) (gV vs us)) (h : T W (eMethN cn m ar n j F gD mo am km) σ H Q) :
    tMethN (W.cl cn) m n j (spM W ar F) gV E (T W mo) (TAs W am) (TAs W km) σ H Q := by
  obtain ⟨ι, st, env, d, st', r, q, e, kk⟩ := h
  unfold eMethN at e
  split at e
  · rename_i y s1 e1
    split at e
    · rename_i n' fs vs e3
      split at e
      · rename_i hc
        obtain ⟨rfl, hl⟩ := hc
        split at e
        · rename_i xs s2 e2
          split at e
          · rename_i zs s3 e4
            split at e
            · rename_i hz
              refine T.of r q e1 fun v ι1 H1 g1 r1 p1 => ?_
              obtain ⟨a, dx, us, ea, h1, h2, h3⟩ := insA_ok r1 p1 e3
              subst ea
              refine ⟨a, dx, _, rfl, h1, lookup_none hl, TA.of r1 (q.grow g1) e2 fun ws ι2 H2 g2 r2 p2 => TA.of r2 ((q.grow g1).grow g2) e4 fun us3 ι3 H3 g3 r3 p3 => ?_⟩
              refine ⟨by rw [← p2.length]; exact hz.1, by rw [← p3.length]; exact hz.2.1, ι3, s3, gD (y :: xs) zs, d, st', r3, ?_, hz.2.2, e, kk.go ((g1.trans g2).trans g3)⟩
              exact hgD _ _ _ _ _ _ (Reps.cons (Rep.grow g3 _ _ (Rep.grow g2 _ _ p1)) (Reps.grow g3 _ _ p2)) p3
            · cases e
          · cases e
        · cases e
      · cases e
    · cases e
  · cases e
theorem j_methN0 {cn : Str} {gD : List D → List D → List D} {pl : Sem Bool} (c : Cls X.K (W.cl cn)) (hm : Meth X.K (W.cl cn) m f) (F0 : FnOk X.prog X.w X.K X.mg X.base CX0 k f fd ps (spM W ar F)) (hr : Room k X.A) (hb : KBn X.K fd ps 1 ks gg gV)
    (hgD : ∀ ι H (xs zs : List D) (vs us : List V), Reps W ι H xs vs → Reps W ι H zs us → Reps W ι H (gD xs zs) (gV vs us)) (hx : Passes CX0 X E) (he : PE X o (T W mo)) (hkw : PK X kws (TAs W km))
    (hall : (backToKw pos (keywordEach kws X.env)).all (·.1.isSome) = true := by rfl) (hks : (backToKw pos (keywordEach kws X.env)).filterMap (·.1) = ks := by rfl)
    (hpl : ((backTo pos (starEach [] X.env)).any (·.1) || (backToKw pos (keywordEach kws X.env)).any (·.1.isNone)) = false := by rfl)
    (ht : eval (.Call (.Attribute o m apos) [] kws pos) X.env = (do
      let ov ← eval o X.env
      standAt apos.atName
      let (f, first) ← holding [ov] (getMethod ov m pl)
      callWith pos f first (backTo pos (starEach [] X.env)) (backToKw pos (keywordEach kws X.env))) := by rfl) (hmk : ks.length = j := by rfl) :
    PE X (.Call (.Attribute o m apos) [] kws pos) (T W (eMethN cn m ar 0 j F gD mo aNil km)) := hmk ▸ (pe_methN0 (pl := pl) he c hm F0 hr hb hx hkw hall hks hpl ht).imp fun σ H Q h => by
  obtain ⟨ι, st, env, d, st', r, q, e, kk⟩ := tMethN_of (E := E) hgD h
  refine ⟨ι, st, env, d, st', r, q, e, fun v ι' H' g' r' p' => ?_⟩
  obtain ⟨a, dx, fs, h1, h2, h3, h4⟩ := kk v ι' H' g' r' p'
  refine ⟨a, dx, fs, h1, h2, h3, ?_⟩
  obtain ⟨ι2, st2, env2, d2, st2', r2, q2, e2, k2⟩ := h4
  cases e2
  exact k2 [] _ _ Grow.refl r2 Reps.nil
theorem j_methN {cn : Str} {gD : List D → List D → List D} {pl : Sem Bool} (c : Cls X.K (W.cl cn)) (hm : Meth X.K (W.cl cn) m f) (F0 : FnOk X.prog X.w X.K X.mg X.base CX0 k f fd ps (spM W ar F)) (hr : Room k X.A) (hb : KBn X.K fd ps (n + 1) ks gg gV)
    (hgD : ∀ ι H (xs zs : List D) (vs us : List V), Reps W ι H xs vs → Reps W ι H zs us → Reps W ι H (gD xs zs) (gV vs us)) (hx : Passes CX0 X E) (he : PE X o (T W mo)) (ha : PA X (e :: es) (TAs W am)) (hkw : PK X kws (TAs W km))
    (hall : (backToKw pos (keywordEach kws X.env)).all (·.1.isSome) = true := by rfl) (hks : (backToKw pos (keywordEach kws X.env)).filterMap (·.1) = ks := by rfl)
    (hs : starEach (e :: es) X.env = (false, eval e X.env) :: starEach es X.env := by rfl)
    (hpl : ((backTo pos (starEach (e :: es) X.env)).any (·.1) || (backToKw pos (keywordEach kws X.env)).any (·.1.isNone)) = false := by rfl)
    (ht : eval (.Call (.Attribute o m apos) (e :: es) kws pos) X.env = (do
      let ov ← eval o X.env
      standAt apos.atName
      let (f, first) ← holding [ov] (getMethod ov m pl)
      callWith pos f first (backTo pos (starEach (e :: es) X.env)) (backToKw pos (keywordEach kws X.env))) := by rfl) (hmk : ks.length = j := by rfl) :
    PE X (.Call (.Attribute o m apos) (e :: es) kws pos) (T W (eMethN cn m ar n j F gD mo am km)) := hmk ▸ (pe_methN (pl := pl) he c hm F0 hr hb hx ha hkw hall hks hs hpl ht).imp fun σ H Q h => tMethN_of hgD h
end
section
variable {env : Env} {st : Store} {Q : D → Store → Prop}
theorem ev_methN {cn m : Str} {ar n j : Nat} {F : FM} {g : List D → List D → List D} {mo : EM} {am km : AM} : EvE (eMethN cn m ar n j F g mo am km) env st Q ↔ EvE mo env st fun x s1 => ∃ fs vs, insA s1 x = some (cn, fs, vs) ∧ m ∉ fs ∧ EvA am env s1 fun xs s2 => EvA km env s2 fun zs s3 => (xs.length = n ∧ zs.length = j ∧ (g (x :: xs) zs).length = ar) ∧ EvF F (g (x :: xs) zs) s3 Q := by
  unfold EvE EvA EvF eMethN
  constructor
  · rintro ⟨d, s, e, q⟩
    split at e
    · rename_i x s1 h
      split at e
      · rename_i n' fs vs h3
        split at e
        · rename_i hc
          obtain ⟨rfl, hl⟩ := hc
          split at e
          · rename_i xs s2 h2
            split at e
            · rename_i zs s3 h4
              split at e
              · rename_i hz
                exact ⟨_, _, h, fs, vs, h3, hl, _, _, h2, _, _, h4, hz, _, _, e, q⟩
              · cases e
            · cases e
          · cases e
        · cases e
      · cases e
    · cases e
  · rintro ⟨x, s1, h, fs, vs, h3, hl, xs, s2, h2, zs, s3, h4, hz, d, s, e, q⟩
    exact ⟨d, s, by rw [h]; simp only [h3]; rw [if_pos ⟨trivial, hl⟩]; simp only [h2, h4]; rw [if_pos hz]; exact e, q⟩
theorem ev_lc2 {im im1 : IM} {g g1 : GM} {tt tt1 : TM} {el : EM} {vs vs1 : List Nat} : EvE (eLc2 im g tt im1 g1 tt1 el vs vs1) env st Q ↔ ∃ ds gd s1, im env st = some (ds, gd, s1) ∧ ∃ ys s2, lcGo2 gd g tt im1 g1 tt1 el vs1 (wipeE env vs) ds s1 = some (ys, s2) ∧ ys.length ≤ sizeLine ∧ Q (.lst ys) s2 := by
  unfold EvE eLc2
  constructor
  · rintro ⟨d, s, e, q⟩
    split at e
    · rename_i ds gd s1 h
      split at e
      · rename_i ys s2 h2
        split at e
        · rename_i hz
          cases e
          exact ⟨_, _, _, h, _, _, h2, hz, q⟩
        · cases e
      · cases e
    · cases e
  · rintro ⟨ds, gd, s1, h, ys, s2, h2, hz, q⟩
    exact ⟨_, _, by rw [h]; simp only [h2]; rw [if_pos hz], q⟩
end
/-! ### text * int -/
def strRep (x : Str) (k : Int) : Str := ⟨(List.replicate k.toNat x.cps).foldl (· ++ ·) #[]⟩
theorem strRep_list (x : Str) (k : Int) : (strRep x k).cps.toList = (List.replicate k.toNat x.cps.toList).flatten := by
  have : ∀ (n : Nat) (a : Array Nat), ((List.replicate n x.cps).foldl (· ++ ·) a).toList = a.toList ++ (List.replicate n x.cps.toList).flatten := by
    intro n
    induction n with
    | zero => intro a; simp
    | succ n ih =>
      intro a
      rw [List.replicate_succ, List.foldl_cons, ih, List.replicate_succ, List.flatten_cons, Array.toList_append, List.append_assoc]
  have h := this k.toNat #[]
  show (List.foldl (fun x1 x2 => x1 ++ x2) #[] (List.replicate k.toNat x.cps)).toList = _
  simpa using h
theorem strRep_len (x : Str) (k : Int) : (strRep x k).length = k.toNat * x.length := by
  show (strRep x k).cps.size = k.toNat * x.cps.size
  rw [← Array.length_toList, strRep_list, PyProof.Rows.lm_len_rep_flat, Array.length_toList]
open Classical in
noncomputable def dMulS (a b : D) (_ : Store) : Option D := match a, b with
  | .str x, .int k => if -(2 ^ 63) ≤ k ∧ k ≤ 1000000 ∧ x.length ≤ 10 then some (.str (strRep x k)) else none
  | _, _ => none
section
variable {X : Cx} {W : Wd}
theorem jo_mulS : OpR X (binaryOp .Mult) (M2 W dMulS) := by
  intro pins s σ H x y v u Q I rx ry ⟨ι, st, a, b, d, r, ha, hb, e, k⟩
  unfold dMulS at e
  split at e
  · rename_i z n
    split at e
    · rename_i h
      cases e
      cases rep_int hb
      simp only [Rep] at ha
      subst ha
      obtain ⟨t, rfl⟩ := rx
      obtain ⟨t', rfl⟩ := ry
      obtain ⟨h1, h2, h3⟩ := h
      have fin : ∀ (t2 : Tok) (tk : Tok), EP X pins σ Q (.str (strRep z n) t2) { s with toks := tk } := fun t2 tk => ⟨.str (strRep z n), H, I.tok _, ⟨_, rfl⟩, k _ _ _ Grow.refl r (by simp only [Rep])⟩
      have hlen := strRep_len z n
      have hb2 : ¬ n < 1 → (n == 1 || z.length == 0) = false → ¬ ((z.length : Int) > (2 ^ 63 - 1) / n) := by
        intro n1 _ hgt
        have : (10 : Int) ≤ (2 ^ 63 - 1) / n := (Int.le_ediv_iff_mul_le (by omega)).mpr (by omega)
        omega
      have hm : z.length * n.toNat ≤ 10 * 1000000 := Nat.mul_le_mul h3 (by omega)
      refine PySem.P.mul_str (by rw [decide_eq_false (by omega), decide_eq_false (by omega)]; rfl) hb2 (fun _ _ => ?_) ?_
      · unfold Builtin.Str.tooLong
        rw [sizeLine_eq]
        simp
        omega
      · by_cases c1 : n < 1
        · rw [if_pos c1]
          have e0 : strRep z n = Str.empty := by
            unfold strRep
            rw [show n.toNat = 0 by omega]
            rfl
          rw [e0] at fin
          exact ⟨by decide, fin _ _⟩
        · rw [if_neg c1]
          by_cases c2 : (n == 1 || z.length == 0) = true
          · rw [if_pos c2]
            have e0 : strRep z n = z := by
              have hl := strRep_list z n
              rw [Bool.or_eq_true, beq_iff_eq, beq_iff_eq] at c2
              have : (strRep z n).cps = z.cps := by
                apply Array.toList_inj.mp
                rw [hl]
                rcases c2 with c2 | c2
                · subst c2
                  simp
                · have : z.cps.toList = [] := by
                    apply List.eq_nil_of_length_eq_zero
                    rw [Array.length_toList]
                    exact c2
                  rw [this]
                  simp
              cases z
              unfold strRep at this ⊢
              congr 1
            rw [e0] at fin
            obtain ⟨hh, g, dd, tk, os⟩ := s
            exact fin t tk
          · rw [if_neg c2]
            refine ⟨?_, fin _ _⟩
            have : (strRep z n).length ≤ sizeLine := by
              rw [hlen, Nat.mul_comm, sizeLine_eq]
              omega
            exact this
    · cases e
  · cases e
end
/-! ### facts about methods with keyword-only defaults -/
structure MeFK (K : PySem.W.Frag) (C : Addr) (m qual : Str) (st : Stmt) (ps : List Str) (kws : List (Str × V)) : Prop where
  ex : ∃ (f : Addr) (fd : FuncData), FunD K m qual (defArgs st) (defBody st) (defScope st) [] kws f fd ∧ (∃ ds, Vals (kws.map (·.2)) ds ∧ Binds K fd ps ds) ∧ Meth K C m f
section
variable {env : Env} {st : Store} {Q : D → Store → Prop} {QS : Out → Store → Prop}
theorem ev_slM2 {mx : EM} {ml mh : OM} : EvE (eSlM mx ml mh) env st Q ↔ EvE mx env st fun x s1 => EvO ml env s1 fun lo s2 => EvO mh env s2 fun hi s3 => ∃ xs, seqL s3 x = some xs ∧ Q (.ref s3.length) (s3 ++ [.lst (cutD xs lo hi)]) := by
  rw [ev_slM]
  unfold EvO EvE
  constructor
  · rintro ⟨x, s1, h1, lo, s2, h2, hi, s3, h3, q⟩
    exact ⟨x, s1, h1, lo, s2, h2, hi, s3, h3, q⟩
  · rintro ⟨x, s1, h1, lo, s2, h2, hi, s3, h3, q⟩
    exact ⟨x, s1, h1, lo, s2, h2, hi, s3, h3, q⟩
theorem ev_fldAugM {n f : Str} {g : D → D → Store → Option D} {mo mv : EM} : EvS (sFldAugM n f g mo mv) env st QS ↔ EvE mo env st fun o s1 => ∃ fs vs x, insA s1 o = some (n, fs, vs) ∧ fGet fs vs f = some x ∧ EvE mv env s1 fun y s2 => ∃ z, g x y s2 = some z ∧ ∃ s3, fldPut n f o z s2 = some s3 ∧ QS (.nx env) s3 := by
  unfold EvS EvE sFldAugM
  constructor
  · rintro ⟨d, s, e, q⟩
    split at e
    · rename_i o s1 h1
      split at e
      · rename_i n' fs vs h2
        split at e
        · rename_i hn
          subst hn
          split at e
          · rename_i x h3
            split at e
            · rename_i y s2 h4
              split at e
              · rename_i z h5
                split at e
                · rename_i s3 h6
                  cases e
                  exact ⟨_, _, h1, _, _, _, h2, h3, _, _, h4, _, h5, _, h6, q⟩
                · cases e
              · cases e
            · cases e
          · cases e
        · cases e
      · cases e
    · cases e
  · rintro ⟨o, s1, h1, fs, vs, x, h2, h3, y, s2, h4, z, h5, s3, h6, q⟩
    exact ⟨_, _, by rw [h1]; simp only [h2]; rw [if_pos trivial]; simp only [h3, h4, h5, h6], q⟩
theorem lc2_flat {α : Type} {gd : Store → Prop} {g1 : GM} {im1 : IM} {el : EM} {env : Env} {i : Nat} {vs1 : List Nat} (c : α → D) (f : α → List D) (hg : gd st) :
    ∀ {xs : List α}, (∀ a ∈ xs, ∃ gd1, im1 (env.set i (some (c a))) st = some (f a, gd1, st) ∧ gd1 st ∧ ∀ y ∈ f a, ∃ e2, g1 y (wipeE (env.set i (some (c a))) vs1) = some e2 ∧ el e2 st = some (y, st)) →
      lcGo2 gd (gNm i) bYes im1 g1 bYes el vs1 env (xs.map c) st = some (xs.flatMap f, st) := by
  have inner : ∀ {gd1 : Store → Prop} {e1 : Env} (h1 : gd1 st) {ys : List D}, (∀ y ∈ ys, ∃ e2, g1 y e1 = some e2 ∧ el e2 st = some (y, st)) → lcGo gd1 g1 bYes el e1 ys st = some (ys, st) := by
    intro gd1 e1 h1 ys
    induction ys with
    | nil => intro _; unfold lcGo; rw [if_pos h1]
    | cons y ys ih =>
      intro h
      obtain ⟨e2, h2, h3⟩ := h y List.mem_cons_self
      unfold lcGo
      rw [if_pos h1, h2]
      simp only [bYes, h3, ih fun y m => h y (List.mem_cons_of_mem _ m)]
  intro ds
  induction ds with
  | nil => intro _; show lcGo2 _ _ _ _ _ _ _ _ _ [] st = _; unfold lcGo2; rw [if_pos hg]; rfl
  | cons d ds ih =>
    intro h
    obtain ⟨gd1, h1, h2, h3⟩ := h d List.mem_cons_self
    rw [List.map_cons]
    unfold lcGo2
    rw [if_pos hg]
    simp only [gNm, bYes, h1, inner h2 h3]
    have := ih fun d m => h d (List.mem_cons_of_mem _ m)
    rw [this]
    simp [List.flatMap_cons]
end
end My

namespace My
open PySem PySem.Spec PyProof.Rows L2 GenW
/-! ### heaps that are cut -/
def cutHp (n : Nat) (h : Heap) : Heap := ⟨h.objs.take n, h.life⟩
def cutH (n : Nat) (H : Hp) : Hp := fun b => if b < n then H b else none
section
variable {n b : Nat} {h : Heap} {o : Obj}
theorem cutHp_lt (hb : b < n) : (cutHp n h).get? b = h.get? b := by
  unfold cutHp Heap.get?
  have e : (h.objs.take n)[b]? = h.objs[b]? := by
    rw [Array.take_eq_extract, Array.getElem?_extract]
    by_cases hs : b < h.objs.size
    · rw [if_pos (by omega)]; simp
    · rw [if_neg (by omega), Array.getElem?_eq_none (by omega)]
  simp only [e]
theorem cutHp_ge (hb : n ≤ b) : (cutHp n h).get? b = none := by
  unfold cutHp Heap.get?
  have e : (h.objs.take n)[b]? = none := by
    rw [Array.take_eq_extract, Array.getElem?_extract, if_neg (by omega)]
  simp only [e]
theorem cutHp_some (e : (cutHp n h).get? b = some o) : b < n ∧ h.get? b = some o := by
  by_cases hb : b < n
  · exact ⟨hb, by rw [← cutHp_lt hb]; exact e⟩
  · rw [cutHp_ge (by omega)] at e; cases e
theorem cutHp_size (hn : n ≤ h.objs.size) : (cutHp n h).objs.size = n := by
  unfold cutHp
  rw [Array.take_eq_extract, Array.size_extract]
  omega
theorem cutH_some {H : Hp} {x : HO} (e : cutH n H b = some x) : b < n ∧ H b = some x := by
  unfold cutH at e
  split at e
  · rename_i hb
    exact ⟨hb, e⟩
  · cases e
theorem cutH_lt {H : Hp} (hb : b < n) : cutH n H b = H b := if_pos hb
end
/-! ### the context of a generator's body, at each waking laid anew -/
def gX (P : Program) (w : World) (K : PySem.W.Frag) (mg : Str → Option Value) (base : Heap) (N : List Str) (qual : Str) (scope : Scope) (f : Addr) (cd : Value) (A : Around) (L : Addr) (out : List PySem.Env) (pn : List (Addr × Obj)) (s : Shared) (H : Hp) : Cx where
  prog := P
  w := w
  K := K
  mg := mg
  base := base
  A := A.deeper (envOfC qual scope L f cd)
  N := N
  s_0 := { s with heap := cutHp L s.heap }
  H_0 := cutH L H
  env := envOfC qual scope L f cd
  outer := out
  stack := envOfC qual scope L f cd :: out
  ex := []
  fn := fun _ => true
  calm := true
  pn := pn
  xe := fun _ _ => False
/-- a generator def's names: none of them is captured -/
structure GSc (N ps : List Str) (sc : Scope) : Prop where
  g : GScope N ps sc
  nocell : ∀ y ∈ sc.names, y.2 ≠ .cell
theorem cells_nil : ∀ (names : List (Str × NameKind)) (n : Nat), (∀ y ∈ names, y.2 ≠ .cell) → cellsFrom n names [] = []
  | [], _, _ => rfl
  | (x, k) :: r, n, h => by
    have h1 : k ≠ .cell := h (x, k) List.mem_cons_self
    have h2 : (k == NameKind.cell) = false := by cases k <;> first | rfl | exact absurd rfl h1
    simp only [cellsFrom, h2, Bool.false_eq_true, if_false]
    exact cells_nil r n fun y m => h y (List.mem_cons_of_mem _ m)
theorem GSc.kinds {N ps : List Str} {sc : Scope} (S : GSc N ps sc) (x : Str) : sc.names.lookup x ≠ some .cell ∧ sc.names.lookup x ≠ some .free :=
  ⟨fun e => S.nocell _ (PySem.mem_of_lookup e) rfl, fun e => S.g.nofree _ (PySem.mem_of_lookup e) rfl⟩
/-- what stays through a generator's life: its frame is at L, its object at ga -/
structure GSt (K : PySem.W.Frag) (mg : Str → Option Value) (base : Heap) (A : Around) (L : Addr) (out : List PySem.Env) : Prop where
  mod : Mod K mg base
  hd : A.handled = none
  fr : A.frames = some out
  bsz : base.objs.size ≤ L
  low : ∀ b ∈ frs out, b < L
section
variable {P : Program} {w : World} {K : PySem.W.Frag} {mg : Str → Option Value} {base : Heap} {N ps : List Str} {qual : Str} {scope : Scope} {f : Addr} {cd : Value} {A : Around} {L : Addr} {out : List PySem.Env} {pn ip : List (Addr × Obj)} {s : Shared} {H : Hp} {σ : L2.St}
/-- the names of the frame at L, as they stand -/
def LocS (N : List Str) (scope : Scope) (σ : L2.St) (L : Addr) (h : Heap) : Prop :=
  ∃ m, h.Ns L m ∧ ∀ (i : Nat) (x : Str) (v : V), N[i]? = some x → σ[i]? = some (some v) → Vis scope x → ∃ u, RelV v u ∧ m x = some u ∧ scope.names.lookup x = some .local
theorem LocS.keep {h h' : Heap} {o : Obj} (l : LocS N scope σ L h) (e : h.get? L = some o) (e2 : h'.get? L = some o) : LocS N scope σ L h' := by
  obtain ⟨m, ⟨o1, es, ep, ho, r⟩, q⟩ := l
  rw [e] at ho
  cases ho
  exact ⟨m, ⟨o, es, ep, e2, r⟩, q⟩
/-- from a caller's state: the generator is woken -/
theorem gX_wake (S : GSc N ps scope) (G : GSt K mg base A L out) (hL : L ≤ s.heap.objs.size) (hbs : ∀ b o, base.get? b = some o → s.heap.get? b = some o ∧ H b = none) (hfun : s.heap.FunFrames base out) (hfrf : ∀ b ∈ frs out, H b = none)
    (hok : HOk P w H s.heap) (hb : AllBare s.gens) (hl : LocS N scope σ L s.heap) (hn : σ.length = N.length) (hL0 : H L = none)
    (hp : ∀ p ∈ pn ++ ip, s.heap.get? p.1 = some p.2 ∧ H p.1 = none ∧ p.1 ≠ L ∧ p.1 ∉ frs out ∧ ∀ v, p.2.data ≠ .cell v) :
    Inv (gX P w K mg base N qual scope f cd A L out pn s H) ip σ H s := by
  have hc : ∀ {x : Str} {c : Addr}, (gX P w K mg base N qual scope f cd A L out pn s H).env.cells.lookup x = some c → False := fun {x c} e => by
    have e2 : (cellsFrom (L + 1) scope.names []).lookup x = some c := e
    rw [cells_nil _ _ S.nocell] at e2
    cases e2
  have hk : ∀ {x : Str}, ((gX P w K mg base N qual scope f cd A L out pn s H).env.kindOf x = some .cell ∨ (gX P w K mg base N qual scope f cd A L out pn s H).env.kindOf x = some .free) → False := fun {x} e => by
    rcases e with e | e
    · exact (S.kinds x).1 e
    · exact (S.kinds x).2 e
  have lt : ∀ {b o}, base.get? b = some o → b < L := fun e => Nat.lt_of_lt_of_le (Heap.lt_size e) G.bsz
  have hsz : (cutHp L s.heap).objs.size = L := cutHp_size hL
  have noA : ∀ b : Addr, b ∉ (gX P w K mg base N qual scope f cd A L out pn s H).ex := fun b z => absurd (show b ∈ ([] : List Addr) from z) (by simp)
  have hff : ∀ (l : List PySem.Env), (∀ b ∈ frs l, b < L) → s.heap.FunFrames base l → (cutHp L s.heap).FunFrames base l := by
    intro l
    induction l with
    | nil => exact fun _ _ => trivial
    | cons e r ih =>
      rintro h1 ⟨k1, ⟨L1, o1, e1, e2, e3, e4⟩, k2⟩
      have m1 : L1 ∈ frs (e :: r) := by unfold frs; rw [List.filterMap_cons, e1]; exact List.mem_cons_self
      refine ⟨k1, ⟨L1, o1, e1, e2, (cutHp_lt (h1 L1 m1)).trans e3, e4⟩, ih (fun b m => h1 b ?_) k2⟩
      unfold frs
      rw [List.filterMap_cons, e1]
      exact List.mem_cons_of_mem _ m
  refine ⟨⟨G.mod, S.g.kind, rfl, rfl, Nat.le_of_eq hsz, fun x y c h1 _ => (hc h1).elim, fun x h => (hk h).elim, fun x c _ h => (hc h).elim, fun _ => G.hd, Around.frames_deeper G.fr, .inr ⟨rfl, rfl⟩, fun b z => absurd z (noA b), fun b o e => ?_, ?_, fun b _ _ => noA b, fun b z => absurd z (noA b), hff out G.low hfun, fun b m => ?_⟩,
    rfl, hb, ?_, ?_, fun x c h => (hc h).elim, hL0, fun x c h => (hc h).elim, hp, hok, hn⟩
  · exact ⟨(cutHp_lt (lt e)).trans (hbs b o e).1, (cutH_lt (lt e)).trans (hbs b o e).2⟩
  · show _ ≤ (cutHp L s.heap).objs.size
    rw [hsz]; exact G.bsz
  · exact (cutH_lt (G.low b m)).trans (hfrf b m)
  · refine ⟨fun b o e _ _ _ => (cutHp_some e).2, fun b o e _ _ _ => ⟨o.slots, (cutHp_some e).2⟩, fun b o e n _ => ?_, fun b o e _ => ⟨o, (cutHp_some e).2⟩, fun b xs e => (cutH_some e).2, fun b o u e => (cutH_some e).2, fun b qs e => ⟨#[], by rw [(cutH_some e).2]; simp⟩⟩
    rw [← n]
    exact (cutH_lt (cutHp_some e).1).symm
  · obtain ⟨m, hm, q⟩ := hl
    refine ⟨m, hm, fun i x v h1 h2 h3 => ?_⟩
    obtain ⟨u, r, e, k⟩ := q i x v h1 h2 h3
    exact ⟨u, r, .inl ⟨k, e⟩⟩
/-- the frame's names behind a run of the generator -/
theorem gX_loc {s1 : Shared} {H1 : Hp} (S : GSc N ps scope) (I : Inv (gX P w K mg base N qual scope f cd A L out pn s H) ip σ H1 s1) : LocS N scope σ L s1.heap := by
  obtain ⟨m, hm, q⟩ := I.loc
  refine ⟨m, hm, fun i x v h1 h2 h3 => ?_⟩
  obtain ⟨u, r, l⟩ := q i x v h1 h2 h3
  rcases l with ⟨k, e⟩ | ⟨k, _⟩
  · exact ⟨u, r, e, k⟩
  · rcases k with k | k
    · exact ((S.kinds x).1 k).elim
    · exact ((S.kinds x).2 k).elim
end
section
variable {Xc : Cx} {N ps : List Str} {qual : Str} {scope : Scope} {f : Addr} {cd : Value} {A : Around} {L : Addr} {pn ip pins : List (Addr × Obj)} {s s1 : Shared} {H H1 : Hp} {σ σc : L2.St}
/-- back at the caller: its state behind a run of the generator -/
theorem gX_back (I : Inv Xc pins σc H s) (J : Inv (gX Xc.prog Xc.w Xc.K Xc.mg Xc.base N qual scope f cd A L Xc.stack pn s H) ip σ H1 s1)
    (hcl : ∀ x c, Xc.env.cells.lookup x = some c → c < L) (hLc : Xc.env.locals < L) (hpl : ∀ p ∈ Xc.pn ++ pins, p.1 < L)
    (hT : ∀ b xs, H b = some (.tup xs) → H1 b = some (.tup xs)) (hF : ∀ b o u, H b = some (.frz o u) → H1 b = some (.frz o u)) (hB : ∀ b qs, H b = some (.tbl qs) → ∃ more, H1 b = some (.tbl (qs ++ more))) :
    Inv Xc pins σc H1 s1 := by
  have U : Un (frs Xc.stack) [] (cutH L H) H1 (cutHp L s.heap) s1.heap := J.base
  have low : ∀ {b o}, Xc.s_0.heap.get? b = some o → b < L := fun {b o} e => Nat.lt_trans (Nat.lt_of_lt_of_le (Heap.lt_size e) I.ok.above) hLc
  have nst : ∀ {b}, b ≠ Xc.env.locals → b ∉ Xc.fs → b ∉ frs Xc.stack := fun {b} h1 h2 m => by
    rcases List.mem_cons.mp (I.stkSub b m) with z | z
    · exact h1 z
    · exact h2 z
  have neL : ∀ {b o}, Xc.s_0.heap.get? b = some o → b ≠ Xc.env.locals := fun {b o} e z => by
    have h1 := Heap.lt_size e
    have h2 := I.ok.above
    rw [z] at h1
    exact absurd (Nat.lt_of_lt_of_le h1 h2) (Nat.lt_irrefl _)
  have no : ∀ b : Addr, b ∉ ([] : List Addr) := fun b z => by simp at z
  have anyAt : ∀ {b o}, b < L → s.heap.get? b = some o → H b = none → ∃ sl, s1.heap.get? b = some { o with slots := sl } := fun {b o} hb e n => U.any ((cutHp_lt hb).trans e) ((cutH_lt hb).trans n) (no b)
  have none_ : ∀ {b o}, b < L → s.heap.get? b = some o → H b = none → H1 b = none := fun {b o} hb e n => U.free b o ((cutHp_lt hb).trans e) ((cutH_lt hb).trans n) (no b)
  have same : ∀ {b o}, b < L → s.heap.get? b = some o → H b = none → b ∉ frs Xc.stack → s1.heap.get? b = some o := fun {b o} hb e n m => U.keep b o ((cutHp_lt hb).trans e) ((cutH_lt hb).trans n) m (no b)
  have cells : ∀ {x c v}, Xc.env.cells.lookup x = some c → s.heap.IsCell c v → s1.heap.IsCell c v := fun {x c v} e ⟨o, ho, hd⟩ => by
    obtain ⟨sl, q⟩ := anyAt (hcl x c e) ho (I.freeC x c e)
    exact ⟨_, q, hd⟩
  have hos : s1.os = s.os := J.os
  refine ⟨I.ok, hos.trans I.os, J.bare, ⟨fun b o e n hb hx => ?_, fun b o e n hb hx => ?_, fun b o e n hx => ?_, fun b o e hx => ?_, fun b xs e => hT b xs (I.base.tups b xs e), fun b o u e => hF b o u (I.base.frzs b o u e), fun b qs e => ?_⟩, ?_, fun x c e => ?_, ?_, fun x c e => ?_, fun p hp => ?_, J.hok, I.len⟩
  · exact same (low e) (I.base.keep b o e n hb hx) (I.base.free b o e n hx) (nst (neL e) hb)
  · obtain ⟨sl, e1⟩ := I.base.slot b o e n hb hx
    obtain ⟨sl2, e2⟩ := anyAt (low e) e1 (I.base.free b o e n hx)
    exact ⟨sl2, e2⟩
  · obtain ⟨o', e1⟩ := I.base.there b o e hx
    exact none_ (low e) e1 (I.base.free b o e n hx)
  · obtain ⟨o', e1⟩ := I.base.there b o e hx
    exact U.there b o' ((cutHp_lt (low e)).trans e1) (no b)
  · obtain ⟨m1, e1⟩ := I.base.tbls b qs e
    obtain ⟨m2, e2⟩ := hB b _ e1
    exact ⟨m1 ++ m2, by rw [e2, Array.append_assoc]⟩
  · obtain ⟨m, ⟨o, es, ep, ho, r⟩, q⟩ := I.loc
    obtain ⟨sl, e1⟩ := anyAt hLc ho I.free
    refine ⟨m, ⟨_, es, ep, e1, r⟩, fun i x v h1 h2 h3 => ?_⟩
    obtain ⟨u, ru, l⟩ := q i x v h1 h2 h3
    refine ⟨u, ru, ?_⟩
    rcases l with l | ⟨k, c, e, z⟩
    · exact .inl l
    · exact .inr ⟨k, c, e, cells e z⟩
  · obtain ⟨v, z⟩ := I.cell x c e
    exact ⟨v, cells e z⟩
  · obtain ⟨m, ⟨o, es, ep, ho, r⟩, _⟩ := I.loc
    exact none_ hLc ho I.free
  · obtain ⟨v, o, ho, _⟩ := I.cell x c e
    exact none_ (hcl x c e) ho (I.freeC x c e)
  · obtain ⟨e, n, ne, nf, d⟩ := I.pin p hp
    exact ⟨same (hpl p hp) e n (nst ne nf), none_ (hpl p hp) e n, ne, nf, d⟩
end
/-! ### the generator runs to its next yield -/
theorem execs_app (env : PySem.Env) (b : List Stmt) : ∀ a : List Stmt, execs (a ++ b) env = (execs a env >>= fun f => match f with | .next => execs b env | f => pure f)
  | [] => rfl
  | st :: r => by
    rw [List.cons_append, execs_cons, execs_cons, bind_assoc]
    congr 1
    funext f
    cases f with
    | next => exact execs_app env b r
    | _ => rfl
section
variable {M : Model} {A : Around} {R : GenEnd} {Y : Protocol} {n : Nat} {s₀ s : Shared} {c : Code} {fs : List Frame} {env : PySem.Env} {KF : Flow → Sem PySem.Fin} {HF : Value → Sem PySem.Fin} {gd : Bool → Bool} {lv : List Value → List Value}
theorem seg_app {a b : List Stmt} (h : wpAny M (A.over c fs) (execs a env) (fun f s' => match f with | .next => Seg M A R Y n s₀ c ((execs b env).wrap KF HF gd lv) fs s' | f => Seg M A R Y n s₀ c (KF f) fs s') (fun x s' => Seg M A R Y n s₀ c (HF x) fs s') s) :
    Seg M A R Y n s₀ c ((execs (a ++ b) env).wrap KF HF gd lv) fs s := by
  rw [execs_app]
  refine seg_bind_wrap (wpAny_mono h (fun f s' hf => ?_) fun _ _ z => z)
  cases f with
  | next => exact hf
  | _ => exact hf
end
/-- the iterator of the generator's loop -/
structure GIt where
  it : Addr
  fp : List Addr
  tn : Nat → Heap → Prop
  J : It
  ι0 : Lay
  H0 : Hp
structure GItOk (W : Wd) (P : Program) (w : World) (K : PySem.W.Frag) (tg : Expr) (L ga : Addr) (xs : List D) (I : GIt) : Prop where
  turn : Turn P w K tg I.J I.fp I.it I.tn
  ok : ItOk W I.J I.ι0 I.H0 xs always
  far : ∀ b ∈ I.fp, L < b ∧ b ≠ ga
/-- pins of these objects -/
def PinFp (fp : List Addr) (ip : List (Addr × Obj)) : Prop := (∀ b ∈ fp, ∃ o, (b, o) ∈ ip) ∧ ∀ p ∈ ip, p.1 ∈ fp
theorem pinFp_of {fp : List Addr} {h : Heap} (hh : ∀ b ∈ fp, ∃ o, h.get? b = some o ∧ ∀ v, o.data ≠ .cell v) : ∃ ip, PinFp fp ip ∧ ∀ p ∈ ip, h.get? p.1 = some p.2 ∧ ∀ v, p.2.data ≠ .cell v := by
  induction fp with
  | nil => exact ⟨[], ⟨fun b m => by simp at m, fun p m => by simp at m⟩, fun p m => by simp at m⟩
  | cons b fp ih =>
    obtain ⟨ip, ⟨h1, h2⟩, h3⟩ := ih fun c m => hh c (List.mem_cons_of_mem _ m)
    obtain ⟨o, ho, hd⟩ := hh b List.mem_cons_self
    refine ⟨(b, o) :: ip, ⟨fun c m => ?_, fun p m => ?_⟩, fun p m => ?_⟩
    · rcases List.mem_cons.mp m with rfl | m
      · exact ⟨o, List.mem_cons_self⟩
      · obtain ⟨o2, m2⟩ := h1 c m
        exact ⟨o2, List.mem_cons_of_mem _ m2⟩
    · rcases List.mem_cons.mp m with rfl | m
      · exact List.mem_cons_self
      · exact List.mem_cons_of_mem _ (h2 p m)
    · rcases List.mem_cons.mp m with rfl | m
      · exact ⟨ho, hd⟩
      · exact h3 p m
/-- what is known of the caller and of the generator's text -/
structure GC0 where
  Xc : Cx
  W : Wd
  N : List Str
  ps : List Str
  qual : Str
  scope : Scope
  f : Addr
  cd : Value
  Aw : Around
  L : Addr
  ga : Addr
  go : Obj
  pins : List (Addr × Obj)
  ev : Nat → Env
  sto : Nat → Store
  ι1 : Lay
  H1 : Hp
  eg : Nat → Env
  ys : Nat → D
  T : Nat
  tg : Expr
  xs : List D
namespace GC0
variable (C : GC0)
abbrev X (s : Shared) (H : Hp) : Cx := gX C.Xc.prog C.Xc.w C.Xc.K C.Xc.mg C.Xc.base C.N C.qual C.scope C.f C.cd C.Aw C.L C.Xc.stack [(C.ga, C.go)] s H
abbrev env : PySem.Env := envOfC C.qual C.scope C.L C.f C.cd
/-- the state at a pause: the caller at its turn ci, the generator behind its turn gi -/
def GZ (I : GIt) (ci gi : Nat) (ex : Lay → Hp → Prop) (s : Shared) : Prop :=
  ∃ σc σg ι H oL ip, PinFp I.fp ip ∧ Inv C.Xc ((C.L, oL) :: (C.ga, C.go) :: (ip ++ C.pins)) σc H s ∧ RelH C.W ι H (C.sto ci) ∧ REnv C.W ι H (C.ev ci) σc ∧ Grow C.ι1 C.H1 ι H ∧ Grow I.ι0 I.H0 ι H ∧
    LocS C.N C.scope σg C.L s.heap ∧ σg.length = C.N.length ∧ REnv C.W ι H (C.eg gi) σg ∧ I.tn gi s.heap ∧ ex ι H
def IOk (I : GIt) : Prop := GItOk C.W C.Xc.prog C.Xc.w C.Xc.K C.tg C.L C.ga C.xs I
def Yp : Protocol := fun n _ v s1 kap => ∃ (I : GIt) (i : Nat), (n + i = C.T ∧ i < C.T) ∧ C.IOk I ∧ C.GZ I i (i + 1) (fun ι H => ∃ u, RelV u v ∧ Rep C.W ι H (C.ys i) u) s1 ∧
  ∀ s2, C.GZ I (i + 1) (i + 1) (fun _ _ => True) s2 → kap (.send .none) s2
def Ed (s1 : Shared) : Prop := ∃ σc ι H, Inv C.Xc C.pins σc H s1 ∧ RelH C.W ι H (C.sto C.T) ∧ REnv C.W ι H (C.ev C.T) σc ∧ Grow C.ι1 C.H1 ι H
def Re : GenEnd := fun n _ r s1 => ((r = .ok (.ret .none) ∨ r = .ok .next) ∧ (n = 1 ∧ C.Ed s1)) ∨ ∃ e, r = .error e ∧ False
/-- what holds throughout -/
structure Ok : Prop where
  sc : GSc C.N C.ps C.scope
  st : GSt C.Xc.K C.Xc.mg C.Xc.base C.Aw C.L C.Xc.stack
  cl : ∀ x c, C.Xc.env.cells.lookup x = some c → c < C.L
  lc : C.Xc.env.locals < C.L
  pl : ∀ p ∈ C.Xc.pn ++ C.pins, p.1 < C.L
  ga : C.L < C.ga
  gd : ∀ v, C.go.data ≠ .cell v
  len : C.xs.length = C.T
variable {C}
/-- tracked things that are never written stand -/
theorem grow_keeps {W : Wd} {ι ι' : Lay} {H H' : Hp} {st : Store} (g : Grow ι H ι' H') (r : RelH W ι H st) :
    (∀ b xs, H b = some (.tup xs) → H' b = some (.tup xs)) ∧ (∀ b o u, H b = some (.frz o u) → H' b = some (.frz o u)) ∧ ∀ b qs, H b = some (.tbl qs) → ∃ more, H' b = some (.tbl (qs ++ more)) :=
  ⟨fun b xs e => g.keep b _ (.inr fun z => z) e, fun b o u e => g.keep b _ (.inr fun z => z) e, fun b qs e => ⟨#[], by rw [g.keep b (.tbl qs) (.inr fun z => z) e]; simp⟩⟩
theorem Ok.fs_lt (O : C.Ok) {b : Addr} (h : b ∈ C.Xc.fs) {pins : List (Addr × Obj)} {σ : L2.St} {H : Hp} {s : Shared} (I : Inv C.Xc pins σ H s) : b < C.L := by
  refine O.st.low b ?_
  rcases I.ok.stk with e | ⟨e, hf⟩
  · rw [e]; exact h
  · rw [e]
    unfold frs
    rw [List.filterMap_cons, hf]
    exact List.mem_cons_of_mem _ h
theorem GZ.wake (O : C.Ok) {I : GIt} (hI : C.IOk I) {ci gi : Nat} {ex : Lay → Hp → Prop} {s : Shared} (z : C.GZ I ci gi ex s) :
    ∃ σg ι H, Inv (C.X s H) [] σg H s ∧ (∀ b ∈ I.fp, FpOk (C.X s H) [] H b) ∧ RelH C.W ι H (C.sto ci) ∧ REnv C.W ι H (C.eg gi) σg ∧ I.tn gi s.heap ∧ ex ι H ∧ Grow I.ι0 I.H0 ι H ∧
      ∀ s1 H2 σ1 ip, Inv (C.X s H) ip σ1 H2 s1 → ∀ ι', Grow ι H ι' H2 → ∃ σc, Inv C.Xc C.pins σc H2 s1 ∧ REnv C.W ι' H2 (C.ev ci) σc ∧ Grow C.ι1 C.H1 ι' H2 := by
  obtain ⟨σc, σg, ι, H, oL, ip, hip, Ic, r, nc, g1, g0, hloc, hlen, ng, tn, hex⟩ := z
  have pin : ∀ p ∈ (C.L, oL) :: (C.ga, C.go) :: (ip ++ C.pins), s.heap.get? p.1 = some p.2 ∧ H p.1 = none ∧ p.1 ≠ C.Xc.env.locals ∧ p.1 ∉ C.Xc.fs ∧ ∀ v, p.2.data ≠ .cell v := fun p hp => Ic.pin p (List.mem_append_right _ hp)
  have pL := pin (C.L, oL) List.mem_cons_self
  have pG := pin (C.ga, C.go) (List.mem_cons_of_mem _ List.mem_cons_self)
  have nst : ∀ {b}, b ≠ C.Xc.env.locals → b ∉ C.Xc.fs → b ∉ frs C.Xc.stack := fun {b} h1 h2 m => by
    rcases List.mem_cons.mp (Ic.stkSub b m) with z | z
    · exact h1 z
    · exact h2 z
  have hL : C.L ≤ s.heap.objs.size := Nat.le_of_lt (Heap.lt_size pL.1)
  have Ig : Inv (C.X s H) [] σg H s := gX_wake O.sc O.st hL Ic.bs Ic.stack Ic.stkFree Ic.hok Ic.bare hloc hlen pL.2.1 fun p hp => by
    have e : p = (C.ga, C.go) := by simpa using hp
    subst e
    exact ⟨pG.1, pG.2.1, Nat.ne_of_gt O.ga, nst pG.2.2.1 pG.2.2.2.1, pG.2.2.2.2⟩
  refine ⟨σg, ι, H, Ig, fun b hb => ?_, r, ng, tn, hex, g0, fun s1 H2 σ1 ip2 J ι' g => ?_⟩
  · obtain ⟨o, hm⟩ := hip.1 b hb
    have pb := pin (b, o) (List.mem_cons_of_mem _ (List.mem_cons_of_mem _ (List.mem_append_left _ hm)))
    obtain ⟨f1, f2⟩ := hI.far b hb
    refine ⟨pb.2.1, Nat.ne_of_gt f1, nst pb.2.2.1 pb.2.2.2.1, .inr ?_, fun x c e => ?_, fun p hp => ?_⟩
    · show (cutHp C.L s.heap).objs.size ≤ b
      rw [cutHp_size hL]
      exact Nat.le_of_lt f1
    · have e2 : (cellsFrom (C.L + 1) C.scope.names []).lookup x = some c := e
      rw [cells_nil _ _ O.sc.nocell] at e2
      cases e2
    · have h2 : p ∈ [(C.ga, C.go)] ++ [] := hp
      have e : p = (C.ga, C.go) := by simpa using h2
      subst e
      exact Ne.symm f2
  · obtain ⟨k1, k2, k3⟩ := grow_keeps g r
    have Ip : Inv C.Xc C.pins σc H s := Ic.pins_of fun p hp => pin p (List.mem_cons_of_mem _ (List.mem_cons_of_mem _ (List.mem_append_right _ hp)))
    exact ⟨σc, gX_back Ip J O.cl O.lc O.pl k1 k2 k3, nc.grow g, g1.trans g⟩
theorem GZ.pause (O : C.Ok) {I : GIt} (hI : C.IOk I) {ci gi : Nat} {ex : Lay → Hp → Prop} {s s1 : Shared} {H H2 : Hp} {σ1 σc : L2.St} {ip : List (Addr × Obj)} {ι : Lay} (J : Inv (C.X s H) ip σ1 H2 s1) (hip : PinFp I.fp ip) (Ib : Inv C.Xc C.pins σc H2 s1)
    (r : RelH C.W ι H2 (C.sto ci)) (nc : REnv C.W ι H2 (C.ev ci) σc) (g1 : Grow C.ι1 C.H1 ι H2) (g0 : Grow I.ι0 I.H0 ι H2) (ng : REnv C.W ι H2 (C.eg gi) σ1) (tn : I.tn gi s1.heap) (hex : ex ι H2) : C.GZ I ci gi ex s1 := by
  have hloc := gX_loc O.sc J
  obtain ⟨m, ⟨oL, es, ep, ho, hd, _⟩, _⟩ := id hloc
  refine ⟨σc, σ1, ι, H2, oL, ip, hip, Ib.pins_of fun p hp => ?_, r, nc, g1, g0, hloc, J.len, ng, tn, hex⟩
  have far : ∀ {b : Addr}, C.L ≤ b → b ≠ C.Xc.env.locals ∧ b ∉ C.Xc.fs := fun {b} hb => ⟨Nat.ne_of_gt (Nat.lt_of_lt_of_le O.lc hb), fun m => absurd (Nat.lt_of_lt_of_le (O.fs_lt m Ib) hb) (Nat.lt_irrefl _)⟩
  rcases List.mem_cons.mp hp with e | hp
  · subst e
    exact ⟨ho, J.free, (far (Nat.le_refl _)).1, (far (Nat.le_refl _)).2, fun v z => by rw [hd] at z; cases z⟩
  · rcases List.mem_cons.mp hp with e | hp
    · subst e
      obtain ⟨q1, q2, _, _, q5⟩ := J.pin (C.ga, C.go) (List.mem_append_left _ (List.mem_singleton.mpr rfl))
      exact ⟨q1, q2, (far (Nat.le_of_lt O.ga)).1, (far (Nat.le_of_lt O.ga)).2, q5⟩
    · rcases List.mem_append.mp hp with hp | hp
      · obtain ⟨q1, q2, _, _, q5⟩ := J.pin p (List.mem_append_right _ hp)
        have f := (hI.far p.1 (hip.2 p hp)).1
        exact ⟨q1, q2, (far (Nat.le_of_lt f)).1, (far (Nat.le_of_lt f)).2, q5⟩
      · exact Ib.pin p (List.mem_append_right _ hp)
/-- the text of a generator's loop, by its mirrors -/
structure Lp (C : GC0) (bpS : List Stmt) (e : Expr) (g : GM) (bp : SM) (ye : EM) (vs : List Nat) : Prop where
  pg : ∀ s H, PG (C.X s H) C.tg (TGm C.W g vs)
  ps : ∀ s H, PSs (C.X s H) bpS (TSt C.W bp)
  pe : ∀ s H, PE (C.X s H) e (My.T C.W ye)
  run : ∀ (j : Nat) (d : D), C.xs[j]? = some d → ∃ e1, g d (C.eg j) = some e1 ∧ (∀ st, bp e1 st = some (.nx (C.eg (j + 1)), st)) ∧ ∀ st, ye (C.eg (j + 1)) st = some (C.ys j, st)
theorem turns (O : C.Ok) {I : GIt} (hI : C.IOk I) {bpS : List Stmt} {e : Expr} {g : GM} {bp : SM} {ye : EM} {vs : List Nat} (Q : Lp C bpS e g bp ye vs) {yp epos : Pos} {kk : Result → Sem PySem.Fin} {lv0 kp : List Value} {cF : Code} {p : Pos}
    (hco : C.scope.isCoroutine = false) (hin : interactive C.env = false) (hov : C.Aw.over cF [] = C.Aw.deeper C.env)
    (hend : ∀ s₀ s, C.Ed s → Seg (model C.Xc.prog C.Xc.w) C.Aw C.Re C.Yp 1 s₀ cF (kk (.ok .next)) [] s) :
    ∀ (r j n : Nat) (s₀ s : Shared), j + r = C.T → n + j = C.T + 1 → C.GZ I j j (fun _ _ => True) s →
      Seg (model C.Xc.prog C.Xc.w) C.Aw C.Re C.Yp n s₀ (.forLoop C.tg (.ref I.it) (bpS ++ [.Expr (.Yield (some e) yp) epos]) [] C.env) ((model C.Xc.prog C.Xc.w).den (.forLoop C.tg (.ref I.it) (bpS ++ [.Expr (.Yield (some e) yp) epos]) [] C.env))
        [.ret kk none false lv0 cF p kp] s := by
  have hov2 : C.Aw.over (.forLoop C.tg (.ref I.it) (bpS ++ [.Expr (.Yield (some e) yp) epos]) [] C.env) [.ret kk none false lv0 cF p kp] = C.Aw.deeper C.env := (over_loop rfl rfl).trans hov
  intro r
  induction r with
  | zero =>
    intro j n s₀ s hj hn z
    have hjT : j = C.T := by omega
    have hn0 : n = 1 := by omega
    subst hn0
    obtain ⟨σg, ι, H, Ig, hf, rl, ng, tn, _, g0, back⟩ := z.wake O hI
    show Seg _ _ _ _ _ _ _ ((forTurn C.tg (.ref I.it) (bpS ++ [.Expr (.Yield (some e) yp) epos]) [] C.env).onRaise _) _ s
    rw [Sem.onRaise_eq_wrap]
    unfold forTurn
    refine seg_bind_wrap (wpAny_standAt ?_)
    have hstop : I.J.stop j H := by
      have := hI.ok.stop ι H _ g0.gro rl trivial
      rwa [O.len, ← hjT] at this
    refine seg_bind_wrap (wpAny_onRaise ?_)
    rw [hov2]
    refine wpAny_mono (hI.turn.done (C.X s H) rfl rfl rfl rfl j [] s σg H (fun _ _ => False) Ig hf tn hstop) (fun r s1 hr => ?_) fun _ _ h => h.elim
    obtain ⟨rfl, J⟩ := hr
    obtain ⟨σc, Ib, nc, gc⟩ := back s1 H σg [] J ι Grow.refl
    refine seg_again (c' := .block [] C.env) rfl ?_
    refine seg_leaf (.ok .next) (hend s₀ s1 ⟨σc, ι, H, Ib, ?_, ?_, gc⟩)
    · rw [← hjT]; exact rl
    · rw [← hjT]; exact nc
  | succ r ih =>
    intro j n s₀ s hj hn z
    obtain ⟨n, rfl⟩ : ∃ m, n = m + 1 := ⟨n - 1, by omega⟩
    have hjl : j < C.xs.length := by rw [O.len]; omega
    have hd : C.xs[j]? = some C.xs[j] := List.getElem?_eq_getElem hjl
    obtain ⟨e1, q1, q2, q3⟩ := Q.run j _ hd
    obtain ⟨σg, ι, H, Ig, hf, rl, ng, tn, _, g0, back⟩ := z.wake O hI
    show Seg _ _ _ _ _ _ _ ((forTurn C.tg (.ref I.it) (bpS ++ [.Expr (.Yield (some e) yp) epos]) [] C.env).onRaise _) _ s
    rw [Sem.onRaise_eq_wrap]
    unfold forTurn
    refine seg_bind_wrap (wpAny_standAt ?_)
    obtain ⟨j1, j2⟩ := hI.ok.go j ι H _ _ g0.gro rl trivial hd
    refine seg_bind_wrap (wpAny_onRaise ?_)
    rw [hov2]
    refine wpAny_mono (hI.turn.item (C.X s H) rfl rfl rfl rfl j [] s σg H (fun _ _ => False) Ig hf tn j1) (fun r s1 hr => ?_) fun _ _ h => h.elim
    obtain ⟨u, rfl, hgo⟩ := hr
    refine seg_bind_wrap ?_
    rw [hov2]
    refine wpAny_mono hgo (fun _ s2 h2 => ?_) fun _ _ h => h.elim
    obtain ⟨x, H2, I2, rx, hy, tn2, hfp⟩ := h2
    obtain ⟨g2, r2, p2⟩ := j2 x H2 hy
    obtain ⟨ip, hip, hip2⟩ := pinFp_of (hI.turn.obj (j + 1) s2.heap tn2)
    have I3 : Inv (C.X s H) ip σg H2 s2 := I2.pins_of fun p hp => by
      obtain ⟨k1, k2⟩ := hip2 p hp
      obtain ⟨f0, f1, f2, f3, f4, f5⟩ := hf p.1 (hip.2 p hp)
      exact ⟨k1, hfp p.1 (hip.2 p hp), f1, f2, k2⟩
    have n2 := ng.grow g2
    refine seg_bind_wrap ?_
    rw [hov2]
    refine wpAny_mono ((Q.pg s H).run ip s2 σg H2 x u (fun σ' H' => H' = H2 ∧ REnv C.W ι H2 e1 σ') I3 rx ?_) (fun _ s3 h3 => ?_) fun _ _ h => h.elim
    · exact ⟨ι, C.sto j, C.eg j, _, e1, r2, n2, p2, q1, fun σ' n' _ => ⟨rfl, n'⟩⟩
    obtain ⟨σ3, H3, I4, rfl, n3⟩ := h3
    rw [Sem.bind_eq_wrap', Sem.wrap_wrap]
    refine seg_app ?_
    rw [hov2]
    refine wpAny_mono ((Q.ps s H).run ip s3 σ3 H3 { nx := fun σ' H' => ∃ ι', Grow ι H3 ι' H' ∧ RelH C.W ι' H' (C.sto j) ∧ REnv C.W ι' H' (C.eg (j + 1)) σ', rt := fun _ _ => False } I4 ⟨ι, C.sto j, e1, _, C.sto j, r2, n3, q2 _, fun σ' ι' H' g' r' n' => ⟨ι', g', r', n'⟩⟩) (fun fl s4 h4 => ?_) fun _ _ h => h.elim
    cases fl with
    | brk => obtain ⟨_, _, _, h⟩ := h4; exact h.elim
    | cont => obtain ⟨_, _, _, h⟩ := h4; exact h.elim
    | ret u => obtain ⟨_, _, _, _, _, h⟩ := h4; exact h.elim
    | next =>
      obtain ⟨σ4, H4, I5, ι4, g4, r4, n4⟩ := h4
      refine seg_execs_cons (seg_Expr_Yield rfl rfl rfl ?_ hco hin)
      rw [hov2]
      refine wpAny_mono ((Q.pe s H).run ip s4 σ4 H4 (fun v H' => ∃ ι', Grow ι4 H4 ι' H' ∧ RelH C.W ι' H' (C.sto j) ∧ Rep C.W ι' H' (C.ys j) v) I5 ⟨ι4, C.sto j, C.eg (j + 1), _, C.sto j, r4, n4, q3 _, fun v ι' H' g' r' p' => ⟨ι', g', r', p'⟩⟩) (fun v s5 h5 => ?_) fun _ _ h => h.elim
      obtain ⟨y, H5, I6, ry, ι5, g5, r5, p5⟩ := h5
      intro kap hk
      have gg : Grow ι H ι5 H5 := (g2.trans g4).trans g5
      obtain ⟨σc, Ib, nc, gc⟩ := back s5 H5 σ4 ip I6 ι5 gg
      have tn5 : I.tn (j + 1) s5.heap := hI.turn.keep (j + 1) s2.heap s5.heap tn2 fun b hb o ho => by
        obtain ⟨o2, hm⟩ := hip.1 b hb
        have h1 := (hip2 _ hm).1
        have h2 := (I6.pin _ (List.mem_append_right _ hm)).1
        rw [ho] at h1
        cases h1
        exact h2
      refine ⟨I, j, ⟨by omega, by omega⟩, hI, GZ.pause O hI I6 hip Ib r5 nc gc (g0.trans gg) (n4.grow g5) tn5 ⟨y, ry, p5⟩, fun s6 z6 => hk .none s6 ?_⟩
      exact seg_execs_nil (seg_again rfl (ih (j + 1) n s6 s6 (by omega) (by omega) z6))
/-- ahead of the loop -/
structure Hd (C : GC0) (preS : List Stmt) (iter : Expr) (pre : SM) (im : IM) (e0 : Env) : Prop where
  ps : ∀ s H, PSs (C.X s H) preS (TSt C.W pre)
  pi : ∀ s H, PI (C.X s H) C.tg iter (TIm C.W im)
  run : ∀ st, pre e0 st = some (.nx (C.eg 0), st)
  its : ∀ st, im (C.eg 0) st = some (C.xs, always, st)
/-- the state ahead of the first turn -/
def G1 (C : GC0) (e0 : Env) (s : Shared) : Prop :=
  ∃ σc σg ι H oL, Inv C.Xc ((C.L, oL) :: (C.ga, C.go) :: C.pins) σc H s ∧ RelH C.W ι H (C.sto 0) ∧ REnv C.W ι H (C.ev 0) σc ∧ Grow C.ι1 C.H1 ι H ∧ LocS C.N C.scope σg C.L s.heap ∧ σg.length = C.N.length ∧ REnv C.W ι H e0 σg
theorem starts (O : C.Ok) {preS bpS : List Stmt} {iter e : Expr} {pre bp : SM} {im : IM} {g : GM} {ye : EM} {vs : List Nat} {e0 : Env} (Q : Lp C bpS e g bp ye vs) (Q0 : Hd C preS iter pre im e0) {yp epos fpos : Pos}
    (hco : C.scope.isCoroutine = false) (hin : interactive C.env = false) (hov : C.Aw.over (.func (preS ++ [.For C.tg iter (bpS ++ [.Expr (.Yield (some e) yp) epos]) [] fpos]) C.env) [] = C.Aw.deeper C.env)
    (hs : ∀ x, foldedSetIterable iter C.env x = pure x) {s₀ s : Shared} (z : C.G1 e0 s) :
    Seg (model C.Xc.prog C.Xc.w) C.Aw C.Re C.Yp (C.T + 1) s₀ (.func (preS ++ [.For C.tg iter (bpS ++ [.Expr (.Yield (some e) yp) epos]) [] fpos]) C.env) ((model C.Xc.prog C.Xc.w).den (.func (preS ++ [.For C.tg iter (bpS ++ [.Expr (.Yield (some e) yp) epos]) [] fpos]) C.env)) [] s := by
  obtain ⟨σc, σg, ι, H, oL, Ic, r, nc, g1, hloc, hlen, ng⟩ := z
  have pin : ∀ p ∈ (C.L, oL) :: (C.ga, C.go) :: C.pins, s.heap.get? p.1 = some p.2 ∧ H p.1 = none ∧ p.1 ≠ C.Xc.env.locals ∧ p.1 ∉ C.Xc.fs ∧ ∀ v, p.2.data ≠ .cell v := fun p hp => Ic.pin p (List.mem_append_right _ hp)
  have pL := pin (C.L, oL) List.mem_cons_self
  have pG := pin (C.ga, C.go) (List.mem_cons_of_mem _ List.mem_cons_self)
  have nst : ∀ {b}, b ≠ C.Xc.env.locals → b ∉ C.Xc.fs → b ∉ frs C.Xc.stack := fun {b} h1 h2 m => by
    rcases List.mem_cons.mp (Ic.stkSub b m) with z | z
    · exact h1 z
    · exact h2 z
  have hL : C.L ≤ s.heap.objs.size := Nat.le_of_lt (Heap.lt_size pL.1)
  have Ig : Inv (C.X s H) [] σg H s := gX_wake O.sc O.st hL Ic.bs Ic.stack Ic.stkFree Ic.hok Ic.bare hloc hlen pL.2.1 fun p hp => by
    have e : p = (C.ga, C.go) := by simpa using hp
    subst e
    exact ⟨pG.1, pG.2.1, Nat.ne_of_gt O.ga, nst pG.2.2.1 pG.2.2.2.1, pG.2.2.2.2⟩
  have Ip : Inv C.Xc C.pins σc H s := Ic.pins_of fun p hp => pin p (List.mem_cons_of_mem _ (List.mem_cons_of_mem _ hp))
  refine seg_func ?_
  refine seg_app ?_
  rw [hov]
  refine wpAny_mono ((Q0.ps s H).run [] s σg H { nx := fun σ' H' => ∃ ι', Grow ι H ι' H' ∧ RelH C.W ι' H' (C.sto 0) ∧ REnv C.W ι' H' (C.eg 0) σ', rt := fun _ _ => False } Ig ⟨ι, C.sto 0, e0, _, C.sto 0, r, ng, Q0.run _, fun σ' ι' H' g' r' n' => ⟨ι', g', r', n'⟩⟩) (fun fl s1 h1 => ?_) fun _ _ h => h.elim
  cases fl with
  | brk => obtain ⟨_, _, _, h⟩ := h1; exact h.elim
  | cont => obtain ⟨_, _, _, h⟩ := h1; exact h.elim
  | ret u => obtain ⟨_, _, _, _, _, h⟩ := h1; exact h.elim
  | next =>
    obtain ⟨σ1, H2, J1, ι2, g2, r2, n2⟩ := h1
    refine seg_execs_cons ?_
    rw [exec_For]
    refine seg_bind_wrap (wpAny_standAt ?_)
    refine seg_bind_wrap ?_
    rw [hov]
    refine wpAny_mono ((Q0.pi s H).run [] s1 σ1 H2 (fun J H' => ∃ ι', Grow ι2 H2 ι' H' ∧ RelH C.W ι' H' (C.sto 0) ∧ ItOk C.W J ι' H' C.xs always) J1 ⟨ι2, C.sto 0, C.eg 0, C.xs, always, C.sto 0, r2, n2, Q0.its _, fun J ι' H' g' r' ok => ⟨ι', g', r', ok⟩⟩) (fun v s2 h2 => ?_) fun _ _ h => h.elim
    refine seg_bind_wrap (wpAny_of_eq (hs v) ?_)
    refine seg_bind_wrap (wpAny_standAt ?_)
    refine seg_bind_wrap (wpAny_holding ?_)
    rw [hov]
    refine wpAny_mono h2 (fun u s3 h3 => ?_) fun _ _ h => h.elim
    obtain ⟨it, fp, tn, J, H3, rfl, J3, TT, t0, hf, ι3, g3, r3, ok3⟩ := h3
    have far : ∀ b ∈ fp, C.L < b ∧ b ≠ C.ga := fun b hb => by
      obtain ⟨f0, f1, f2, f3, f4, f5⟩ := hf b hb
      have f6 : C.L ≤ b := by
        rcases f3 with z | z
        · exact absurd (show b ∈ ([] : List Addr) from z) (by simp)
        · have z2 : (cutHp C.L s.heap).objs.size ≤ b := z
          rwa [cutHp_size hL] at z2
      refine ⟨Nat.lt_of_le_of_ne f6 (Ne.symm f1), fun e => ?_⟩
      exact f5 (C.ga, C.go) (List.mem_append_left _ (List.mem_singleton.mpr rfl)) e.symm
    have hI : C.IOk ⟨it, fp, tn, J, ι3, H3⟩ := ⟨TT, ok3, far⟩
    obtain ⟨k1, k2, k3⟩ := grow_keeps ((g2.trans g3)) r
    have Ib : Inv C.Xc C.pins σc H3 s3 := gX_back Ip J3 O.cl O.lc O.pl k1 k2 k3
    obtain ⟨ip, hip, hip2⟩ := pinFp_of (TT.obj 0 s3.heap t0)
    have J4 : Inv (C.X s H) ip σ1 H3 s3 := J3.pins_of fun p hp => by
      obtain ⟨k1, k2⟩ := hip2 p hp
      obtain ⟨f0, f1, f2, f3, f4, f5⟩ := hf p.1 (hip.2 p hp)
      exact ⟨k1, f0, f1, f2, k2⟩
    have gg := g2.trans g3
    have z3 : C.GZ ⟨it, fp, tn, J, ι3, H3⟩ 0 0 (fun _ _ => True) s3 := GZ.pause O hI J4 hip Ib r3 (nc.grow gg) (g1.trans gg) Grow.refl (n2.grow g3) t0 trivial
    refine seg_call fun p => ?_
    refine turns O hI Q hco hin hov (fun s₀ s hE => ?_) C.T 0 (C.T + 1) s₀ s3 (by omega) (by omega) z3
    exact seg_end (.ok (.ret .none)) (.inl ⟨.inl rfl, rfl, hE⟩)
end GC0
end My

namespace My
open PySem PySem.Spec PyProof.Rows L2
/-! ### targets and statements that leave all generators as they are -/
structure PGk (X : Cx) (tg : Expr) (t : TG) : Prop where
  run : ∀ (pins : List (Addr × Obj)) (s : Shared) (σ : L2.St) (H : Hp) (v : V) (u : Value) (Q : L2.St → Hp → Prop), Inv X pins σ H s → RelV v u → t v σ H Q →
    wpAny (model X.prog X.w) X.A (assign tg X.env u) (fun _ s' => (∃ σ' H', Inv X pins σ' H' s' ∧ Q σ' H') ∧ s'.gens = s.gens) X.xe s
structure PGsk (X : Cx) (ts : List Expr) (t : TGs) : Prop where
  run : ∀ (pins : List (Addr × Obj)) (s : Shared) (σ : L2.St) (H : Hp) (vs : List V) (us : List Value) (Q : L2.St → Hp → Prop), Inv X pins σ H s → Vals vs us → t vs σ H Q →
    wpAny (model X.prog X.w) X.A (assignInOrder ((assignEach ts X.env).map (·.2)) us) (fun _ s' => (∃ σ' H', Inv X pins σ' H' s' ∧ Q σ' H') ∧ s'.gens = s.gens) X.xe s
structure PSk (X : Cx) (ss : List Stmt) (t : TS) : Prop where
  run : ∀ (pins : List (Addr × Obj)) (s : Shared) (σ : L2.St) (H : Hp) (D : Ends), Inv X pins σ H s → t D σ H → wpAny (model X.prog X.w) X.A (execs ss X.env) (fun f s' => SP X pins D f s' ∧ s'.gens = s.gens) X.xe s
section
variable {X : Cx} {pins : List (Addr × Obj)} {σ : L2.St} {H : Hp} {s : Shared}
/-- a plain local name is stored -/
theorem put_name {M : Model} {A : Around} {E : Value → Shared → Prop} {i : Nat} {x : Str} {v : V} {u : Value} {Q : Unit → Shared → Prop} (I : Inv X pins σ H s) (nd : X.N.Nodup) (hi : X.N[i]? = some x) (hx : X.env.scope.names.lookup x = some .local) (r : RelV v u)
    (h : ∀ s', Inv X pins (σ.set i (some v)) H s' → s'.gens = s.gens → Q () s') : wpAny M A (storeName X.env x u) Q E s := by
  obtain ⟨m, hn, hl⟩ := I.loc
  have hp : (X.env.scope.kind == .class || (X.env.scope.kind == .module && X.env.locals != X.env.globals)) = false := by rw [I.ok.kind]; rfl
  refine wpAny_storeName_local hx hn (fun h' hn' sb => h _ ?_ rfl) hp
  have lt : i < σ.length := by rw [I.len]; exact (List.getElem?_eq_some_iff.mp hi).1
  have stay : ∀ {b o}, b ≠ X.env.locals → s.heap.get? b = some o → h'.get? b = some o := fun n e => (sb.2 _ n).trans e
  have young : ∀ {b o}, X.s_0.heap.get? b = some o → b ≠ X.env.locals := fun e z => by
    have h1 := Nat.lt_of_lt_of_le (Heap.lt_size e) I.ok.above
    rw [z] at h1
    exact Nat.lt_irrefl _ h1
  obtain ⟨oL, _, _, eL, _⟩ := id hn
  have notL : ∀ {b o}, H b = some o → b ≠ X.env.locals := fun e z => by rw [z, I.free] at e; cases e
  refine {
    ok := I.ok
    os := I.os
    bare := I.bare
    base := ⟨fun b o e n nf nx => stay (young e) (I.base.keep b o e n nf nx), fun b o e n nf nx => (I.base.slot b o e n nf nx).imp fun _ z => stay (young e) z, I.base.free, fun b o e nx => (I.base.there b o e nx).imp fun _ z => stay (young e) z, I.base.tups, I.base.frzs, I.base.tbls⟩
    loc := ⟨_, hn', fun j y w e1 e2 e3 => ?_⟩
    cell := fun y c e => (I.cell y c e).imp fun _ z => z.sameBut sb (I.cne y c e)
    free := I.free
    freeC := I.freeC
    pin := fun p hp => ⟨stay (I.pin p hp).2.2.1 (I.pin p hp).1, (I.pin p hp).2⟩
    hok := fun b ob e => (I.hok b ob e).stay (fun c w' hc q => ?_) (fun _ q => q) fun _ _ q => q
    len := by rw [List.length_set]; exact I.len }
  · by_cases hj : j = i
    · subst hj
      rw [hi] at e1
      cases e1
      rw [List.getElem?_set_self lt] at e2
      cases e2
      exact ⟨u, r, .inl ⟨hx, if_pos rfl⟩⟩
    · rw [List.getElem?_set_ne (Ne.symm hj)] at e2
      obtain ⟨u2, r2, q⟩ := hl j y w e1 e2 e3
      refine ⟨u2, r2, ?_⟩
      have ny : y ≠ x := fun z => hj (nodup_ix nd e1 (by rw [z]; exact hi))
      rcases q with ⟨k, z⟩ | ⟨k, c, z1, z2⟩
      · exact .inl ⟨k, (if_neg ny).trans z⟩
      · exact .inr ⟨k, c, z1, z2.sameBut sb (I.cne y c z1)⟩
  · rcases hc with z | z
    · exact stay (by rw [z]; exact notL e) q
    · exact stay (notL z) q
theorem pgk_name {pos : Pos} {i : Nat} {x : Str} (nd : X.N.Nodup) (hi : X.N[i]? = some x) (hx : X.env.scope.names.lookup x = some .local) : PGk X (.Name x pos) (gName i) :=
  ⟨fun pins s σ H v u Q I r h => wpAny_assign_Name (put_name I nd hi hx r fun s' J e => ⟨⟨_, H, J, h⟩, e⟩)⟩
theorem pgsk_nil : PGsk X [] gNil := ⟨fun pins s σ H vs us Q I r ⟨e, h⟩ => by
  subst e
  cases r
  exact assignInOrder_nil ⟨⟨σ, H, I, h⟩, rfl⟩⟩
theorem pgsk_cons {e : Expr} {es : List Expr} {t : TG} {u : TGs} (h1 : PGk X e t) (h2 : PGsk X es u) (hs : (assignEach (e :: es) X.env).map (·.2) = assign e X.env :: (assignEach es X.env).map (·.2) := by rfl) : PGsk X (e :: es) (gCons t u) :=
  ⟨fun pins s σ H vs us Q I r ⟨v, vr, ev, h⟩ => by
    subst ev
    cases r with
    | cons rv rr =>
      rw [hs]
      refine assignInOrder_cons (thn (h1.run pins s σ H v _ _ I rv h) fun _ s1 ⟨⟨σ1, H1, I1, q1⟩, k1⟩ => ?_)
      exact thn (h2.run pins s1 σ1 H1 vr _ Q I1 rr q1) fun _ s2 ⟨q2, k2⟩ => ⟨q2, k2.trans k1⟩⟩
theorem pgk_tup {pos : Pos} {es : List Expr} {k : Nat} {t : TGs} {n : Nat} (hc : X.calm = true) (h : PGsk X es t) (hn : (assignEach es X.env).length = n := by rfl) (hst : (assignEach es X.env).findIdx? (·.1) = none := by rfl) : PGk X (.Tuple es k pos) (gTup X.K n t) :=
  ⟨fun pins s σ H v u Q I r ⟨a, xs, ea, hq, hl, hw⟩ => by
    subst ea
    cases r
    obtain ⟨its, rv, ht, hz⟩ := I.tuple hq
    refine assign_Tuple_tuple (I.ok.hd hc) ht (by rw [hn, ← hl, rv.length]; simp) hst fun h' hx => ?_
    have I1 : Inv X pins σ H { s with heap := h' } := I.kept (t' := s.toks) fun b o e => hx b o (Nat.ne_of_lt (Heap.lt_size e)) e
    exact h.run pins { s with heap := h' } σ H xs its.toArray.toList Q I1 (by simpa using rv) hw⟩
/-- name = name -/
theorem psk_copy {i j : Nat} {x y : Str} {px py pos : Pos} (nd : X.N.Nodup) (hi : X.N[i]? = some x) (hx : X.env.scope.names.lookup x = some .local) (hj : X.N[j]? = some y) (hy : X.env.scope.names.lookup y = some .local) (hd : (y == ("__debug__" : Str)) = false := by decide)
    (hs : swapsWith (.Name y py) (some (.Name x px)) pos.line X.env = pure false := by rfl) : PSk X [.Assign [.Name x px] (.Name y py) pos] (tAsg (tVar j) (gName i)) :=
  ⟨fun pins s σ H D I h => by
    obtain ⟨v, ev, q⟩ := h
    obtain ⟨m, hn, hl⟩ := I.loc
    obtain ⟨u, r, l⟩ := hl j y v hj ev (.inl hy)
    have hm : m y = some u := by
      rcases l with ⟨_, z⟩ | ⟨z, _⟩
      · exact z
      · rcases z with z | z
        · have z2 : X.env.scope.names.lookup y = some .cell := z
          rw [hy] at z2; cases z2
        · have z2 : X.env.scope.names.lookup y = some .free := z
          rw [hy] at z2; cases z2
    refine wpAny_execs_cons ?_
    refine wpAny_Assign_Name (wpAny_Name (wpAny_loadName_local I.ok.kind hy hn hm ?_) hd) hs
    refine put_name I nd hi hx r fun s' J e => ?_
    exact wpAny_execs_nil ⟨⟨_, H, J, q⟩, e⟩⟩
end
/-! by mirrors -/
theorem PGk.imp {X : Cx} {tg : Expr} {t t' : TG} (h : PGk X tg t) (k : ∀ v σ H Q, t' v σ H Q → t v σ H Q) : PGk X tg t' := ⟨fun p s σ H v u Q I r q => h.run p s σ H v u Q I r (k _ _ _ _ q)⟩
theorem PGsk.imp {X : Cx} {tg : List Expr} {t t' : TGs} (h : PGsk X tg t) (k : ∀ v σ H Q, t' v σ H Q → t v σ H Q) : PGsk X tg t' := ⟨fun p s σ H v u Q I r q => h.run p s σ H v u Q I r (k _ _ _ _ q)⟩
theorem PSk.imp {X : Cx} {ss : List Stmt} {t t' : TS} (h : PSk X ss t) (k : ∀ D σ H, t' D σ H → t D σ H) : PSk X ss t' := ⟨fun p s σ H D I q => h.run p s σ H D I (k _ _ _ q)⟩
section
variable {X : Cx} {W : Wd} {pos : Pos}
theorem jgk_name {i : Nat} {x : Str} {vs : List Nat} (nd : X.N.Nodup) (hi : X.N[i]? = some x) (hx : X.env.scope.names.lookup x = some .local) (hv : i ∈ vs := by decide) : PGk X (.Name x pos) (TGm W (gNm i) vs) :=
  (pgk_name nd hi hx).imp fun v σ H Q ⟨ι, st, env, d, env', r, n, h, e, k⟩ => by
    cases e
    exact k _ (n.set i h) ((wipe_set σ i (some v) vs).1 hv)
theorem jgsk_nil {vs : List Nat} : PGsk X [] (TGsm W gsNil vs) := pgsk_nil.imp fun us σ H Q ⟨ι, st, env, d, env', r, n, h, e, k⟩ => by
  cases d with
  | nil =>
    cases e
    exact ⟨h.nil_of, k _ n rfl⟩
  | cons _ _ => cases e
theorem jgsk_cons {e : Expr} {es : List Expr} {g : GM} {gs : GMs} {vs : List Nat} (h1 : PGk X e (TGm W g vs)) (h2 : PGsk X es (TGsm W gs vs))
    (hs : (assignEach (e :: es) X.env).map (·.2) = assign e X.env :: (assignEach es X.env).map (·.2) := by rfl) : PGsk X (e :: es) (TGsm W (gsCons g gs) vs) := (pgsk_cons h1 h2 hs).imp fun us σ H Q ⟨ι, st, env, d, env', r, n, h, e, k⟩ => by
  cases d with
  | nil => cases e
  | cons d ds =>
    unfold gsCons at e
    dsimp only at e
    split at e
    · rename_i e1 q
      obtain ⟨v, u, rfl, h1, h2⟩ := h.uncons
      exact ⟨v, u, rfl, ι, st, env, d, e1, r, n, h1, q, fun σ1 n1 w1 => ⟨ι, st, e1, ds, env', r, n1, h2, e, fun σ2 n2 w2 => k _ n2 (w2.trans w1)⟩⟩
    · cases e
theorem jgk_tup {es : List Expr} {kk : Nat} {gs : GMs} {n : Nat} {vs : List Nat} (hK : X.K = W.K) (hc : X.calm = true) (h : PGsk X es (TGsm W gs vs))
    (hn : (assignEach es X.env).length = n := by rfl) (hst : (assignEach es X.env).findIdx? (·.1) = none := by rfl) : PGk X (.Tuple es kk pos) (TGm W (gTp n gs) vs) := (pgk_tup hc h hn hst).imp fun v σ H Q ⟨ι, st, env, d, env', r, n', h, e, k⟩ => by
  unfold gTp at e
  split at e
  · rename_i xs
    split at e
    · rename_i hl
      obtain ⟨a, us, rfl, h1, h2⟩ := seqT_ok h (xs := xs) rfl
      exact ⟨a, us, rfl, SqT.of h1, by rw [← h2.length]; exact hl, ι, st, env, xs, env', r, n', h2, e, k⟩
    · cases e
  · cases e
theorem jsk_copy {i j : Nat} {x y : Str} {px py : Pos} (nd : X.N.Nodup) (hi : X.N[i]? = some x) (hx : X.env.scope.names.lookup x = some .local) (hj : X.N[j]? = some y) (hy : X.env.scope.names.lookup y = some .local) (hd : (y == ("__debug__" : Str)) = false := by decide)
    (hs : swapsWith (.Name y py) (some (.Name x px)) pos.line X.env = pure false := by rfl) : PSk X [.Assign [.Name x px] (.Name y py) pos] (TSt W (sSet i (eVar j))) :=
  (psk_copy nd hi hx hj hy hd hs).imp fun D σ H ⟨ι, st, env, o, st', r, n, e, k⟩ => by
    unfold sSet eVar at e
    split at e
    · rename_i d s1 q
      split at q
      · rename_i d2 q2
        cases q
        cases e
        obtain ⟨v, h1, h2⟩ := n.get j _ q2
        exact ⟨v, h1, k _ _ _ Grow.refl r (n.set i h2)⟩
      · cases q
    · cases e
end
end My

namespace My
open PySem PySem.Spec PyProof.Rows L2 GenW
/-! ### a generator is made, and walked by a for loop -/
/-- all but the generators as it was -/
theorem regen {X : Cx} {pins : List (Addr × Obj)} {σ : L2.St} {H : Hp} {s s' : Shared} (I : Inv X pins σ H s) (hh : s'.heap = s.heap) (ho : s'.os = s.os) (hb : AllBare s'.gens) : Inv X pins σ H s' :=
  ⟨I.ok, ho.trans I.os, hb, by rw [hh]; exact I.base, by rw [hh]; exact I.loc, by rw [hh]; exact I.cell, I.free, I.freeC, by rw [hh]; exact I.pin, by rw [hh]; exact I.hok, I.len⟩
theorem bare_set {s : Shared} {g : Nat} {x : GenState} (h : AllBare s.gens) (hx : x.bare = true) : AllBare (s.setGen g x).gens := allBare_setGen h hx
/-- the body of a generator def: statements, then a loop that yields at the end of each turn -/
def gBody (preS bpS : List Stmt) (tg iter e : Expr) (yp epos fpos : Pos) : List Stmt := preS ++ [.For tg iter (bpS ++ [.Expr (.Yield (some e) yp) epos]) [] fpos]
section
variable {X : Cx} {N ps : List Str} {qual name : Str} {params : Arguments} {body : List Stmt} {scope : Scope} {f : Addr} {dV kV doc pm cdv ct oc : Value} {an od : Option Addr} {osl : Array (Option Value)}
theorem made {pins : List (Addr × Obj)} {σ : L2.St} {H : Hp} {s : Shared} {us : List Value} {vs : List V} (hc : X.calm = true) (I : Inv X pins σ H s) (S : GSc N ps scope) (lk : X.K.lookup f = some ⟨oc, od, .func (PySem.W.fnOf name qual params body scope dV kV doc pm an cdv ct), osl⟩) (hcd : PySem.W.codeIn X.K cdv qual = true)
    (hr : X.A.depth < recursionLimit) (hb : BindsTo s (PySem.W.fnOf name qual params body scope dV kV doc pm an cdv ct) ⟨us, []⟩ (ps.zip us)) (r : Vals vs us) (hl : vs.length = ps.length) :
    codeAny (model X.prog X.w) X.A (.call (.ref f) ⟨us, []⟩) (fun res s' => ∃ (ga g : Nat) (go oL : Obj) (nm qn : Value), res = .ok (.ret (.ref ga)) ∧ s.heap.objs.size < ga ∧ (go.cls = .type "generator" ∧ go.data = .fields #[.int g 0, nm, qn] ∧ go.slots = #[]) ∧
      Inv X ((s.heap.objs.size, oL) :: (ga, go) :: pins) σ H s' ∧ LocS N scope (L2.start N vs) s.heap.objs.size s'.heap ∧ (L2.start N vs).length = N.length ∧
      s'.gens[g]? = some (.fresh (.func body (envOfC qual scope s.heap.objs.size f cdv))) ∧ s'.heap.NoLimit) s := by
  have KX : X.K.In s.heap := I.kIn
  have lim : s.heap.NoLimit := I.nolimit
  have hkind : ∀ y ∈ ps.zip us, scope.names.lookup y.1 = some .local ∨ (scope.names.lookup y.1 = some .cell ∧ ((cellsFrom (s.heap.objs.size + 1) scope.names []).lookup y.1).isSome = true) := fun ⟨n, v⟩ hy => by
    rcases S.g.par n (List.of_mem_zip hy).1 with q | q
    · exact .inl q
    · exact absurd q (S.kinds n).1
  refine codeAny_call_generator hr (KX _ _ lk) rfl S.g.co S.g.gen rfl (PySem.W.codeRec_of KX hcd) (hb _ _ _ _ ?_)
  refine wpAny_newFunctionEnv_cells S.g.kind hkind fun env he s1 x => ?_
  subst he
  obtain ⟨h1, tk, es1, hk1⟩ := x.done
  have os1 : s1.os = s.os := by rw [es1]
  have gen1 : s1.gens = s.gens := by rw [es1]
  have lt1 : s.heap.objs.size < s1.heap.objs.size := x.toInCall.ns.lt
  have kp1 : ∀ b o, s.heap.get? b = some o → s1.heap.get? b = some o := x.toInCall.keep
  have lim1 : s1.heap.NoLimit := lim.keeps x.toInCall.keep
  refine ⟨lim1, ?_⟩
  have I0 : Inv (gcxOf X.prog X.w X.K X.mg X.base N qual scope f cdv X.A X.stack s H (fun _ _ _ => False) []) [] (L2.start N vs) H s1 := inv_startG S.g (I.ok.hd hc) I.env0 hl r x
  have hloc1 : LocS N scope (L2.start N vs) s.heap.objs.size s1.heap := by
    obtain ⟨m, hm, q⟩ := I0.loc
    refine ⟨m, hm, fun i y v h1 h2 h3 => ?_⟩
    obtain ⟨u, ru, l⟩ := q i y v h1 h2 h3
    rcases l with ⟨k, e⟩ | ⟨k, _⟩
    · exact ⟨u, ru, e, k⟩
    · rcases k with k | k
      · exact ((S.kinds y).1 k).elim
      · exact ((S.kinds y).2 k).elim
  obtain ⟨m, ⟨oL, es, ep, hoL, hdL, _⟩, _⟩ := id hloc1
  have main : ∀ (go : Obj) (nm qn : Value) (tk2 : Nat), go.cls = .type "generator" → go.data = .fields #[.int s1.gens.size 0, nm, qn] → go.slots = #[] → (∀ h : Heap, (h.push go).get? h.objs.size = some go) →
      ∃ (ga g : Nat) (go' oL : Obj) (nm qn : Value), (Except.ok (Flow.ret (Value.ref s1.heap.objs.size)) : Result) = .ok (.ret (.ref ga)) ∧ s.heap.objs.size < ga ∧ (go'.cls = .type "generator" ∧ go'.data = .fields #[.int g 0, nm, qn] ∧ go'.slots = #[]) ∧
        Inv X ((s.heap.objs.size, oL) :: (ga, go') :: pins) σ H { s1 with gens := s1.gens.push (.fresh (.func body (envOfC qual scope s.heap.objs.size f cdv))), toks := tk2, heap := s1.heap.push go } ∧
        LocS N scope (L2.start N vs) s.heap.objs.size (s1.heap.push go) ∧ (L2.start N vs).length = N.length ∧ (s1.gens.push (.fresh (.func body (envOfC qual scope s.heap.objs.size f cdv))))[g]? = some (.fresh (.func body (envOfC qual scope s.heap.objs.size f cdv))) ∧ (s1.heap.push go).NoLimit := by
    intro go nm qn tk2 hgc hgd hgs hgp
    have kp2 : ∀ b o, s1.heap.get? b = some o → (s1.heap.push go).get? b = some o := fun b o e => Heap.get?_push_of_some _ e
    have I2 : Inv X pins σ H { s1 with gens := s1.gens.push (.fresh (.func body (envOfC qual scope s.heap.objs.size f cdv))), toks := tk2, heap := s1.heap.push go } :=
      I.call' (ch := []) os1 (Un.kept fun b o e => kp2 b o (kp1 b o e)) (I.hok.kept fun b o e => kp2 b o (kp1 b o e)) (AllBare.push (by rw [gen1]; exact I.bare) rfl) fun b z => by simp at z
    have fresh : ∀ b, s.heap.objs.size ≤ b → H b = none ∧ b ≠ X.env.locals ∧ b ∉ X.fs := fun b hb => ⟨I.hok.fresh hb, Nat.ne_of_gt (Nat.lt_of_lt_of_le I.lt hb), I.nofs hb⟩
    refine ⟨s1.heap.objs.size, s1.gens.size, go, oL, nm, qn, rfl, lt1, ⟨hgc, hgd, hgs⟩, I2.pins_of fun p hp => ?_, hloc1.keep hoL (kp2 _ _ hoL), I0.len, Array.getElem?_push_size .., lim1.keeps kp2⟩
    rcases List.mem_cons.mp hp with e | hp
    · subst e
      obtain ⟨f1, f2, f3⟩ := fresh s.heap.objs.size (Nat.le_refl _)
      exact ⟨kp2 _ _ hoL, f1, f2, f3, fun v z => by rw [hdL] at z; cases z⟩
    · rcases List.mem_cons.mp hp with e | hp
      · subst e
        obtain ⟨f1, f2, f3⟩ := fresh s1.heap.objs.size (Nat.le_of_lt lt1)
        exact ⟨hgp _, f1, f2, f3, fun v z => by rw [hgd] at z; cases z⟩
      · exact I2.pin p (List.mem_append_right _ hp)
  exact main _ _ _ _ rfl rfl rfl fun h => Heap.get?_push_size _ rfl
end
/-- the run of a generator's mirrors, whatever cells there are: its items xs, its names ahead of each turn, what it yields -/
structure GRun (pre : SM) (im : IM) (g : GM) (bp : SM) (ye : EM) (e0 : Env) (ys xs : List D) (eg : Nat → Env) : Prop where
  len : xs.length = ys.length
  pre : ∀ st, pre e0 st = some (.nx (eg 0), st)
  its : ∀ st, im (eg 0) st = some (xs, always, st)
  turn : ∀ (j : Nat) (d : D), xs[j]? = some d → ∃ e1 y, g d (eg j) = some e1 ∧ (∀ st, bp e1 st = some (.nx (eg (j + 1)), st)) ∧ (∀ st, ye (eg (j + 1)) st = some (y, st)) ∧ ys[j]? = some y
/-- a generator def, by the mirrors of its pieces: called with ds it yields gf ds -/
structure GDef (P : Program) (w : World) (W : Wd) (mg : Str → Option Value) (base : Heap) (k : Nat) (f : Addr) (fd : FuncData) (ps : List Str) (gf : List D → Option (List D)) : Prop where
  ex : ∃ (name qual : Str) (params : Arguments) (preS bpS : List Stmt) (tg iter e : Expr) (yp epos fpos : Pos) (scope : Scope) (dV kV doc pm cdv ct oc : Value) (an od : Option Addr) (osl : Array (Option Value)) (N : List Str) (pre : SM) (im : IM) (g : GM) (bp : SM) (ye : EM) (vs : List Nat),
    fd = PySem.W.fnOf name qual params (gBody preS bpS tg iter e yp epos fpos) scope dV kV doc pm an cdv ct ∧ W.K.lookup f = some ⟨oc, od, .func fd, osl⟩ ∧ PySem.W.codeIn W.K cdv qual = true ∧ GSc N ps scope ∧
    (∀ L x, foldedSetIterable iter (envOfC qual scope L f cdv) x = pure x) ∧
    (∀ A L out pn s H, Room k (A.deeper (envOfC qual scope L f cdv)) → PSs (gX P w W.K mg base N qual scope f cdv A L out pn s H) preS (TSt W pre) ∧ PI (gX P w W.K mg base N qual scope f cdv A L out pn s H) tg iter (TIm W im) ∧
      PG (gX P w W.K mg base N qual scope f cdv A L out pn s H) tg (TGm W g vs) ∧ PSs (gX P w W.K mg base N qual scope f cdv A L out pn s H) bpS (TSt W bp) ∧ PE (gX P w W.K mg base N qual scope f cdv A L out pn s H) e (T W ye)) ∧
    ∀ ds ys, gf ds = some ys → ds.length = ps.length ∧ ∃ xs eg, GRun pre im g bp ye (enter N.length ds) ys xs eg
/-- what is walked: a generator just called -/
def iGen (gf : List D → Option (List D)) (m : AM) : IM := fun env st => match m env st with
  | some (ds, s1) => match gf ds with
    | some ys => some (ys, always, s1)
    | none => none
  | none => none
/-- the caller's names and cells, turn by turn -/
def cst (gc : GM) (bm : SM) (ys : List D) (e : Env) (st : Store) : Nat → Env × Store
  | 0 => (e, st)
  | i + 1 => match ys[i]? with
    | some y => match gc y (cst gc bm ys e st i).1 with
      | some e1 => match bm e1 (cst gc bm ys e st i).2 with
        | some (.nx e2, s2) => (e2, s2)
        | some (.ct e2, s2) => (e2, s2)
        | _ => (e, st)
      | none => (e, st)
    | none => (e, st)
section
variable {X : Cx} {W : Wd} {k : Nat} {f : Addr} {fd : FuncData} {ps : List Str} {gf : List D → Option (List D)} {x : Str} {p pos pos2 : Pos} {e1 : Expr} {es : List Expr} {m : AM} {tgc : Expr} {bodyc : List Stmt} {gc : GM} {bm : SM} {vs : List Nat}
theorem js_forG (hK : X.K = W.K) (hc : X.calm = true) (G : GDef X.prog X.w W X.mg X.base k f fd ps gf) (hr : Room (k + 4) X.A) (hg : Gl X x) (hm : X.mg x = some (.ref f)) (hk : PySem.W.keepIn X.K (.ref f) = true) (hb : Binds X.K fd ps [])
    (ha : PA X (e1 :: es) (TAs W m)) (ht : PGk X tgc (TGm W gc vs)) (hbody : PSk X bodyc (TSt W bm)) (hp : ∀ e s, ¬ X.xe e s) (hdb : (x == ("__debug__" : Str)) = false := by decide)
    (he : starEach (e1 :: es) X.env = (false, eval e1 X.env) :: starEach es X.env := by rfl) (hpl : (backTo pos2 (starEach es X.env)).any (·.1) = false := by rfl) (hs : ∀ v, foldedSetIterable (.Call (.Name x p) (e1 :: es) [] pos2) X.env v = pure v := by intro _; rfl) :
    PS X (.For tgc (.Call (.Name x p) (e1 :: es) [] pos2) bodyc [] pos) (TSt W (sFor (iGen gf m) gc bm)) := by
  refine ⟨fun pins s σ H D I h => ?_⟩
  obtain ⟨ι, st, env, o, st', r, n, e, kq⟩ := h
  unfold sFor at e
  split at e
  · rename_i ys gd s1 q
    unfold iGen at q
    split at q
    · rename_i ds s2 q1
      split at q
      · rename_i ys2 q2
        cases q
        refine wpAny_For ?_ hs
        refine wpAny_Call_Name_kw (ld_glob I hg hm ?_ hdb)
        refine PySem.W.callWith_K (h₀ := X.base) I.ok.mod.kin hk (thn (ha.run pos2 pins s σ H _ I (TA.of r n q1 fun vs ι1 H1 g1 r1 p1 => (⟨ι1, g1, r1, p1⟩ : ∃ ι1, Grow ι H ι1 H1 ∧ RelH W ι1 H1 s1 ∧ Reps W ι1 H1 ds vs))) fun us s3 ⟨vs3, H3, I3, rv, ι3, g3, r3, p3⟩ => ⟨I3.kIn, ?_⟩) he hpl
        obtain ⟨name, qual, params, preS, bpS, tg, iter, ye_, yp, epos, fpos, scope, dV, kV, doc, pm, cdv, ct, oc, an, od, osl, N, pre, im, g, bp, ye, vsG, rfl, lk, hcd, S, hfs, hder, hrun⟩ := G.ex
        obtain ⟨hlen, xs, eg, R⟩ := hrun ds ys q2
        have hl3 : vs3.length = ps.length := by rw [← p3.length]; exact hlen
        have lu : us.length = ps.length := by rw [← rv.length]; exact hl3
        have hbt := hb s3 us I3.kIn (by simpa using lu)
        rw [List.append_nil] at hbt
        refine wpAny_call (codeAny_mono (made hc I3 S (by rw [hK]; exact lk) (by rw [hK]; exact hcd) hr.depth hbt rv hl3) fun res s4 hres => ?_)
        obtain ⟨ga, gi, go, oL, nm, qn, rfl, hga, ⟨go1, go2, go3⟩, I4, hloc, hN, hgs, hlim⟩ := hres
        rw [← hK] at hder
        have hR : Room k (X.A.in1.deeper (envOfC qual scope s3.heap.objs.size f cdv)) := ((show Room (k + 3 + 1) X.A from hr).in1.mono (by omega : k + 1 ≤ k + 3)).deeper _
        let C : GC0 := { Xc := X, W := W, N := N, ps := ps, qual := qual, scope := scope, f := f, cd := cdv, Aw := X.A.in1, L := s3.heap.objs.size, ga := ga, go := go, pins := pins, ev := fun i => (cst gc bm ys env s1 i).1, sto := fun i => (cst gc bm ys env s1 i).2, ι1 := ι3, H1 := H3, eg := eg, ys := fun j => ys.getD j .non, T := ys.length, tg := tg, xs := xs }
        have O : C.Ok := {
          sc := S
          st := ⟨I3.ok.mod, I3.ok.hd hc, I3.ok.frames, Nat.le_trans I3.ok.bsz I3.sz, fun b m => by
            rcases List.mem_cons.mp (I3.stkSub b m) with z | z
            · rw [z]; exact I3.lt
            · obtain ⟨_, ob, ho, _⟩ := I3.funs.mem z
              exact Heap.lt_size ho⟩
          cl := fun y c e => by
            obtain ⟨v, z⟩ := I3.cell y c e
            exact z.lt
          lc := I3.lt
          pl := fun p hp => Heap.lt_size (I3.pin p hp).1
          ga := hga
          gd := fun v z => by
            have z2 : go.data = .cell v := z
            rw [go2] at z2; cases z2
          len := R.len }
        have Q : GC0.Lp C bpS ye_ g bp ye vsG := {
          pg := fun s H => (hder _ _ _ _ s H hR).2.2.1
          ps := fun s H => (hder _ _ _ _ s H hR).2.2.2.1
          pe := fun s H => (hder _ _ _ _ s H hR).2.2.2.2
          run := fun j d hd => by
            obtain ⟨e1, y, a1, a2, a3, a4⟩ := R.turn j d hd
            refine ⟨e1, a1, a2, fun st => ?_⟩
            rw [a3 st]
            show some (y, st) = some (ys.getD j .non, st)
            rw [List.getD_eq_getElem?_getD, a4]
            rfl }
        have Q0 : GC0.Hd C preS iter pre im (enter N.length ds) := ⟨fun s H => (hder _ _ _ _ s H hR).1, fun s H => (hder _ _ _ _ s H hR).2.1, R.pre, R.its⟩
        have hin : interactive C.env = false := by
          show (scope.kind == .module && _) = false
          rw [S.g.kind]
          rfl
        have isgen : ∀ {h : Heap}, h.get? ga = some go → h.IsGen ga gi := fun e => ⟨go, nm, qn, e, go1, go2, go3⟩
        have ga4 : s4.heap.get? ga = some go := (I4.pin (ga, go) (List.mem_append_right _ (List.mem_cons_of_mem _ List.mem_cons_self))).1
        refine wpAny_pyIter_gen (isgen ga4) ?_
        have bare4 : AllBare (s4.setGen gi .running).gens := bare_set I4.bare rfl
        have z0 : C.G1 (enter N.length ds) (s4.setGen gi .running) := by
          refine ⟨σ, L2.start N vs3, ι3, H3, oL, regen I4 rfl rfl bare4, r3, n.grow g3, Grow.refl, hloc, hN, REnv.enter p3⟩
        have st0 := GC0.starts O Q Q0 (yp := yp) (epos := epos) (fpos := fpos) S.g.co hin over_func (fun x => hfs _ x) (s₀ := s4.setGen gi .running) z0
        let INV : Nat → Shared → Prop := fun n s' => ∃ i gs, n = ys.length + 1 - i ∧ i ≤ ys.length ∧ s'.heap.get? ga = some go ∧ s'.heap.NoLimit ∧ s'.gens[gi]? = some gs ∧ gs.Goes (model X.prog X.w) X.A.in1 C.Re C.Yp (ys.length + 1 - i) (.send .none) (s'.setGen gi .running) ∧ forGo always gc bm (ys.drop i) (C.ev i) (C.sto i) = some (o, st')
        refine codeAny_forLoop_any INV ?_ (ys.length + 1) ⟨0, _, rfl, Nat.zero_le _, ga4, hlim, hgs, ⟨rfl, st0⟩, e⟩
        rintro nn s5 ⟨i, gs, rfl, hi, ga5, lim5, hgs5, hgo, hfo⟩
        obtain ⟨m, hm⟩ : ∃ m, ys.length + 1 - i = m + 1 := ⟨ys.length - i, by omega⟩
        rw [hm] at hgo
        have hgl : gi + 1 ≤ s5.gens.size := (Array.getElem?_eq_some_iff.mp hgs5).1
        refine wpAny_gsz (n := gi + 1) hgl (next_genG (F := fun n _ s1 => n = 1 ∧ C.Ed s1) (Er := fun _ _ => False) (I.ok.hd hc) lim5 hr.depth (isgen ga5) hgs5 hgo (fun v s6 gs' hbare hv => ?_) (fun s6 hp6 h' hk6 => ?_) fun e s6 he => he.elim)
        · intro hsz
          obtain ⟨GI, i', ⟨hi1, hi2⟩, hIok, z, hkap⟩ := hv
          have hii : i' = i := by
            have : C.T = ys.length := rfl
            omega
          subst hii
          have hiT : i' < ys.length := hi2
          obtain ⟨σc, σg, ι6, H6, oL6, ip, hip, I6, r6, n6, g6, g0, hloc6, hlen6, ng6, tn6, u, ru, pu⟩ := z
          have hgl6 : gi < s6.gens.size := by
            have : (s6.setGen gi gs').gens.size = s6.gens.size := setGen_size s6 gi gs'
            omega
          have I7 : Inv X ((s3.heap.objs.size, oL6) :: (ga, go) :: (ip ++ pins)) σc H6 (s6.setGen gi gs') := regen I6 rfl rfl (bare_set I6.bare hbare)
          have ga6 : (s6.setGen gi gs').heap.get? ga = some go := (I7.pin (ga, go) (List.mem_append_right _ (List.mem_cons_of_mem _ List.mem_cons_self))).1
          refine go_of ga6 go1 go2 (by decide) ?_
          have hd : ys.drop i' = ys[i'] :: ys.drop (i' + 1) := List.drop_eq_getElem_cons hiT
          have hyi : C.ys i' = ys[i'] := by
            show ys.getD i' .non = _
            rw [List.getD_eq_getElem?_getD, List.getElem?_eq_getElem hiT]
            rfl
          rw [hyi] at pu
          rw [hd] at hfo
          unfold forGo at hfo
          rw [if_pos (show always (C.sto i') from trivial)] at hfo
          have hcst : ∀ (e1 : Env), gc ys[i'] (C.ev i') = some e1 → ∀ (e2 : Env) (s2 : Store), (bm e1 (C.sto i') = some (.nx e2, s2) ∨ bm e1 (C.sto i') = some (.ct e2, s2)) → C.ev (i' + 1) = e2 ∧ C.sto (i' + 1) = s2 := fun e1 h1 e2 s2 h2 => by
            have h3 : cst gc bm ys env s1 (i' + 1) = (e2, s2) := by
              show (match ys[i']? with | some y => _ | none => _) = _
              rw [List.getElem?_eq_getElem hiT]
              have h1' : gc ys[i'] (cst gc bm ys env s1 i').1 = some e1 := h1
              simp only [h1']
              rcases h2 with h2 | h2
              · have h2' : bm e1 (cst gc bm ys env s1 i').2 = some (.nx e2, s2) := h2
                simp only [h2']
              · have h2' : bm e1 (cst gc bm ys env s1 i').2 = some (.ct e2, s2) := h2
                simp only [h2']
            exact ⟨congrArg Prod.fst h3, congrArg Prod.snd h3⟩
          split at hfo
          · rename_i e1 hgc
            refine wpAny_mono (ht.run _ _ σc H6 u v (fun σ' H' => H' = H6 ∧ REnv W ι6 H6 e1 σ') I7 ru ⟨ι6, C.sto i', C.ev i', ys[i'], e1, r6, n6, pu, hgc, fun σ' n' _ => ⟨rfl, n'⟩⟩) (fun _ s8 h8 => ?_) fun e s h => (hp e s h).elim
            obtain ⟨⟨σ8, H8, I8, rfl, n8⟩, k8⟩ := h8
            obtain ⟨out, s9, hbm⟩ : ∃ out s9, bm e1 (C.sto i') = some (out, s9) := by
              cases hb2 : bm e1 (C.sto i') with
              | none => rw [hb2] at hfo; cases hfo
              | some z => exact ⟨z.1, z.2, rfl⟩
            let D' : Ends := {
              nx := fun σ' H' => ∃ e2 ι', out = .nx e2 ∧ Grow ι6 H8 ι' H' ∧ RelH W ι' H' s9 ∧ REnv W ι' H' e2 σ'
              ct := fun σ' H' => ∃ e2 ι', out = .ct e2 ∧ Grow ι6 H8 ι' H' ∧ RelH W ι' H' s9 ∧ REnv W ι' H' e2 σ'
              bk := fun σ' H' => ∃ e2 ι', out = .bk e2 ∧ Grow ι6 H8 ι' H' ∧ RelH W ι' H' s9 ∧ REnv W ι' H' e2 σ'
              rt := fun v H' => ∃ d ι', out = .rt d ∧ Grow ι6 H8 ι' H' ∧ RelH W ι' H' s9 ∧ Rep W ι' H' d v }
            have hok : OkS W ι6 H8 out s9 D' := by
              cases out with
              | nx e2 => exact fun σ' ι' H' g' r' n' => ⟨e2, ι', rfl, g', r', n'⟩
              | ct e2 => exact fun σ' ι' H' g' r' n' => ⟨e2, ι', rfl, g', r', n'⟩
              | bk e2 => exact fun σ' ι' H' g' r' n' => ⟨e2, ι', rfl, g', r', n'⟩
              | rt d => exact fun v ι' H' g' r' n' => ⟨d, ι', rfl, g', r', n'⟩
            refine wpAny_mono (hbody.run _ s8 σ8 H8 D' I8 ⟨ι6, C.sto i', e1, out, s9, r6, n8, hbm, hok⟩) (fun fl s10 h10 => ?_) fun e s h => (hp e s h).elim
            obtain ⟨hsp, k10⟩ := h10
            have gg : ∀ {ι' H'}, Grow ι6 H8 ι' H' → Grow ι H ι' H' := fun g' => (g3.trans g6).trans g'
            have drop : ∀ {σ' H' ι' e2}, Inv X ((s3.heap.objs.size, oL6) :: (ga, go) :: (ip ++ pins)) σ' H' s10 → Grow ι6 H8 ι' H' → RelH W ι' H' s9 → REnv W ι' H' e2 σ' → (out = .nx e2 ∨ out = .ct e2) → forGo always gc bm (ys.drop (i' + 1)) e2 s9 = some (o, st') →
                ∃ m', m' < ys.length + 1 - i' ∧ INV m' s10 := fun {σ' H' ι' e2} J g' r' n' ho hfo2 => by
              obtain ⟨ev1, sto1⟩ := hcst e1 hgc e2 s9 (ho.imp (fun z => by rw [z] at hbm; exact hbm) fun z => by rw [z] at hbm; exact hbm)
              have eg10 : s10.gens = (s6.setGen gi gs').gens := k10.trans k8
              refine ⟨ys.length + 1 - (i' + 1), by omega, i' + 1, gs', rfl, hiT, (J.pin (ga, go) (List.mem_append_right _ (List.mem_cons_of_mem _ List.mem_cons_self))).1, J.nolimit, by rw [eg10]; exact setGen_at hgl6, ?_, by rw [ev1, sto1]; exact hfo2⟩
              have hm2 : ys.length + 1 - (i' + 1) = m := by omega
              rw [hm2]
              have pin6 : ∀ p ∈ (s3.heap.objs.size, oL6) :: (ga, go) :: (ip ++ pins), s6.heap.get? p.1 = some p.2 := fun p hp => (I6.pin p (List.mem_append_right _ hp)).1
              have pin10 : ∀ p ∈ (s3.heap.objs.size, oL6) :: (ga, go) :: (ip ++ pins), s10.heap.get? p.1 = some p.2 := fun p hp => (J.pin p (List.mem_append_right _ hp)).1
              refine hkap (s10.setGen gi .running) ⟨σ', σg, ι', H', oL6, ip, hip, regen J rfl rfl (bare_set J.bare rfl), by rw [sto1]; exact r', by rw [ev1]; exact n', g6.trans g', g0.trans g', ?_, hlen6, ng6.grow g', ?_, trivial⟩
              · exact hloc6.keep (pin6 _ List.mem_cons_self) (pin10 _ List.mem_cons_self)
              · exact hIok.turn.keep (i' + 1) s6.heap s10.heap tn6 fun b hb ob ho => by
                  obtain ⟨o2, hm2⟩ := hip.1 b hb
                  have q1 := pin6 _ (List.mem_cons_of_mem _ (List.mem_cons_of_mem _ (List.mem_append_left _ hm2)))
                  rw [ho] at q1
                  cases q1
                  exact pin10 _ (List.mem_cons_of_mem _ (List.mem_cons_of_mem _ (List.mem_append_left _ hm2)))
            have unpin : ∀ {σ' H'}, Inv X ((s3.heap.objs.size, oL6) :: (ga, go) :: (ip ++ pins)) σ' H' s10 → Inv X pins σ' H' s10 := fun J => J.pins_of fun p hp => J.pin p (List.mem_append_right _ (List.mem_cons_of_mem _ (List.mem_cons_of_mem _ (List.mem_append_right _ hp))))
            rw [hbm] at hfo
            cases fl with
            | next =>
              obtain ⟨σ', H', J, e2, ι', rfl, g', r', n'⟩ := hsp
              exact drop J g' r' n' (.inl rfl) hfo
            | cont =>
              obtain ⟨σ', H', J, e2, ι', rfl, g', r', n'⟩ := hsp
              exact drop J g' r' n' (.inr rfl) hfo
            | brk =>
              obtain ⟨σ', H', J, e2, ι', rfl, g', r', n'⟩ := hsp
              cases hfo
              exact ⟨σ', H', unpin J, kq σ' ι' H' (gg g') r' n'⟩
            | ret uu =>
              obtain ⟨v', σ', H', J, rv', d, ι', rfl, g', r', p'⟩ := hsp
              cases hfo
              exact ⟨v', σ', H', unpin J, rv', kq v' ι' H' (gg g') r' p'⟩
          · cases hfo
        · intro hsz
          obtain ⟨hm1, σc, ι6, H6, I6, r6, n6, g6⟩ := hp6
          have hiT : i = ys.length := by omega
          subst hiT
          rw [List.drop_length] at hfo
          unfold forGo at hfo
          rw [if_pos (show always (C.sto ys.length) from trivial)] at hfo
          cases hfo
          have I7 : Inv X pins σc H6 { s6 with heap := h' } := I6.kept (t' := s6.toks) hk6
          refine wpAny_execs_nil ?_
          exact ⟨σc, H6, regen I7 rfl rfl (bare_set I6.bare rfl), kq σc ι6 H6 (g3.trans g6) r6 n6⟩
      · cases q
    · cases q
  · cases e
end
/-! ### a generator def, by its text -/
def forTg : Stmt → Expr
  | .For t _ _ _ _ => t
  | _ => .Constant .none 0 ⟨0, 0, 0, 0⟩
def forIt : Stmt → Expr
  | .For _ i _ _ _ => i
  | _ => .Constant .none 0 ⟨0, 0, 0, 0⟩
def forBd : Stmt → List Stmt
  | .For _ _ b _ _ => b
  | _ => []
def forPs : Stmt → Pos
  | .For _ _ _ _ p => p
  | _ => ⟨0, 0, 0, 0⟩
def yldE : Stmt → Expr
  | .Expr (.Yield (some e) _) _ => e
  | _ => .Constant .none 0 ⟨0, 0, 0, 0⟩
def yldP : Stmt → Pos
  | .Expr (.Yield _ p) _ => p
  | _ => ⟨0, 0, 0, 0⟩
def yldQ : Stmt → Pos
  | .Expr _ p => p
  | _ => ⟨0, 0, 0, 0⟩
def nthS (b : List Stmt) (n : Nat) : Stmt := b.getD n (.Pass ⟨0, 0, 0, 0⟩)
theorem jdGen {P : Program} {w : World} {W : Wd} {mg : Str → Option Value} {base : Heap} {k : Nat} {x qual : Str} {st : Stmt} {f : Addr} {fd : FuncData} {N ps : List Str} {preS bpS : List Stmt} {tg iter e : Expr} {yp epos fpos : Pos} {pre : SM} {im : IM} {g : GM} {bp : SM} {ye : EM} {vs : List Nat} {gf : List D → Option (List D)}
    (F : Fun W.K x qual st f fd) (S : GSc N ps (defScope st)) (hb : defBody st = gBody preS bpS tg iter e yp epos fpos) (hfs : ∀ cdv L v, foldedSetIterable iter (envOfC qual (defScope st) L f cdv) v = pure v)
    (hder : ∀ cdv A L out pn s H, Room k (A.deeper (envOfC qual (defScope st) L f cdv)) → PSs (gX P w W.K mg base N qual (defScope st) f cdv A L out pn s H) preS (TSt W pre) ∧ PI (gX P w W.K mg base N qual (defScope st) f cdv A L out pn s H) tg iter (TIm W im) ∧
      PG (gX P w W.K mg base N qual (defScope st) f cdv A L out pn s H) tg (TGm W g vs) ∧ PSs (gX P w W.K mg base N qual (defScope st) f cdv A L out pn s H) bpS (TSt W bp) ∧ PE (gX P w W.K mg base N qual (defScope st) f cdv A L out pn s H) e (T W ye))
    (hrun : ∀ ds ys, gf ds = some ys → ds.length = ps.length ∧ ∃ xs eg, GRun pre im g bp ye (enter N.length ds) ys xs eg) : GDef P w W mg base k f fd ps gf := by
  obtain ⟨oc, od, kV, doc, pm, an, cdv, ct, osl, e1, e2, e3⟩ := F.ex
  rw [hb] at e1
  exact ⟨_, _, _, preS, bpS, tg, iter, e, yp, epos, fpos, _, _, _, _, _, cdv, _, _, _, _, _, N, pre, im, g, bp, ye, vs, e1, e2, e3, S, hfs cdv, hder cdv, hrun⟩
section
variable {env : Env} {st : Store} {m : AM} {gf : List D → Option (List D)} {QI : List D → (Store → Prop) → Store → Prop}
theorem ev_gen : EvI (iGen gf m) env st QI ↔ EvA m env st fun ds s1 => ∃ ys, gf ds = some ys ∧ QI ys always s1 := by
  unfold EvI EvA iGen
  constructor
  · rintro ⟨ys, gd, s, e, q⟩
    split at e
    · rename_i ds s1 h1
      split at e
      · rename_i ys2 h2
        cases e
        exact ⟨_, _, h1, _, h2, q⟩
      · cases e
    · cases e
  · rintro ⟨ds, s1, h1, ys, h2, q⟩
    exact ⟨ys, _, s1, by rw [h1]; simp only [h2], q⟩
end
end My

namespace My
open PySem PySem.Spec PyProof.Rows L2
local macro_rules | `(tactic| walk_at "ev") => `(tactic| try simp only [ev_gen, ev_var, ev_c, ev_un, ev_op, ev_nil, ev_cons, ev_call, ev_callD, ev_callN, ev_callK, ev_opM, ev_lcM, ev_lz, ev_dcT, ev_lrg1, ev_lrg2, ev_trg1, ev_trg2, ev_zipM, ev_callO, ev_star, ev_newN, pick0, pick1, pick2, ev_ifW, ev_named, ev_tup, ev_lst, ev_lstM, ev_dkM, ev_dtM, ev_bE, ev_bAnd, ev_bOr, ev_bNot, ev_bYes, ev_eAnd, ev_eOr, ev_eNot, ev_if, ev_chain, ev_oNone, ev_oSome, ev_sl, ev_bm, ev_skip, ev_brk, ev_cnt, ev_seq, then_nx, then_rt, then_bk, then_ct, ev_set, ev_asg, ev_par, ev_par3, ev_ret, ev_drop, ev_sIf, ev_aug, ev_sub, ev_seqI, ev_fld, ev_fldM, ev_meth, ev_new, ev_newK, ev_enum, ev_zip, ev_range1, ev_range2, ev_for, ev_lc, enter, gNm, gsNil, gsCons, gTp, wipeE,
  List.map_cons, List.map_nil, List.length_cons, List.length_nil, List.replicate, List.cons_append, List.nil_append, List.append_nil, List.getElem?_cons_zero, List.getElem?_cons_succ, List.set_cons_zero, List.set_cons_succ, Option.some.injEq, exists_eq_left', exists_eq_left, D.bl.injEq, D.int.injEq, D.str.injEq, D.tup.injEq, D.lst.injEq, D.ref.injEq, decide_eq_true_eq, List.cons.injEq, and_true, true_and, if_true, if_false, reduceCtorEq, Bool.false_eq_true, ite_true, ite_false, Nat.sub_self, Nat.reduceAdd, Nat.reduceSub, Nat.zero_add, exists_and_left, exists_const, Bool.not_true, Bool.not_false, Bool.not_eq_true', exists_eq_right, and_assoc, List.length_set, exists_eq_right',
  add_int, addI_int, sub_int, neg_int, lt_int, le_int, gt_int, ge_int, eq_int, ne_int, eq_str, ne_str, eq_bl, ne_bl, eq_is, eq_si, ne_is, ne_si, is_nn, ix_tup, ix_lst, ix_scr, at_0, at_1, at_2, at_3, len_tup, len_lst, len_scr, outF, outK, ev_len_tup, ev_len_lst, ev_len_scr, ev_abs, ev_int, ev_intb, ev_max2, ev_min2, ev_tuple_lst, ev_tuple_tup, ev_list_lst, ev_list_tup, sz0, sz1, sz2, sz3, sz4, sz5, sz6, sz7, sz8, sz9, sz10, sz11, sz12, s_rl, s_lr, atI_last, decide_false, decide_true, Bool.or_false, Bool.false_or])
local macro_rules | `(tactic| walk_at "st") => `(tactic| try simp only [List.append_assoc, List.cons_append, List.nil_append, List.length_append, List.length_cons, List.length_nil, Nat.reduceAdd, Nat.add_assoc])
/- walk: 0:rules, 1:kept, 2:history, 3:fill, 4:number, 5:files, 6:event -/
noncomputable def gb_walk_pre : SM :=
(sAsg (eTup (aCons (eC (.int 0)) (aCons (eC (.int 0)) (aCons (eTup (aCons (eTup aNil) aNil)) aNil)))) (gTp 3 (gsCons (gNm 3) (gsCons (gNm 4) (gsCons (gNm 5) gsNil)))))
noncomputable def gb_walk_it : IM :=
(iSeq (eVar 2))
noncomputable def gb_walk_g : GM :=
(gNm 6)
noncomputable def gb_walk_bp : SM :=
(sSeq (sIf (bE (eCallD 3 mf_is_rotated [] (aCons (eVar 0) (aCons (eVar 3) (aCons (eVar 6) aNil)))))
(sSet 5 (eSl (eTup (aStar (eVar 5) (aCons (eTup aNil) aNil))) (oSome (eOp dSub (eUn dNeg (eC (.int 1))) (eVar 1))) oNone))
sSkip)
(sSeq (sSet 3 (eCallD 3 mf_fill_behind [] (aCons (eVar 0) (aCons (eVar 3) (aCons (eVar 6) aNil)))))
(sIf (bE (eCall fIsi (aCons (eVar 6) (aCons (eC (.ty "int")) aNil))))
(sSeq (sSet 5 (eTup (aStar (eSl (eVar 5) oNone (oSome (eUn dNeg (eC (.int 1))))) (aCons (eTup (aStar (eOp dIx (eVar 5) (eUn dNeg (eC (.int 1)))) (aCons (eVar 4) aNil))) aNil))))
(sAug 4 dAddI (eC (.int 1))))
sSkip)))
noncomputable def gb_walk_ye : EM :=
(eTup (aCons (eVar 6) (aCons (eVar 5) aNil)))

def evOf : D → Option Ev
  | .int i => some (.line i)
  | .str x => if x = "look" then some .look else if x = "rotate" then some .rot else none
  | _ => none
def evsOf : List D → Option (List Ev)
  | [] => some []
  | d :: ds => match evOf d, evsOf ds with
    | some e, some es => some (e :: es)
    | _, _ => none
/-- the files of a log as trees -/
def filesD (fs : List (List Int)) : D := .tup (fs.map fun f => .tup (f.map .int))
def RS.files (r : RS) : List (List Int) := r.old.map Prod.fst ++ [r.cur]
def walkY (S : Int) (M : Nat) (es : List Ev) : List D := (List.range es.length).map fun j => .tup [(es.getD j .look).D, filesD (RS.run S M (es.take (j + 1))).files]
def gf_walk : List D → Option (List D)
  | [.tup [.int S, .tup _], .int M, .tup evs] => if 0 ≤ M ∧ evs.length ≤ 5000 then (evsOf evs).map (walkY S M.toNat) else none
  | _ => none
theorem evOf_D (e : Ev) : evOf e.D = some e := by
  cases e with
  | line l => rfl
  | look => rfl
  | rot => rfl
theorem evsOf_D : ∀ es : List Ev, evsOf (es.map Ev.D) = some es
  | [] => rfl
  | e :: es => by
    simp only [List.map_cons, evsOf, evOf_D, evsOf_D es]
theorem evOf_ok {d : D} {e : Ev} (h : evOf d = some e) : d = e.D := by
  cases d with
  | int i => cases h; rfl
  | str x =>
    simp only [evOf] at h
    split at h
    · rename_i hx
      cases h
      rw [hx]
      rfl
    · split at h
      · rename_i hx
        cases h
        rw [hx]
        rfl
      · cases h
  | _ => cases h
theorem evsOf_ok : ∀ {ds : List D} {es : List Ev}, evsOf ds = some es → ds = es.map Ev.D
  | [], es, h => by cases h; rfl
  | d :: ds, es, h => by
    simp only [evsOf] at h
    split at h
    · rename_i e es2 h1 h2
      cases h
      rw [evOf_ok h1, evsOf_ok h2]
      rfl
    · cases h
theorem evS_eq {m : SM} {env : Env} {st : Store} {o : Out} (h : EvS m env st fun o' s => o' = o ∧ s = st) : m env st = some (o, st) := by
  obtain ⟨o', s, e, rfl, rfl⟩ := h
  exact e
theorem cut_lastW {xs : List D} {K : Nat} : cutD xs (some (-1 - (K : Int))) none = xs.drop (xs.length - (K + 1)) := by
  have e : HT.sIx xs.length 0 (some (-1 - (K : Int))) = xs.length - (K + 1) := by
    show (if (-1 - (K : Int)) < 0 then ((-1 - (K : Int)) + (xs.length : Int)).toNat else _) = _
    rw [if_pos (by omega)]
    omega
  unfold cutD
  rw [e]
  show (xs.drop _).take (xs.length - (xs.length - (K + 1))) = _
  rw [List.take_of_length_le (by rw [List.length_drop]; exact Nat.le_refl _)]
theorem cut_initW {xs : List D} {y : D} : cutD (xs ++ [y]) none (some (-1)) = xs := by
  unfold cutD
  show ((xs ++ [y]).drop 0).take ((if (-1 : Int) < 0 then (-1 + ((xs ++ [y]).length : Int)).toNat else min (-1 : Int).toNat (xs ++ [y]).length) - 0) = _
  rw [if_pos (by decide), List.drop_zero, List.length_append, List.length_singleton]
  have e : (-1 + ((xs.length + 1 : Nat) : Int)).toNat - 0 = xs.length := by omega
  rw [e]
  simp
/-- behind a rotation, the oldest file may go -/
def RS.next (S : Int) (M : Nat) (r : RS) (e : Ev) : RS := if rotd S r.fill e = true then RS.trim M r.turn else r
theorem RS.step_eq (S : Int) (M : Nat) (r : RS) (e : Ev) : RS.step S M r e = match e with
    | .look => { r with here := r.here + 1 }
    | .rot => RS.next S M r e
    | .line l => RS.add l (RS.next S M r e) := by
  cases e with
  | look => rfl
  | rot => rfl
  | line l =>
    show RS.add l (if S < r.fill + l then _ else _) = RS.add l (if decide (S < r.fill + l) = true then _ else _)
    by_cases h : S < r.fill + l
    · rw [if_pos h, if_pos (decide_eq_true h)]
    · rw [if_neg h, if_neg (by simp [h])]
theorem RS.trim_files {M : Nat} {r : RS} (h : r.old.length ≤ M) : (RS.trim M r.turn).files = (r.files ++ [[]]).drop ((r.files ++ [[]]).length - (M + 1)) ∧ (RS.trim M r.turn).places = r.places ∧ (RS.trim M r.turn).fill = 0 := by
  unfold RS.trim RS.turn RS.files
  dsimp only
  by_cases hm : M < (r.old ++ [(r.cur, r.beg)]).length
  · rw [if_pos hm]
    have e : r.old.length = M := by
      rw [List.length_append, List.length_singleton] at hm
      omega
    cases ho : r.old with
    | nil =>
      rw [ho] at e
      have hM : M = 0 := e.symm
      subst hM
      simp [RS.drop]
    | cons f o =>
      rw [ho] at e
      have e2 : (((f :: o).map Prod.fst ++ [r.cur]) ++ [[]]).length - (M + 1) = 1 := by simp at e ⊢; omega
      refine ⟨?_, rfl, rfl⟩
      rw [e2]
      simp [RS.drop]
  · rw [if_neg hm]
    rw [List.length_append, List.length_singleton] at hm
    have e2 : ((r.old.map Prod.fst ++ [r.cur]) ++ [[]]).length - (M + 1) = 0 := by simp; omega
    rw [e2]
    exact ⟨by simp, rfl, rfl⟩
theorem RS.next_files {S : Int} {M : Nat} {r : RS} {e : Ev} (h : r.old.length ≤ M) : (RS.next S M r e).files = (if rotd S r.fill e = true then (r.files ++ [[]]).drop ((r.files ++ [[]]).length - (M + 1)) else r.files) ∧ (RS.next S M r e).places = r.places ∧ (RS.next S M r e).fill = if rotd S r.fill e = true then 0 else r.fill := by
  unfold RS.next
  by_cases hc : rotd S r.fill e = true
  · rw [if_pos hc, if_pos hc, if_pos hc]
    exact RS.trim_files h
  · rw [if_neg hc, if_neg hc, if_neg hc]
    exact ⟨rfl, rfl, rfl⟩
theorem RS.step_fill (S : Int) (M : Nat) {r : RS} (e : Ev) (h : r.old.length ≤ M) : (RS.step S M r e).fill = fillB S r.fill e := by
  rw [RS.step_eq]
  have hn := RS.next_files (S := S) (e := e) h
  cases e with
  | look => show r.fill = (if rotd S r.fill .look = true then 0 else r.fill) + 0; rw [if_neg (fun z => by cases z)]; omega
  | rot => rw [hn.2.2]; show _ = _ + (0 : Int); omega
  | line l => show (RS.next S M r (.line l)).fill + l = _ + l; rw [hn.2.2]
theorem RS.step_files (S : Int) (M : Nat) {r : RS} (e : Ev) (h : r.old.length ≤ M) : (RS.step S M r e).files = match e with
    | .line l => (RS.next S M r e).old.map Prod.fst ++ [(RS.next S M r e).cur ++ [(r.places.length : Int)]]
    | _ => (RS.next S M r e).files := by
  rw [RS.step_eq]
  cases e with
  | look => show r.files = (RS.next S M r .look).files; unfold RS.next; rw [if_neg (fun z => by cases z)]
  | rot => rfl
  | line l =>
    have hn := RS.next_files (S := S) (e := .line l) h
    show (RS.next S M r (.line l)).old.map Prod.fst ++ [(RS.next S M r (.line l)).cur ++ [(((RS.next S M r (.line l)).places).length : Int)]] = _
    rw [hn.2.1]
def lineN : Ev → Int
  | .line _ => 1
  | _ => 0
theorem RS.step_places (S : Int) (M : Nat) {r : RS} (e : Ev) (h : r.old.length ≤ M) : ((RS.step S M r e).places.length : Int) = r.places.length + lineN e := by
  rw [RS.step_eq]
  have hn := RS.next_files (S := S) (e := e) h
  cases e with
  | look => show (r.places.length : Int) = r.places.length + 0; omega
  | rot => rw [hn.2.1]; show (r.places.length : Int) = r.places.length + 0; omega
  | line l =>
    show ((((RS.next S M r (.line l)).places ++ [_]).length : Nat) : Int) = r.places.length + 1
    rw [List.length_append, hn.2.1]
    simp
theorem filesD_len {fs : List (List Int)} : (fs.map fun f => D.tup (f.map D.int)).length = fs.length := List.length_map _
def evAt (es : List Ev) : Nat → Option D
  | 0 => none
  | k + 1 => some (es.getD k .look).D
/-- the generator's names ahead of turn j -/
def egW (S : Int) (l : D) (M : Nat) (es : List Ev) (j : Nat) : Env :=
  [some (.tup [.int S, l]), some (.int M), some (.tup (es.map Ev.D)), some (.int (RS.run S M (es.take j)).fill), some (.int (RS.run S M (es.take j)).places.length), some (filesD (RS.run S M (es.take j)).files), evAt es j]
theorem bp_ok {S : Int} {l : List D} {M : Nat} {h : D} {r : RS} {e : Ev} {st : Store} (h0 : r.old.length ≤ M) (h1 : r.old.length ≤ 5000) (h2 : r.cur.length ≤ 5000) :
    EvS gb_walk_bp [some (.tup [.int S, .tup l]), some (.int M), some h, some (.int r.fill), some (.int r.places.length), some (filesD r.files), some e.D] st fun o s =>
      o = .nx [some (.tup [.int S, .tup l]), some (.int M), some h, some (.int (RS.step S M r e).fill), some (.int (RS.step S M r e).places.length), some (filesD (RS.step S M r e).files), some e.D] ∧ s = st := by
  have sz : ∀ n : Nat, n ≤ 10000 → n ≤ sizeLine := fun n h => Nat.le_trans h (by decide)
  have hn := RS.next_files (S := S) (e := e) h0
  have hf := RS.step_files S M e h0
  rw [RS.step_places S M e h0, RS.step_fill S M e h0]
  have hlen : r.files.length = r.old.length + 1 := by unfold RS.files; simp
  have rest : ∀ fs : List (List Int), fs = (RS.next S M r e).files → EvS (sSeq (sSet 3 (eCallD 3 mf_fill_behind [] (aCons (eVar 0) (aCons (eVar 3) (aCons (eVar 6) aNil))))) (sIf (bE (eCall fIsi (aCons (eVar 6) (aCons (eC (.ty "int")) aNil)))) (sSeq (sSet 5 (eTup (aStar (eSl (eVar 5) oNone (oSome (eUn dNeg (eC (.int 1))))) (aCons (eTup (aStar (eOp dIx (eVar 5) (eUn dNeg (eC (.int 1)))) (aCons (eVar 4) aNil))) aNil)))) (sAug 4 dAddI (eC (.int 1)))) sSkip)) [some (.tup [.int S, .tup l]), some (.int M), some h, some (.int r.fill), some (.int r.places.length), some (filesD fs), some e.D] st fun o s =>
      o = .nx [some (.tup [.int S, .tup l]), some (.int M), some h, some (.int (fillB S r.fill e)), some (.int (r.places.length + lineN e)), some (filesD (RS.step S M r e).files), some e.D] ∧ s = st := by
    rintro fs rfl
    walk_at "ev"
    refine ev_fill_behind ?_
    walk_at "ev"
    cases e with
    | look =>
      simp only [Ev.D]
      rw [ev_isi_str]
      walk_at "ev"
      rw [hf]
      show _ = Out.nx [_, _, _, _, some (D.int (r.places.length + 0)), _, _]
      rw [Int.add_zero]
    | rot =>
      simp only [Ev.D]
      rw [ev_isi_str]
      walk_at "ev"
      rw [hf]
      show _ = Out.nx [_, _, _, _, some (D.int (r.places.length + 0)), _, _]
      rw [Int.add_zero]
    | line v =>
      simp only [Ev.D]
      rw [ev_isi_int]
      walk_at "ev"
      rw [hf]
      have hfl : (RS.next S M r (.line v)).files.length ≤ 5002 := by
        rw [hn.1]
        split
        · rw [List.length_drop, List.length_append, hlen, List.length_singleton]; omega
        · omega
      have hcl : (RS.next S M r (.line v)).cur.length ≤ 5000 := by
        unfold RS.next
        split
        · have : (RS.trim M r.turn).cur = [] := by
            unfold RS.trim
            split
            · split
              · rfl
              · rfl
            · rfl
          rw [this]
          exact Nat.zero_le _
        · exact h2
      have hol : (RS.next S M r (.line v)).old.length ≤ 5001 := by
        unfold RS.files at hfl
        simp at hfl
        omega
      have hfe : (RS.next S M r (.line v)).files = (RS.next S M r (.line v)).old.map Prod.fst ++ [(RS.next S M r (.line v)).cur] := rfl
      rw [hfe]
      generalize (RS.next S M r (.line v)).old = ol at hol ⊢
      generalize (RS.next S M r (.line v)).cur = cu at hcl ⊢
      have e1 : filesD (ol.map Prod.fst ++ [cu]) = .tup ((ol.map Prod.fst).map (fun f : List Int => D.tup (f.map D.int)) ++ [.tup (cu.map D.int)]) := by unfold filesD; rw [List.map_append]; rfl
      rw [e1]
      refine ⟨.tup ((ol.map Prod.fst).map (fun f : List Int => D.tup (f.map D.int))), ?_, _, rfl, _, atI_last _ _, _, rfl, sz _ (by rw [List.length_append, List.length_map, List.length_singleton]; omega), sz _ (by rw [List.length_append, List.length_map, List.length_map, List.length_singleton]; omega), ?_⟩
      · show some (D.tup (cutD _ none (some (-1)))) = _
        rw [cut_initW]
      · show _ = Out.nx [_, _, _, _, some (D.int (r.places.length + 1)), _, _]
        congr 6
        unfold filesD
        rw [List.map_append, List.map_cons, List.map_append]
        rfl
  unfold gb_walk_bp
  generalize hR : (sSeq (sSet 3 (eCallD 3 mf_fill_behind [] (aCons (eVar 0) (aCons (eVar 3) (aCons (eVar 6) aNil))))) (sIf (bE (eCall fIsi (aCons (eVar 6) (aCons (eC (.ty "int")) aNil)))) (sSeq (sSet 5 (eTup (aStar (eSl (eVar 5) oNone (oSome (eUn dNeg (eC (.int 1))))) (aCons (eTup (aStar (eOp dIx (eVar 5) (eUn dNeg (eC (.int 1)))) (aCons (eVar 4) aNil))) aNil)))) (sAug 4 dAddI (eC (.int 1)))) sSkip)) = R0 at rest ⊢
  walk_at "ev"
  refine ev_is_rotated ⟨_, rfl, ?_⟩
  by_cases hc : rotd S r.fill e = true
  · rw [if_pos hc]
    have e1 : cutD (r.files.map (fun f : List Int => D.tup (f.map D.int)) ++ [D.tup []]) (some (-1 - (M : Int))) none = ((RS.next S M r e).files).map (fun f : List Int => D.tup (f.map D.int)) := by
      rw [cut_lastW, hn.1, if_pos hc, List.map_drop, List.map_append, List.length_append, List.length_append, List.length_map]
      rfl
    refine ⟨_, rfl, sz _ (by rw [List.length_append, List.length_map, hlen]; simp; omega), .tup ((RS.next S M r e).files.map (fun f : List Int => D.tup (f.map D.int))), ?_, rest _ rfl⟩
    show some (D.tup (cutD _ _ none)) = _
    rw [e1]
  · rw [if_neg hc]
    exact rest _ (by rw [hn.1, if_neg hc])
theorem gr_walk : ∀ ds ys, gf_walk ds = some ys → ds.length = 3 ∧ ∃ xs eg, GRun gb_walk_pre gb_walk_it gb_walk_g gb_walk_bp gb_walk_ye (enter 7 ds) ys xs eg := by
  intro ds ys h
  unfold gf_walk at h
  split at h
  · rename_i S l M0 evs
    split at h
    · rename_i hc
      obtain ⟨hM, hl⟩ := hc
      obtain ⟨M, rfl⟩ := Int.eq_ofNat_of_zero_le hM
      rw [Option.map_eq_some_iff] at h
      obtain ⟨es, h1, rfl⟩ := h
      have h2 := evsOf_ok h1
      subst h2
      rw [List.length_map] at hl
      have hMN : (Int.ofNat M).toNat = M := rfl
      refine ⟨rfl, es.map Ev.D, egW S (.tup l) M es, ?_, fun st => ?_, fun st => ?_, fun j d hd => ?_⟩
      · unfold walkY
        rw [List.length_map, List.length_map, List.length_range]
      · refine evS_eq ?_
        unfold gb_walk_pre enter
        walk_at "ev"
        rfl
      · rfl
      · have hd2 := List.getElem?_eq_some_iff.mp hd
        obtain ⟨hj, e1⟩ := hd2
        rw [List.length_map] at hj
        rw [List.getElem_map] at e1
        have hok := (RS.Ok.run S M (es.take j)).o1
        have htk : es.take (j + 1) = es.take j ++ [es[j]] := by rw [List.take_add_one, List.getElem?_eq_getElem hj]; rfl
        have hstep : RS.run S M (es.take (j + 1)) = RS.step S M (RS.run S M (es.take j)) es[j] := by rw [htk, RS.run_snoc]
        have hgd : es.getD j .look = es[j] := by rw [List.getD_eq_getElem?_getD, List.getElem?_eq_getElem hj]; rfl
        have h1 := RS.step_fill S M es[j] hok
        have h2 := RS.step_files S M es[j] hok
        have h3 := RS.step_places S M es[j] hok
        have hn := RS.next_files (S := S) (e := es[j]) hok
        refine ⟨(egW S (.tup l) M es j).set 6 (some d), .tup [es[j].D, filesD (RS.run S M (es.take (j + 1))).files], rfl, fun st => ?_, fun st => ?_, ?_⟩
        · refine evS_eq ?_
          unfold egW
          rw [show evAt es (j + 1) = some (es.getD j .look).D from rfl, hgd, hstep]
          subst e1
          exact bp_ok hok (by have := (RS.Ok.run S M (es.take j)).o2; rw [List.length_take] at this; omega) (by have := (RS.Ok.run S M (es.take j)).tot; have h3 := (RS.Ok.run S M (es.take j)).pl; rw [List.length_take] at h3; omega)
        · unfold gb_walk_ye egW
          rw [show evAt es (j + 1) = some (es.getD j .look).D from rfl, hgd]
          rfl
        · unfold walkY
          rw [List.getElem?_map, List.getElem?_range hj]
          show some (D.tup [(es.getD j .look).D, _]) = _
          rw [hgd]
          rfl
    · cases h
  · cases h
end My

namespace My
open PySem PySem.Spec PyProof.Rows L2
local macro_rules | `(tactic| walk_at "ev") => `(tactic| try simp only [ev_gen, ev_var, ev_c, ev_un, ev_op, ev_nil, ev_cons, ev_call, ev_callD, ev_callN, ev_callK, ev_opM, ev_lcM, ev_lz, ev_dcT, ev_lrg1, ev_lrg2, ev_trg1, ev_trg2, ev_zipM, ev_callO, ev_star, ev_newN, pick0, pick1, pick2, ev_ifW, ev_named, ev_tup, ev_lst, ev_lstM, ev_dkM, ev_dtM, ev_bE, ev_bAnd, ev_bOr, ev_bNot, ev_bYes, ev_eAnd, ev_eOr, ev_eNot, ev_if, ev_chain, ev_oNone, ev_oSome, ev_sl, ev_bm, ev_skip, ev_brk, ev_cnt, ev_seq, then_nx, then_rt, then_bk, then_ct, ev_set, ev_asg, ev_par, ev_par3, ev_ret, ev_drop, ev_sIf, ev_aug, ev_sub, ev_seqI, ev_fld, ev_fldM, ev_meth, ev_new, ev_newK, ev_enum, ev_zip, ev_range1, ev_range2, ev_for, ev_lc, enter, gNm, gsNil, gsCons, gTp, wipeE,
  List.map_cons, List.map_nil, List.length_cons, List.length_nil, List.replicate, List.cons_append, List.nil_append, List.append_nil, List.getElem?_cons_zero, List.getElem?_cons_succ, List.set_cons_zero, List.set_cons_succ, Option.some.injEq, exists_eq_left', exists_eq_left, D.bl.injEq, D.int.injEq, D.str.injEq, D.tup.injEq, D.lst.injEq, D.ref.injEq, decide_eq_true_eq, List.cons.injEq, and_true, true_and, if_true, if_false, reduceCtorEq, Bool.false_eq_true, ite_true, ite_false, Nat.sub_self, Nat.reduceAdd, Nat.reduceSub, Nat.zero_add, exists_and_left, exists_const, Bool.not_true, Bool.not_false, Bool.not_eq_true', exists_eq_right, and_assoc, List.length_set, exists_eq_right',
  add_int, addI_int, sub_int, neg_int, lt_int, le_int, gt_int, ge_int, eq_int, ne_int, eq_str, ne_str, eq_bl, ne_bl, eq_is, eq_si, ne_is, ne_si, is_nn, ix_tup, ix_lst, ix_scr, at_0, at_1, at_2, at_3, len_tup, len_lst, len_scr, outF, outK, ev_len_tup, ev_len_lst, ev_len_scr, ev_abs, ev_int, ev_intb, ev_max2, ev_min2, ev_tuple_lst, ev_tuple_tup, ev_list_lst, ev_list_tup, sz0, sz1, sz2, sz3, sz4, sz5, sz6, sz7, sz8, sz9, sz10, sz11, sz12, s_rl, s_lr, atI_last, decide_false, decide_true, Bool.or_false, Bool.false_or])
local macro_rules | `(tactic| walk_at "st") => `(tactic| try simp only [List.append_assoc, List.cons_append, List.nil_append, List.length_append, List.length_cons, List.length_nil, Nat.reduceAdd, Nat.add_assoc])
/- files_of: 0:rules, 1:kept, 2:history, 3:files, 4:event, 5:behind -/
noncomputable def mb_files_of : SM :=
(sSeq (sSet 3 (eTup (aCons (eTup aNil) aNil)))
(sSeq (sFor (iGen gf_walk (aCons (eVar 0) (aCons (eVar 1) (aCons (eVar 2) aNil)))) (gTp 2 (gsCons (gNm 4) (gsCons (gNm 5) gsNil)))
(sSet 3 (eVar 5)))
(sRet (eVar 3))))
noncomputable def mf_files_of : FM := mkF 6 mb_files_of

/- rotations: 0:rules, 1:history, 2:fill, 3:count, 4:event -/
noncomputable def mb_rotations : SM :=
(sSeq (sAsg (eTup (aCons (eC (.int 0)) (aCons (eC (.int 0)) aNil))) (gTp 2 (gsCons (gNm 2) (gsCons (gNm 3) gsNil))))
(sSeq (sFor (iSeq (eVar 1)) (gNm 4)
(sSeq (sAug 3 dAddI (eCall fInt (aCons (eCallD 3 mf_is_rotated [] (aCons (eVar 0) (aCons (eVar 2) (aCons (eVar 4) aNil)))) aNil)))
(sSet 2 (eCallD 3 mf_fill_behind [] (aCons (eVar 0) (aCons (eVar 2) (aCons (eVar 4) aNil)))))))
(sRet (eVar 3))))
noncomputable def mf_rotations : FM := mkF 5 mb_rotations

theorem gf_walk_at {S : Int} {l : List D} {M : Nat} {es : List Ev} (hl : es.length ≤ 5000) : gf_walk [.tup [.int S, .tup l], .int M, .tup (es.map Ev.D)] = some (walkY S M es) := by
  unfold gf_walk
  dsimp only
  rw [if_pos ⟨by omega, by rw [List.length_map]; exact hl⟩, evsOf_D]
  rfl
theorem walkY_len {S : Int} {M : Nat} {es : List Ev} : (walkY S M es).length = es.length := by
  unfold walkY
  rw [List.length_map, List.length_range]
theorem walkY_at {S : Int} {M : Nat} {es : List Ev} {i : Nat} (hi : i < es.length) {h2 : i < (walkY S M es).length} : (walkY S M es)[i] = .tup [es[i].D, filesD (RS.run S M (es.take (i + 1))).files] := by
  have e : (walkY S M es)[i]? = some (.tup [es[i].D, filesD (RS.run S M (es.take (i + 1))).files]) := by
    unfold walkY
    rw [List.getElem?_map, List.getElem?_range hi]
    show some (D.tup [(es.getD i .look).D, _]) = _
    rw [List.getD_eq_getElem?_getD, List.getElem?_eq_getElem hi]
    rfl
  rw [List.getElem?_eq_getElem h2] at e
  exact Option.some.inj e
theorem files_blw {fs : List (List Int)} : (filesD fs).blw 0 = true := blw_tup (blws_map (fun f => blw_tup blws_ints) fs)
def FilI (b h : D) (S : Int) (M : Nat) (es : List Ev) (st : Store) (i : Nat) (env : Env) (s : Store) : Prop := ∃ x4 x5, env = [some b, some (.int M), some h, some (filesD (RS.run S M (es.take i)).files), x4, x5] ∧ s = st
theorem ev_files_of {st : Store} {S : Int} {l : List D} {M : Nat} {es : List Ev} {Q : D → Store → Prop} (hl : es.length ≤ 5000) (k : Q (filesD (RS.run S M es).files) st) : EvF mf_files_of [.tup [.int S, .tup l], .int M, .tup (es.map Ev.D)] st Q := by
  rw [mf_files_of, ev_mkF]
  unfold mb_files_of
  generalize hA : (sRet (eVar 3)) = A
  walk_at "ev"
  refine ⟨_, gf_walk_at hl, ?_⟩
  generalize hQ : thenS A _ = QR
  refine for_inv (FilI (.tup [.int S, .tup l]) (.tup (es.map Ev.D)) S M es st) ⟨none, none, rfl, rfl⟩ (fun _ _ _ _ _ => trivial) ?_ ?_
  · rintro i hi env s ⟨x4, x5, rfl, rfl⟩
    rw [walkY_len] at hi
    refine ⟨_, by rw [walkY_at hi]; rfl, ?_⟩
    walk_at "ev"
    exact ⟨_, _, rfl, rfl⟩
  · rintro env s ⟨x4, x5, rfl, rfl⟩
    rw [walkY_len, List.take_length, ← hQ, ← hA]
    walk_at "ev"
    exact fin_tree files_blw (closeOk_refl _) (by rw [List.take_length]; exact k)
def RotI (b h : D) (S : Int) (es : List Ev) (st : Store) (i : Nat) (env : Env) (s : Store) : Prop := ∃ x4, env = [some b, some h, some (.int (rots S (es.take i)).1), some (.int (rots S (es.take i)).2), x4] ∧ s = st
theorem ev_rotations {st : Store} {S : Int} {l : D} {es : List Ev} {Q : D → Store → Prop} (k : Q (.int (rots S es).2) st) : EvF mf_rotations [.tup [.int S, l], .tup (es.map Ev.D)] st Q := by
  rw [mf_rotations, ev_mkF]
  unfold mb_rotations
  generalize hA : (sRet (eVar 3)) = A
  walk_at "ev"
  generalize hQ : thenS A _ = QR
  refine for_inv (RotI (.tup [.int S, l]) (.tup (es.map Ev.D)) S es st) ⟨none, rfl, rfl⟩ (fun _ _ _ _ _ => trivial) ?_ ?_
  · rintro i hi env s ⟨x4, rfl, rfl⟩
    rw [List.length_map] at hi
    refine ⟨_, rfl, ?_⟩
    rw [List.getElem_map]
    have htk : es.take (i + 1) = es.take i ++ [es[i]] := by rw [List.take_add_one, List.getElem?_eq_getElem hi]; rfl
    walk_at "ev"
    refine ev_is_rotated ?_
    walk_at "ev"
    refine ev_fill_behind ⟨some es[i].D, ?_, rfl⟩
    rw [htk, rots_snoc]
    rfl
  · rintro env s ⟨x4, rfl, rfl⟩
    rw [List.length_map, List.take_length, ← hQ, ← hA]
    walk_at "ev"
    exact fin_tree blw_int (closeOk_refl _) (by rw [List.take_length]; exact k)
end My

namespace My
open PySem L2
/-! ### all files of a history, none deleted -/
def linesE : List Ev → List Int
  | [] => []
  | .line l :: es => l :: linesE es
  | _ :: es => linesE es
theorem linesE_snoc : ∀ (es : List Ev) (e : Ev), linesE (es ++ [e]) = linesE es ++ match e with | .line l => [l] | _ => []
  | [], e => by cases e <;> rfl
  | .line l :: es, e => by
    show l :: linesE (es ++ [e]) = _
    rw [linesE_snoc es e]
    rfl
  | .look :: es, e => linesE_snoc es e
  | .rot :: es, e => linesE_snoc es e
theorem linesE_len : ∀ es : List Ev, (linesE es).length ≤ es.length
  | [] => Nat.le_refl _
  | .line l :: es => Nat.succ_le_succ (linesE_len es)
  | .look :: es => Nat.le_succ_of_le (linesE_len es)
  | .rot :: es => Nat.le_succ_of_le (linesE_len es)
theorem linesE_mem {ls : List Int} : ∀ {es : List Ev}, (∀ e ∈ es, Ev.ok ls e) → ∀ l ∈ linesE es, l ∈ ls
  | [], _, l, h => absurd h (by simp [linesE])
  | .line v :: es, ho, l, h => by
    rcases List.mem_cons.mp (show l ∈ v :: linesE es from h) with rfl | h
    · exact ho (.line l) List.mem_cons_self
    · exact linesE_mem (fun e m => ho e (List.mem_cons_of_mem _ m)) l h
  | .look :: es, ho, l, h => linesE_mem (es := es) (fun e m => ho e (List.mem_cons_of_mem _ m)) l h
  | .rot :: es, ho, l, h => linesE_mem (es := es) (fun e m => ho e (List.mem_cons_of_mem _ m)) l h
def sumAt (L : List Int) (f : List Int) : Int := (f.map fun i => L.getD i.toNat 0).sum
theorem sumAt_snoc {L f : List Int} {v : Int} (h : ∀ i ∈ f, 0 ≤ i ∧ i < (L.length : Int)) : sumAt (L ++ [v]) f = sumAt L f := by
  unfold sumAt
  congr 1
  refine List.map_congr_left fun i hi => ?_
  have := h i hi
  rw [List.getD_eq_getElem?_getD, List.getD_eq_getElem?_getD, List.getElem?_append_left (by omega)]
theorem sumAt_put {L f : List Int} {v : Int} : sumAt (L ++ [v]) (f ++ [(L.length : Int)]) = sumAt (L ++ [v]) f + v := by
  unfold sumAt
  rw [List.map_append, List.sum_append]
  simp
structure Whole (S : Int) (es : List Ev) (r : RS) : Prop where
  n : (r.old.length : Int) = (rots S es).2
  fill : r.fill = (rots S es).1
  pl : r.places.length = (linesE es).length
  fl : r.files.flatten = (List.range (linesE es).length).map fun i => ((i : Nat) : Int)
  os : ∀ f ∈ r.old, sumAt (linesE es) f.1 ≤ S
  cs : sumAt (linesE es) r.cur = r.fill
  fS : r.fill ≤ S
theorem whole_of {S : Int} {M : Nat} {ls : List Int} (hls : ∀ l ∈ ls, l ≤ S) (hS : 0 ≤ S) {es : List Ev} (ho : ∀ e ∈ es, Ev.ok ls e) (hM : es.length ≤ M) : Whole S es (RS.run S M es) := by
  have main : ∀ i, i ≤ es.length → Whole S (es.take i) (RS.run S M (es.take i)) := by
    intro i
    induction i with
    | zero => exact fun _ => ⟨rfl, rfl, rfl, rfl, fun f h => absurd h (by simp [RS.run, RS.init]), rfl, hS⟩
    | succ i ih =>
      intro hi
      have hj : i < es.length := by omega
      have w := ih (by omega)
      have hok := RS.Ok.run S M (es.take i)
      have htk : es.take (i + 1) = es.take i ++ [es[i]] := by rw [List.take_add_one, List.getElem?_eq_getElem hj]; rfl
      have hoe : Ev.ok ls es[i] := ho _ (List.getElem_mem hj)
      have hlen : (es.take i).length = i := by rw [List.length_take]; omega
      rw [htk, RS.run_snoc]
      generalize es.take i = fs at *
      generalize RS.run S M fs = r at *
      generalize es[i] = e at *
      have hold : r.old.length < M := by have := hok.o2; omega
      have hturn : RS.trim M r.turn = r.turn := by
        unfold RS.trim
        rw [if_neg]
        show ¬ M < (r.old ++ [(r.cur, r.beg)]).length
        rw [List.length_append, List.length_singleton]
        omega
      have hci : ∀ n ∈ r.cur, 0 ≤ n ∧ n < ((linesE fs).length : Int) := fun n hn => by rw [← w.pl]; exact hok.cs n hn
      have hfi : ∀ f ∈ r.old, ∀ n ∈ f.1, 0 ≤ n ∧ n < ((linesE fs).length : Int) := fun f hf n hn => by rw [← w.pl]; exact hok.fs f hf n hn
      cases e with
      | look =>
        refine ⟨?_, ?_, ?_, ?_, ?_, ?_, w.fS⟩
        · rw [rots_snoc]; show (r.old.length : Int) = (rots S fs).2 + 0; rw [w.n]; omega
        · rw [rots_snoc]; show r.fill = (rots S fs).1 + 0; rw [w.fill]; omega
        · rw [linesE_snoc, List.append_nil]; exact w.pl
        · rw [linesE_snoc, List.append_nil]; exact w.fl
        · rw [linesE_snoc, List.append_nil]; exact w.os
        · rw [linesE_snoc, List.append_nil]; exact w.cs
      | rot =>
        have hst : RS.step S M r .rot = r.turn := hturn
        rw [hst]
        refine ⟨?_, ?_, ?_, ?_, ?_, ?_, hS⟩
        · rw [rots_snoc]
          show ((r.old ++ [(r.cur, r.beg)]).length : Int) = (rots S fs).2 + 1
          rw [List.length_append, ← w.n]; simp
        · rw [rots_snoc]; rfl
        · rw [linesE_snoc, List.append_nil]; exact w.pl
        · rw [linesE_snoc, List.append_nil, ← w.fl]
          unfold RS.files RS.turn
          simp
        · rw [linesE_snoc, List.append_nil]
          intro f hf
          rcases List.mem_append.mp (show f ∈ r.old ++ [(r.cur, r.beg)] from hf) with hf | hf
          · exact w.os f hf
          · rw [List.mem_singleton.mp hf]
            show sumAt _ r.cur ≤ S
            rw [w.cs]; exact w.fS
        · rfl
      | line l =>
        have hl : l ≤ S := hls l hoe
        have e1 : linesE (fs ++ [.line l]) = linesE fs ++ [l] := linesE_snoc _ _
        have hrange : (List.range (linesE fs ++ [l]).length).map (fun i => ((i : Nat) : Int)) = (List.range (linesE fs).length).map (fun i => ((i : Nat) : Int)) ++ [((linesE fs).length : Int)] := by
          rw [List.length_append, List.length_singleton, List.range_succ, List.map_append]; rfl
        by_cases hc : S < r.fill + l
        · have hst : RS.step S M r (.line l) = RS.add l r.turn := by
            show RS.add l (if S < r.fill + l then RS.trim M r.turn else r) = _
            rw [if_pos hc, hturn]
          rw [hst]
          have hrot : rotd S (rots S fs).1 (.line l) = true := by rw [← w.fill]; exact decide_eq_true hc
          refine ⟨?_, ?_, ?_, ?_, ?_, ?_, ?_⟩
          · rw [rots_snoc]
            show ((r.old ++ [(r.cur, r.beg)]).length : Int) = (rots S fs).2 + (if rotd S (rots S fs).1 (.line l) = true then 1 else 0)
            rw [if_pos hrot, List.length_append, ← w.n]; simp
          · rw [rots_snoc]
            show (0 : Int) + l = (if rotd S (rots S fs).1 (.line l) = true then 0 else (rots S fs).1) + l
            rw [if_pos hrot]
          · rw [e1, List.length_append, ← w.pl]
            show (r.places ++ [r.here]).length = _
            rw [List.length_append]; rfl
          · rw [e1, hrange, ← w.fl]
            unfold RS.files RS.add RS.turn
            simp [w.pl]
          · rw [e1]
            intro f hf
            rcases List.mem_append.mp (show f ∈ r.old ++ [(r.cur, r.beg)] from hf) with hf | hf
            · rw [sumAt_snoc (hfi f hf)]; exact w.os f hf
            · rw [List.mem_singleton.mp hf]
              show sumAt _ r.cur ≤ S
              rw [sumAt_snoc hci, w.cs]; exact w.fS
          · rw [e1]
            show sumAt (linesE fs ++ [l]) ([] ++ [(r.places.length : Int)]) = 0 + l
            rw [w.pl, sumAt_put]
            rfl
          · show (0 : Int) + l ≤ S
            omega
        · have hst : RS.step S M r (.line l) = RS.add l r := by
            show RS.add l (if S < r.fill + l then RS.trim M r.turn else r) = _
            rw [if_neg hc]
          rw [hst]
          have hrot : ¬ rotd S (rots S fs).1 (.line l) = true := by rw [← w.fill]; show ¬ decide (S < r.fill + l) = true; simp [hc]
          refine ⟨?_, ?_, ?_, ?_, ?_, ?_, ?_⟩
          · rw [rots_snoc]
            show (r.old.length : Int) = (rots S fs).2 + (if rotd S (rots S fs).1 (.line l) = true then 1 else 0)
            rw [if_neg hrot, ← w.n]; omega
          · rw [rots_snoc]
            show r.fill + l = (if rotd S (rots S fs).1 (.line l) = true then 0 else (rots S fs).1) + l
            rw [if_neg hrot, w.fill]
          · rw [e1, List.length_append, ← w.pl]
            show (r.places ++ [r.here]).length = _
            rw [List.length_append]; rfl
          · rw [e1, hrange, ← w.fl]
            unfold RS.files RS.add
            simp [w.pl]
          · rw [e1]
            intro f hf
            rw [sumAt_snoc (hfi f hf)]; exact w.os f hf
          · rw [e1]
            show sumAt (linesE fs ++ [l]) (r.cur ++ [(r.places.length : Int)]) = r.fill + l
            rw [w.pl, sumAt_put, sumAt_snoc hci, w.cs]
          · show r.fill + l ≤ S
            omega
  have := main es.length (Nat.le_refl _)
  rwa [List.take_length] at this
end My

namespace My
open PySem PySem.Spec PyProof.Rows L2
local macro_rules | `(tactic| walk_at "ev") => `(tactic| try simp only [ev_var, ev_c, ev_un, ev_op, ev_nil, ev_cons, ev_call, ev_callD, ev_callN, ev_callK, ev_opM, ev_lcM, ev_tup, ev_lst, ev_lstM, ev_dkM, ev_dtM, ev_bE, ev_bAnd, ev_bOr, ev_bNot, ev_bYes, ev_eAnd, ev_eOr, ev_eNot, ev_if, ev_chain, ev_oNone, ev_oSome, ev_sl, ev_bm, ev_skip, ev_brk, ev_cnt, ev_seq, then_nx, then_rt, then_bk, then_ct, ev_set, ev_asg, ev_par, ev_par3, ev_ret, ev_drop, ev_sIf, ev_aug, ev_sub, ev_seqI, ev_fld, ev_fldM, ev_meth, ev_new, ev_newK, ev_enum, ev_zip, ev_range1, ev_range2, ev_for, ev_lc, enter, gNm, gsNil, gsCons, gTp, wipeE,
  List.map_cons, List.map_nil, List.length_cons, List.length_nil, List.replicate, List.cons_append, List.nil_append, List.append_nil, List.getElem?_cons_zero, List.getElem?_cons_succ, List.set_cons_zero, List.set_cons_succ, Option.some.injEq, exists_eq_left', exists_eq_left, D.bl.injEq, D.int.injEq, D.str.injEq, D.tup.injEq, D.lst.injEq, D.ref.injEq, decide_eq_true_eq, List.cons.injEq, and_true, true_and, if_true, if_false, reduceCtorEq, Bool.false_eq_true, ite_true, ite_false, Nat.sub_self, Nat.reduceAdd, Nat.reduceSub, Nat.zero_add, exists_and_left, exists_const, Bool.not_true, Bool.not_false, Bool.not_eq_true', exists_eq_right, and_assoc, List.length_set, exists_eq_right',
  add_int, addI_int, sub_int, neg_int, lt_int, le_int, gt_int, ge_int, eq_int, ne_int, eq_str, ne_str, eq_bl, ne_bl, eq_is, eq_si, ne_is, ne_si, is_nn, ix_tup, ix_lst, ix_scr, at_0, at_1, at_2, at_3, len_tup, len_lst, len_scr, outF, outK, ev_len_tup, ev_len_lst, ev_len_scr, ev_abs, ev_int, ev_intb, ev_max2, ev_min2, ev_tuple_lst, ev_tuple_tup, ev_list_lst, ev_list_tup, sz0, sz1, sz2, sz3, sz4, sz5, sz6, sz7, sz8, sz9, sz10, sz11, sz12, s_rl, s_lr, atI_last, decide_false, decide_true, Bool.or_false, Bool.false_or])
local macro_rules | `(tactic| walk_at "st") => `(tactic| try simp only [List.append_assoc, List.cons_append, List.nil_append, List.length_append, List.length_cons, List.length_nil, Nat.reduceAdd, Nat.add_assoc])
theorem intsTo_at {n i : Nat} (h : i < n) {h2 : i < (intsTo 0 n).length} : (intsTo 0 n)[i] = .int (i : Int) := by
  simp [intsTo]
/-- all([.. for _ in ..]) whose items are all true -/
theorem all_lc {EL : EM} {i : Nat} {ds : List D} {gd : Store → Prop} {env : Env} {st : Store} {Q : D → Store → Prop} (I : Nat → Store → Prop) (hz : ds.length ≤ sizeLine) (hg : ∀ s, gd s) (h0 : I 0 st)
    (step : ∀ j (hj : j < ds.length) s, I j s → EvE EL (env.set i (some ds[j])) s fun y s' => y = .bl true ∧ I (j + 1) s') (k : ∀ s, I ds.length s → Q (.bl true) s) :
    EvL (lcGo gd (gNm i) bYes EL env ds st) fun ys s2 => ys.length ≤ sizeLine ∧ EvF fAll [.lst ys] s2 Q := by
  refine lc_inv (fun j ys s => ys = (List.replicate j true).map D.bl ∧ I j s) ⟨rfl, h0⟩ (fun _ _ s _ _ => hg s) ?_ ?_
  · rintro j hj ys s ⟨rfl, h⟩
    refine ⟨_, rfl, ?_⟩
    rw [ev_bYes, if_pos rfl]
    refine EvE.mono (step j hj s h) fun y s' ⟨e, h'⟩ => ⟨?_, h'⟩
    rw [e, List.replicate_succ', List.map_append]
    rfl
  · rintro ys s ⟨rfl, h⟩
    refine ⟨by simpa using hz, ?_⟩
    rw [ev_all, all_true]
    exact k s h
def HeadI (ns : List Int) (_ : Nat) (env : Env) (_ : Store) : Prop := ∃ x1 x2 x3, env = [some (.scr ns), x1, x2, x3]
/-- the head of most laws: for each cell of the script a box, some turns with it -/
theorem ev_headA {EL : EM} {ns : List Int} {m : Int} {R : Nat} {QS : Out → Store → Prop} (hl : ns.length ≤ 63) (m0 : 0 ≤ m) (m1 : m ≤ 100) (hR : R ≤ 2 ^ 30)
    (right : ∀ (x1 x3 : D) (st : Store) (b : Nat) (c : D) (n : Nat), st[b]? = some c → BoxC n c → n + R < 2 ^ 39 → EvE EL [some (.scr ns), some x1, some (.ref b), some x3] st fun y s => y = .bl true ∧ ∃ c', BoxC (n + R) c' ∧ s = st.set b c')
    (done : ∀ x1 x2 x3 st, QS (.nx [some (.scr ns), x1, x2, x3]) st) :
    EvS (sFor (iRange1 (eCall fMax (aCons (eC (.int 1)) (aCons (eCall fMin (aCons (eC (.int 3)) (aCons (eCall fLen (aCons (eVar 0) aNil)) aNil))) aNil)))) (gNm 1) (sSeq (sSet 2 (eCallD 2 mf_Lbox [] (aCons (eVar 0) (aCons (eVar 1) aNil)))) (sIf (bNot (bE (eCall fAll (aCons (eLc (iRange1 (eC (.int m))) (gNm 3) bYes EL [3]) aNil)))) (sRet (eC (.bl false))) sSkip))) [some (.scr ns), none, none, none] [] QS := by
  walk_at "ev"
  generalize er : (if (if (ns.length : Int) < 3 then (ns.length : Int) else 3) > 1 then (if (ns.length : Int) < 3 then (ns.length : Int) else 3) else 1) = r
  have hr : 1 ≤ r ∧ r ≤ 3 := by
    subst er
    constructor <;> (repeat' split) <;> omega
  clear er
  refine ⟨by omega, by omega, ?_⟩
  refine for_inv (HeadI ns) ⟨none, none, none, rfl⟩ (fun _ _ _ _ _ => trivial) ?_ ?_
  · rintro i hi env s ⟨x1, x2, x3, rfl⟩
    rw [intsTo_len] at hi
    refine ⟨_, rfl, ?_⟩
    rw [intsTo_at (by omega)]
    walk_at "ev"
    refine ev_box hl (by omega) (by omega) fun c hc => ?_
    walk_at "ev"
    refine ⟨by omega, by omega, ?_⟩
    have hlen : (intsTo 0 m.toNat).length = m.toNat := intsTo_len
    refine all_lc (I := fun j s' => ∃ c', BoxC (j * R) c' ∧ s' = s ++ [c']) (Nat.le_trans (Nat.le_of_eq hlen) (Nat.le_trans (show m.toNat ≤ 100 by omega) (by decide))) (fun _ => trivial) ⟨c, hc.mono (Nat.zero_le _), rfl⟩ ?_ ?_
    · rintro j hj s' ⟨c', hc', rfl⟩
      have hj2 : j < 100 := by omega
      have hR2 : j * R ≤ 100 * 2 ^ 30 := Nat.mul_le_mul (by omega) hR
      walk_at "ev"
      refine EvE.mono (right _ _ (s ++ [c']) s.length c' (j * R) (up_new _) hc' (by omega)) fun y s2 ⟨h1, c2, h2, h3⟩ => ⟨h1, c2, ?_, ?_⟩
      · rw [Nat.succ_mul]; exact h2
      · rw [h3, put_n0]
    · rintro s' ⟨c', hc', rfl⟩
      walk_at "ev"
      exact ⟨_, _, _, rfl⟩
  · rintro env s ⟨x1, x2, x3, rfl⟩
    exact done _ _ _ _
/-- the other head: return all([_law_right(_law_box(script, k)) for k in ..]) -/
theorem ev_headB {F : FM} {ns : List Int} {QS : Out → Store → Prop} (hl : ns.length ≤ 63)
    (right : ∀ (st : Store) (c : D), BoxC 0 c → EvF F [.ref st.length] (st ++ [c]) fun y s => y = .bl true ∧ ∃ c', s = st ++ [c'])
    (done : ∀ st, QS (.rt (.bl true)) st) :
    EvS (sRet (eCall fAll (aCons (eLc (iRange1 (eCall fMax (aCons (eC (.int 1)) (aCons (eCall fMin (aCons (eCall fLen (aCons (eVar 0) aNil)) (aCons (eC (.int 3)) aNil))) aNil)))) (gNm 1) bYes (eCallD 1 F [] (aCons (eCallD 2 mf_Lbox [] (aCons (eVar 0) (aCons (eVar 1) aNil))) aNil)) [1]) aNil))) [some (.scr ns), none] [] QS := by
  walk_at "ev"
  generalize er : (if (if 3 < (ns.length : Int) then 3 else (ns.length : Int)) > 1 then (if 3 < (ns.length : Int) then 3 else (ns.length : Int)) else 1) = r
  have hr : 1 ≤ r ∧ r ≤ 3 := by
    subst er
    constructor <;> (repeat' split) <;> omega
  clear er
  refine ⟨by omega, by omega, ?_⟩
  refine all_lc (I := fun j s' => True) (by rw [intsTo_len]; exact Nat.le_trans (show r.toNat ≤ 3 by omega) (by decide)) (fun _ => trivial) trivial ?_ ?_
  · rintro j hj s' _
    rw [intsTo_len] at hj
    rw [intsTo_at hj]
    walk_at "ev"
    refine ev_box hl (by omega) (by omega) fun c hc => ?_

    obtain ⟨d, s2, h1, h2, c', h3⟩ := right s' c hc
    exact ⟨d, s2, h1, h2⟩
  · intro s _
    exact done s
end My

namespace My
open PySem PySem.Spec PyProof.Rows L2
/-! ### sum(t, ()), t a tuple of tuples -/
theorem sub_tup_str : isSubtype (.type "tuple") (.type "str") = pure false := by rw [isSubtype_type]; kernel_rfl
theorem sub_tup_bytes : isSubtype (.type "tuple") (.type "bytes") = pure false := by rw [isSubtype_type]; kernel_rfl
theorem sub_tup_bytearray : isSubtype (.type "tuple") (.type "bytearray") = pure false := by rw [isSubtype_type]; kernel_rfl
theorem args_sum2 (a b : Value) : argsOk "sum" ⟨[a, b], []⟩ := by unfold argsOk; kernel_rfl
section
variable {prog : Program} {w : World} {A : Around} {E : Value → Shared → Prop} {s : Shared}
theorem add_tups {t b : Addr} {vs ws : List Value} {Q : Value → Shared → Prop} (ht : IsTup s.heap t vs.toArray) (hb : IsTup s.heap b ws.toArray)
    (h0 : vs = [] → Q (.ref b) s) (h1 : vs ≠ [] → ws = [] → Q (.ref t) s)
    (h2 : vs ≠ [] → ws ≠ [] → Q (.ref s.heap.objs.size) { s with heap := s.heap.push { cls := .type "tuple", data := .seq (vs ++ ws).toArray } })
    (hsz : vs.length + ws.length ≤ sizeLine) :
    wpAny (model prog w) A (binaryOp .Add (.ref t) (.ref b)) Q E s := by
  obtain ⟨⟨cls, dd, data, sl⟩, ho, hc, n, hd⟩ := id ht
  obtain ⟨⟨cls2, dd2, data2, sl2⟩, ho2, hc2, n2, hd2⟩ := id hb
  simp only at hc hd hc2 hd2
  subst hc hd hc2 hd2
  have e : vs.toArray ++ ws.toArray = (vs ++ ws).toArray := by simp
  by_cases hv : vs = []
  · exact concat_meets ⟨_, ho, rfl⟩ ⟨_, ho2, rfl⟩ noFill_tuple_add seq_tuple_add PySem.F.slot_tuple_add PySem.F.entry_tuple_add (PySem.F.args_tuple_add_2 _ _)
      (tuple_addW0 t b vs.toArray ws.toArray n n2 dd dd2 sl sl2 (by simp [hv])) ⟨ho, ho2, h0 hv⟩
  · by_cases hw : ws = []
    · exact concat_meets ⟨_, ho, rfl⟩ ⟨_, ho2, rfl⟩ noFill_tuple_add seq_tuple_add PySem.F.slot_tuple_add PySem.F.entry_tuple_add (PySem.F.args_tuple_add_2 _ _)
        (tuple_addW1 t b vs.toArray ws.toArray n n2 dd dd2 sl sl2 (by simpa using hv) (by simp [hw])) ⟨ho, ho2, h1 hv hw⟩
    · refine concat_meets ⟨_, ho, rfl⟩ ⟨_, ho2, rfl⟩ noFill_tuple_add seq_tuple_add PySem.F.slot_tuple_add PySem.F.entry_tuple_add (PySem.F.args_tuple_add_2 _ _)
        (tuple_addW2 t b vs.toArray ws.toArray n n2 dd dd2 sl sl2 (by simpa using hv) (by simpa using hw) (by rw [List.size_toArray, List.size_toArray]; exact hsz)) ⟨ho, ho2, ?_⟩
      rw [e]
      exact h2 hv hw
/-- the total so far: the start, an item that is whole, or a new tuple -/
def TotAt (h₀ : Heap) (st : Addr) (ad : Nat → Addr) (g : Nat → List Value) (i : Nat) (a : Addr) (vs : List Value) : Prop :=
  vs = ((List.range i).map g).flatten ∧ ((a = st ∧ vs = []) ∨ (∃ j, j < i ∧ a = ad j ∧ vs = g j) ∨ h₀.objs.size ≤ a)
theorem TotAt.step {h₀ : Heap} {st : Addr} {ad : Nat → Addr} {g : Nat → List Value} {i : Nat} {a : Addr} {vs : List Value} (h : TotAt h₀ st ad g i a vs) :
    (vs = [] → TotAt h₀ st ad g (i + 1) (ad i) (g i)) ∧ (g i = [] → TotAt h₀ st ad g (i + 1) a vs) ∧ ∀ b, h₀.objs.size ≤ b → TotAt h₀ st ad g (i + 1) b (vs ++ g i) := by
  obtain ⟨h1, h2⟩ := h
  have e : ((List.range (i + 1)).map g).flatten = vs ++ g i := by
    rw [List.range_succ, List.map_append, List.flatten_append, ← h1]
    simp
  refine ⟨fun z => ⟨by rw [e, z]; rfl, .inr (.inl ⟨i, Nat.lt_succ_self i, rfl, rfl⟩)⟩, fun z => ⟨by rw [e, z, List.append_nil], ?_⟩, fun b hb => ⟨e.symm, .inr (.inr hb)⟩⟩
  rcases h2 with z | ⟨j, hj, z⟩ | z
  · exact .inl z
  · exact .inr (.inl ⟨j, Nat.lt_succ_of_lt hj, z⟩)
  · exact .inr (.inr z)
theorem codeAny_sum_loopT {R : Result → Shared → Prop} {I : Addr} {fp wr : List Addr} {n : Nat} {P : Nat → Value → Prop} {St : Nat → Heap → Prop} (W : Walks prog w A.in1 I fp wr n P St) {h₀ : Heap} {st : Addr} {ad : Nat → Addr} {g : Nat → List Value}
    (hval : ∀ i v, i < n → P i v → v = .ref (ad i) ∧ IsTup h₀ (ad i) (g i).toArray) (hlive : ∀ i h, St i h → ∀ b ∈ fp, ∃ o, h.get? b = some o) (hwr : ∀ b ∈ wr, h₀.objs.size ≤ b) (hsz : (((List.range n).map g).flatten).length ≤ sizeLine) (S : Addr) (hSf : S ∉ fp) (hS0 : h₀.objs.size ≤ S) :
    ∀ (k i : Nat) (s : Shared) (a : Addr) (vs : List Value) (c : Nat), n - i = k → i ≤ n → St i s.heap → s.heap.get? S = some { cls := .type "list", dict := none, data := .seq #[.ref a] c, slots := #[] } →
    (∀ b o, h₀.get? b = some o → s.heap.get? b = some o) → TotAt h₀ st ad g i a vs → IsTup s.heap a vs.toArray → a ∉ wr → a ≠ S → (∀ b ∈ fp, b < s.heap.objs.size) →
    (∀ h' tk a' vs', (∀ b o, h₀.get? b = some o → h'.get? b = some o) → TotAt h₀ st ad g n a' vs' → IsTup h' a' vs'.toArray → R (.ok (.ret (.ref a'))) { s with heap := h', toks := tk }) →
    codeAny (model prog w) A (.builtin "sum.loop" ⟨[.ref I, .ref S, rawInt 2, rawInt 0], []⟩) R s := by
  have hSw : S ∉ wr := fun h => hSf (W.sub _ h)
  intro k
  induction k with
  | zero =>
    intro i s a vs c hk hi hst hS hold hT ha haw haS hfp hR
    have hin : i = n := by omega
    subst hin
    refine codeAny_builtin F.entry_sum_loop ?_
    rw [Around.under_plainId F.plain_sum_loop _]
    show wpAny _ A.in1 (seqItems? (.ref S) >>= _) _ _ s
    refine wpAny_bind (wpAny_seqItems hS rfl ?_)
    show wpAny _ A.in1 (tryCatch (pyNext (.ref I)) _ >>= _) _ _ s
    refine wpAny_bind (wpAny_tryCatch (W.done s _ _ hst fun h' tk hk' => ?_))
    have hlt : ∀ b o, h₀.get? b = some o → b ∉ wr := fun b o e m => absurd (Nat.lt_of_lt_of_le (Heap.lt_size e) (hwr b m)) (Nat.lt_irrefl _)
    obtain ⟨o, ho, r⟩ := id ha
    exact wpAny_pure (hR h' tk a vs (fun b o e => hk' b o (hlt b o e) (hold b o e)) hT ⟨o, hk' a o haw ho, r⟩)
  | succ k ih =>
    intro i s a vs c hk hi hst hS hold hT ha haw haS hfp hR
    have hlt : i < n := by omega
    refine codeAny_builtin F.entry_sum_loop ?_
    rw [Around.under_plainId F.plain_sum_loop _]
    show wpAny _ A.in1 (seqItems? (.ref S) >>= _) _ _ s
    refine wpAny_bind (wpAny_seqItems hS rfl ?_)
    show wpAny _ A.in1 (tryCatch (pyNext (.ref I)) _ >>= _) _ _ s
    refine wpAny_bind (wpAny_tryCatch (W.item i s _ _ hlt hst fun v h' tk hP hst' hk' => ?_))
    obtain ⟨rfl, hb0⟩ := hval i v hlt hP
    have hlo : ∀ b o, h₀.get? b = some o → b ∉ wr := fun b o e m => absurd (Nat.lt_of_lt_of_le (Heap.lt_size e) (hwr b m)) (Nat.lt_irrefl _)
    have hS' := hk' S _ hSw hS
    have hold' : ∀ b o, h₀.get? b = some o → h'.get? b = some o := fun b o e => hk' b o (hlo b o e) (hold b o e)
    obtain ⟨oa, hoa, ra⟩ := id ha
    have ha' : IsTup h' a vs.toArray := ⟨oa, hk' a oa haw hoa, ra⟩
    obtain ⟨ob, hob, rb⟩ := id hb0
    have hb' : IsTup h' (ad i) (g i).toArray := ⟨ob, hold' _ _ hob, rb⟩
    have hbw := hlo _ _ hob
    have hbS : ad i ≠ S := fun e => absurd (Nat.lt_of_lt_of_le (Heap.lt_size hob) (by rw [e]; exact hS0)) (Nat.lt_irrefl _)
    obtain ⟨t1, t2, t3⟩ := hT.step
    have hfp' : ∀ b ∈ fp, b < h'.objs.size := by
      intro b hb
      obtain ⟨o, ho⟩ := hlive _ _ hst' b hb
      exact Heap.lt_size ho
    have hzz : vs.length + (g i).length ≤ sizeLine := by
      have e : ((List.range (i + 1)).map g).flatten = vs ++ g i := by
        rw [List.range_succ, List.map_append, List.flatten_append, ← hT.1]
        simp
      have e2 : List.range n = List.range (i + 1) ++ (List.range (n - (i + 1))).map (i + 1 + ·) := by
        rw [← List.range_add]
        congr 1
        omega
      rw [e2, List.map_append, List.flatten_append, e, List.length_append, List.length_append] at hsz
      omega
    show wpAny _ A.in1 ((holding [Value.ref (ad i)] (binaryOp .Add (.ref a) (.ref (ad i)))).attempt >>= _) _ _ _
    have fin : ∀ (h1 : Heap) (a1 : Addr) (vs1 : List Value), (∀ b o, h'.get? b = some o → h1.get? b = some o) → TotAt h₀ st ad g (i + 1) a1 vs1 → IsTup h1 a1 vs1.toArray → a1 ∉ wr → a1 ≠ S →
        wpAny (model prog w) A.in1 (updateSeq S (fun _ => #[Value.ref a1]) >>= fun _ => letGo [Value.ref a, Value.ref (ad i)] >>= fun _ => (updateSeq S (fun _ => #[Value.ref a1]) >>= fun _ => PySem.again (.builtin "sum.loop" ⟨[.ref I, .ref S, rawInt 2, rawInt 0], []⟩)))
          (fun x s' => match x with
            | .done f => R (.ok f) s'
            | .again c => c.quiet = true ∧ codeAny (model prog w) A c R s') (fun e s' => R (.error e) s') { s with heap := h1, toks := tk } := by
      intro h1 a1 vs1 hkk hT1 ha1 hw1 hS1
      have hSa := hkk S _ hS'
      refine wpAny_bind (wpAny_updateSeq hSa rfl ?_)
      have hSb := Heap.get?_update_self (Obj.mapSeq fun _ => #[Value.ref a1]) hSa rfl
      refine wpAny_bind (wpAny_letGo ?_)
      have ne1 : ∀ {b : Addr} {o : Obj} {h : Heap}, b ≠ S → h.get? b = some o → (h.update S (Obj.mapSeq fun _ => #[Value.ref a1])).get? b = some o := fun hb e => (Heap.get?_update_other _ _ (Ne.symm hb)).trans e
      have neS : ∀ {b : Addr} {o : Obj}, h₀.get? b = some o → b ≠ S := fun {b o} e z => absurd (Nat.lt_of_lt_of_le (Heap.lt_size e) (by rw [z]; exact hS0)) (Nat.lt_irrefl _)
      refine wpAny_bind (wpAny_updateSeq hSb rfl (wpAny_pure ⟨plainId_quiet F.plain_sum_loop _, ih (i + 1) _ a1 vs1 _ (by omega) hlt (W.frame _ _ _ hst' fun b hb o e => ?_) (Heap.get?_update_self _ hSb rfl) (fun b o e => ne1 (neS e) (ne1 (neS e) (hkk _ _ (hold' _ _ e)))) hT1 ?_ hw1 hS1 (fun b hb => ?_) fun h'' tk'' a' vs' x1 x2 x3 => ?_⟩))
      · have hbS : b ≠ S := fun z => hSf (by rw [← z]; exact hb)
        exact ne1 hbS (ne1 hbS (hkk _ _ e))
      · obtain ⟨o1, e1, r1⟩ := ha1
        exact ⟨o1, ne1 hS1 (ne1 hS1 e1), r1⟩
      · obtain ⟨o, ho⟩ := hlive _ _ hst' b hb
        have hbS : b ≠ S := fun z => hSf (by rw [← z]; exact hb)
        exact Heap.lt_size (ne1 hbS (ne1 hbS (hkk _ _ ho)))
      · exact hR h'' tk'' a' vs' x1 x2 x3
    refine wpAny_bind (wpAny_attempt (wpAny_holding (add_tups (s := { s with heap := h', toks := tk }) ha' hb' (fun z => ?_) (fun _ z => ?_) (fun _ _ => ?_) hzz)))
    · exact fin h' (ad i) (g i) (fun _ _ e => e) (t1 z) hb' hbw hbS
    · exact fin h' a vs (fun _ _ e => e) (t2 z) ha' haw haS
    · have hnew : h₀.objs.size ≤ h'.objs.size := by
        exact Nat.le_trans hS0 (Nat.le_of_lt (Heap.lt_size hS'))
      refine fin _ h'.objs.size (vs ++ g i) (fun b o e => Heap.get?_push_of_some _ e) (t3 _ hnew) ⟨_, Heap.get?_push_size _ rfl, rfl, _, rfl⟩ (fun m => absurd (hfp' _ (W.sub _ m)) (Nat.lt_irrefl _)) (fun z => absurd (Heap.lt_size hS') (by rw [← z]; exact Nat.lt_irrefl _))
theorem call_sum_tups {tt st : Addr} {items : Array Value} {ad : Nat → Addr} {g : Nat → List Value} {Q : Value → Shared → Prop} (hh : A.handled = none) (ht : IsTup s.heap tt items) (hst : IsTup s.heap st #[])
    (hval : ∀ (i : Nat) (v : Value), i < items.size → items[i]? = some v → v = .ref (ad i) ∧ IsTup s.heap (ad i) (g i).toArray) (hsz : (((List.range items.size).map g).flatten).length ≤ sizeLine)
    (hQ : ∀ h' tk a' vs', (∀ b o, s.heap.get? b = some o → h'.get? b = some o) → TotAt s.heap st ad g items.size a' vs' → IsTup h' a' vs'.toArray → Q (.ref a') { s with heap := h', toks := tk }) :
    wpAny (model prog w) A (call (.builtin "sum") [.ref tt, .ref st]) Q E s := by
  refine call_function_tree F.kind_sum F.plain_sum F.entry_sum (args_sum2 _ _) ?_
  unfold Builtin.«sum»
  simp only [List.length_cons, List.length_nil]
  rw [if_neg (by decide)]
  refine wpAny_bind (wpAny_of_eq (show Builtin.Builtins.bindParams "sum" ["start"] 0 ⟨[.ref st], []⟩ = pure [some (.ref st)] from rfl) ?_)
  refine wpAny_bind (iter_tuple ht ?_)
  have ty : ∀ h : Heap, (∀ b o, s.heap.get? b = some o → h.get? b = some o) → ∀ g tk d os, (⟨h, g, d, tk, os⟩ : Shared).TypeIs (.ref st) "tuple" := fun h hk g tk d os => by
    obtain ⟨o, ho, hc, _⟩ := hst
    exact ⟨o, hk _ _ ho, hc⟩
  refine wpAny_bind (wpAny_pure ?_)
  simp only [List.forIn_cons, List.forIn_nil]
  refine wpAny_bind (wpAny_bind (wpAny_bind (wpAny_isInstance (T := "tuple") (b := false) (ty _ (fun b o e => Heap.get?_push_of_some _ e) _ _ _ _) sub_tup_str ?_)))
  simp only [Bool.false_eq_true, if_false]
  refine wpAny_pure (wpAny_bind (wpAny_bind (wpAny_isInstance (T := "tuple") (b := false) (ty _ (fun b o e => Heap.get?_push_of_some _ e) _ _ _ _) sub_tup_bytes ?_)))
  simp only [Bool.false_eq_true, if_false]
  refine wpAny_pure (wpAny_bind (wpAny_bind (wpAny_isInstance (T := "tuple") (b := false) (ty _ (fun b o e => Heap.get?_push_of_some _ e) _ _ _ _) sub_tup_bytearray ?_)))
  simp only [Bool.false_eq_true, if_false]
  refine wpAny_pure (wpAny_pure ?_)
  refine wpAny_bind (wpAny_newObj_type ?_ (by size_fits))
  have hne : tt ≠ s.heap.objs.size := by
    obtain ⟨o, ho, _⟩ := ht
    exact Nat.ne_of_lt (Heap.lt_size ho)
  have k1 : ∀ b o, s.heap.get? b = some o → (s.heap.push { cls := .type "tuple_iterator", data := .fields #[.ref tt, .int 0 0] }).get? b = some o := fun b o e => Heap.get?_push_of_some _ e
  have k2 : ∀ b o, s.heap.get? b = some o → ((s.heap.push { cls := .type "tuple_iterator", data := .fields #[.ref tt, .int 0 0] }).push { cls := .type "list", data := .seq #[.ref st] }).get? b = some o := fun b o e => Heap.get?_push_of_some _ (k1 b o e)
  have e1 : (s.heap.push { cls := .type "tuple_iterator", data := .fields #[.ref tt, .int 0 0] }).objs.size = s.heap.objs.size + 1 := Heap.size_push ..
  have itt : IsTup (s.heap.push { cls := .type "tuple_iterator", data := .fields #[.ref tt, .int 0 0] }) tt items := by
    obtain ⟨o, ho, r⟩ := ht
    exact ⟨o, k1 _ _ ho, r⟩
  have lt1 : s.heap.objs.size < (s.heap.push { cls := .type "tuple_iterator", data := .fields #[.ref tt, .int 0 0] }).objs.size := by rw [e1]; exact Nat.lt_succ_self _
  obtain ⟨os, hos, rs⟩ := id hst
  obtain ⟨ot, hot, rt⟩ := id ht
  refine wpAny_pure ⟨plainId_quiet F.plain_sum_loop _, ?_⟩
  refine codeAny_sum_loopT (Walks.tuple (A := A.in1) hh s.heap.objs.size tt hne items) (h₀ := s.heap) (st := st) (ad := ad) (g := g) (fun i v hi hv => hval i v hi hv) (fun i h q b hb => ?_) (fun b hb => ?_) hsz
    (s.heap.push { cls := .type "tuple_iterator", data := .fields #[.ref tt, .int 0 0] }).objs.size (fun hm => ?_) (Nat.le_of_lt lt1) _ 0 _ st [] _ rfl (Nat.zero_le _) ?_ (Heap.get?_push_size _ rfl) k2 ⟨rfl, .inl ⟨rfl, rfl⟩⟩ ⟨os, k2 _ _ hos, rs⟩ (fun hm => ?_) (fun z => ?_) (fun b hb => ?_) fun h' tk a' vs' x1 x2 x3 => hQ h' tk a' vs' x1 x2 x3
  · obtain ⟨⟨o1, q1, _⟩, ⟨o2, q2, _⟩⟩ := q
    simp only [List.mem_cons, List.not_mem_nil, or_false] at hb
    rcases hb with rfl | rfl
    · exact ⟨o1, q1⟩
    · exact ⟨o2, q2⟩
  · rw [List.mem_singleton.mp hb]
    exact Nat.le_refl _
  · simp only [List.mem_cons, List.not_mem_nil, or_false] at hm
    rcases hm with z | z
    · rw [z] at lt1
      exact Nat.lt_irrefl _ lt1
    · have := Heap.lt_size (k1 _ _ hot)
      rw [z] at this
      exact Nat.lt_irrefl _ this
  · refine ⟨⟨_, Heap.get?_push_of_some _ (Heap.get?_push_size _ rfl), rfl, rfl⟩, ?_⟩
    obtain ⟨n, r1⟩ := rt.2
    exact ⟨ot, k2 _ _ hot, rt.1, n, r1⟩
  · rw [List.mem_singleton.mp hm] at hos
    exact Nat.lt_irrefl _ (Heap.lt_size hos)
  · have := Heap.lt_size (k1 _ _ hos)
    rw [z] at this
    exact Nat.lt_irrefl _ this
  · simp only [List.mem_cons, List.not_mem_nil, or_false] at hb
    rcases hb with rfl | rfl
    · exact Heap.lt_size (Heap.get?_push_of_some _ (Heap.get?_push_size _ rfl))
    · exact Heap.lt_size (k2 _ _ hot)
end
theorem relv_inj {v v' : V} {u : Value} (h : L2.RelV v u) (h' : L2.RelV v' u) : v = v' := by
  cases v <;> cases v' <;> simp only [L2.RelV] at h h' <;> first
    | rfl
    | (subst h; cases h'; rfl)
    | (subst h; cases h'; done)
    | (subst h; obtain ⟨t', e⟩ := h'; cases e; done)
    | (obtain ⟨t, rfl⟩ := h; obtain ⟨t', e⟩ := h'; cases e; rfl)
    | (obtain ⟨t, rfl⟩ := h; obtain ⟨t', e⟩ := h'; cases e; done)
    | (obtain ⟨t, rfl⟩ := h; cases h'; done)
theorem vals_inj : ∀ {xs ys : List V} {us : List Value}, Vals xs us → Vals ys us → xs = ys
  | [], ys, _, .nil, h => by cases h; rfl
  | x :: xs, ys, _, .cons r t, h => by
    cases h with
    | cons r2 t2 => rw [relv_inj r r2, vals_inj t t2]
def rowsT2 : List D → Option (List (List D))
  | [] => some []
  | .tup xs :: ds => (rowsT2 ds).map (xs :: ·)
  | _ => none
theorem rowsT2_ok : ∀ {ds : List D} {gs : List (List D)}, rowsT2 ds = some gs → ds = gs.map .tup
  | [], gs, h => by cases h; rfl
  | d :: ds, gs, h => by
    cases d with
    | tup xs =>
      simp only [rowsT2, Option.map_eq_some_iff] at h
      obtain ⟨zs, h1, rfl⟩ := h
      rw [rowsT2_ok h1]
      rfl
    | _ => cases h
theorem rowsT2_map : ∀ {gs : List (List D)}, rowsT2 (gs.map .tup) = some gs
  | [] => rfl
  | g :: gs => by
    simp only [List.map_cons, rowsT2, rowsT2_map]
    rfl
noncomputable def fSumT : FM := ro fun ds _ => match ds with
  | [.tup rows, .tup []] => match rowsT2 rows with
    | some gs => if gs.flatten.length ≤ sizeLine then some (.tup gs.flatten) else none
    | none => none
  | _ => none
section
variable {X : Cx} {W : Wd}
theorem rows_reps {ι : Lay} {H : Hp} : ∀ {gs : List (List D)} {vs : List V}, Reps W ι H (gs.map .tup) vs → ∃ (as : List Addr) (us : List (List V)), vs = as.map V.ref ∧ as.length = gs.length ∧ us.length = gs.length ∧
    (∀ (i : Nat) (a : Addr) (u : List V), as[i]? = some a → us[i]? = some u → H a = some (.tup u) ∧ ∃ g, gs[i]? = some g ∧ Reps W ι H g u) ∧ Reps W ι H gs.flatten us.flatten
  | [], vs, h => by
    rw [h.nil_of]
    exact ⟨[], [], rfl, rfl, rfl, fun i a u e => by simp at e, Reps.nil⟩
  | g :: gs, vs, h => by
    obtain ⟨v, r, rfl, h1, h2⟩ := h.uncons
    obtain ⟨a, u, rfl, h3, h4⟩ := seqT_ok h1 (xs := g) rfl
    obtain ⟨as, us, rfl, l1, l2, q, f⟩ := rows_reps h2
    refine ⟨a :: as, u :: us, rfl, by simp [l1], by simp [l2], fun i b w e1 e2 => ?_, ?_⟩
    · cases i with
      | zero =>
        simp at e1 e2
        subst e1 e2
        exact ⟨h3, g, rfl, h4⟩
      | succ i =>
        simp at e1 e2
        obtain ⟨z1, g', z2, z3⟩ := q i b w e1 e2
        exact ⟨z1, g', by simpa using z2, z3⟩
    · rw [List.flatten_cons, List.flatten_cons]
      exact h4.append f
theorem jc_sumT (hc : X.calm = true) : CallR X (.builtin "sum") (MA W fSumT) := by
  intro pins s σ H xs us Q I rx ⟨ι, st, ds, d, st', r, h, e, k⟩
  replace e := ro_ok e
  obtain ⟨e, rfl⟩ := e
  split at e
  · rename_i rows
    split at e
    · rename_i gs q
      split at e
      · rename_i hz
        cases e
        obtain ⟨v1, v2, rfl, p1, p2⟩ := reps2 h
        obtain ⟨tt, vs, rfl, h1, h2⟩ := seqT_ok p1 (xs := rows) rfl
        obtain ⟨sa, ws, rfl, h3, h4⟩ := seqT_ok p2 (xs := []) rfl
        have hw := h4.nil_of
        subst hw
        rw [rowsT2_ok q] at h2
        obtain ⟨as, uss, rfl, l1, l2, hq, hf⟩ := rows_reps h2
        cases rx with
        | cons ra rn =>
          cases rn with
          | cons rb rn2 =>
            cases rn2
            cases ra
            cases rb
            obtain ⟨its, rv, it, hlen⟩ := I.tuple (SqT.of h1)
            obtain ⟨its2, rv2, it2, _⟩ := I.tuple (SqT.of h3)
            cases rv2
            have hl : its.length = gs.length := by rw [← rv.length, List.length_map, l1]
            have hrow : ∀ i, i < its.length → ∃ a u l, as[i]? = some a ∧ uss[i]? = some u ∧ its[i]? = some (.ref a) ∧ H a = some (.tup u) ∧ Vals u l ∧ IsTup s.heap a l.toArray := by
              intro i hi
              obtain ⟨a, ea⟩ : ∃ a, as[i]? = some a := ⟨as[i], List.getElem?_eq_getElem (by omega)⟩
              obtain ⟨u, eu⟩ : ∃ u, uss[i]? = some u := ⟨uss[i], List.getElem?_eq_getElem (by omega)⟩
              obtain ⟨hu, _⟩ := hq i a u ea eu
              obtain ⟨l, rl, tl, _⟩ := I.tuple (SqT.of hu)
              obtain ⟨w, ew, rw'⟩ := rv.get (i := i) (x := .ref a) (by rw [List.getElem?_map, ea]; rfl)
              cases rw'
              exact ⟨a, u, l, ea, eu, ew, hu, rl, tl⟩
            have hch : ∃ g : Nat → List Value, ∀ i, i < its.length → ∃ a u, as[i]? = some a ∧ uss[i]? = some u ∧ its[i]? = some (.ref a) ∧ H a = some (.tup u) ∧ Vals u (g i) ∧ IsTup s.heap a (g i).toArray := by
              refine ⟨fun i => if hi : i < its.length then Classical.choose (Classical.choose_spec (Classical.choose_spec (hrow i hi))) else [], fun i hi => ?_⟩
              have := Classical.choose_spec (Classical.choose_spec (Classical.choose_spec (hrow i hi)))
              dsimp only
              rw [dif_pos hi]
              exact ⟨_, _, this⟩
            obtain ⟨g, hg⟩ := hch
            have had : ∀ i, i < its.length → its[i]? = some (.ref (as.getD i 0)) := fun i hi => by
              obtain ⟨a, u, ea, _, ei, _⟩ := hg i hi
              rw [ei, List.getD_eq_getElem?_getD, ea]
              rfl
            have hflat : ∀ n, n ≤ its.length → Vals (uss.take n).flatten ((List.range n).map g).flatten := by
              intro n
              induction n with
              | zero => intro _; exact .nil
              | succ n ih =>
                intro hn
                obtain ⟨a, u, ea, eu, ei, hu, ru, tu⟩ := hg n (by omega)
                rw [List.take_add_one, eu, List.range_succ, List.map_append, List.flatten_append, List.flatten_append]
                have e1 : (some u).toList.flatten = u := by simp
                have e2 : ([n].map g).flatten = g n := by simp
                rw [e1, e2]
                exact (ih (by omega)).append ru
            have hall := hflat its.length (Nat.le_refl _)
            rw [List.take_of_length_le (by omega)] at hall
            have hsz : (((List.range its.length).map g).flatten).length ≤ sizeLine := by
              rw [← hall.length, ← hf.length]
              exact hz
            have esz : its.toArray.size = its.length := by simp
            refine call_sum_tups (ad := fun i => as.getD i 0) (g := g) (I.ok.hd hc) it it2 (fun i v hi hv => ?_) (by rw [esz]; exact hsz) fun h' tk a' vs' hk hT ht' => ?_
            · rw [esz] at hi
              have e1 : its[i]? = some v := by simpa using hv
              rw [had i hi] at e1
              refine ⟨(Option.some.inj e1).symm, ?_⟩
              obtain ⟨a, u, ea, _, _, _, _, tu⟩ := hg i hi
              have : as.getD i 0 = a := by rw [List.getD_eq_getElem?_getD, ea]; rfl
              rw [this]
              exact tu
            · rw [esz] at hT
              obtain ⟨hv, hT⟩ := hT
              rw [← hv] at hall
              rcases hT with ⟨z1, z2⟩ | ⟨j, hj, z1, z2⟩ | z
              · subst z1 z2
                have eu : uss.flatten = [] := List.length_eq_zero_iff.mp (by rw [hall.length]; rfl)
                have eg : gs.flatten = [] := List.length_eq_zero_iff.mp (by rw [hf.length, eu]; rfl)
                exact ⟨.ref a', H, I.kept (t' := tk) hk, rfl, k.now r (by rw [eg]; simp only [Rep]; exact ⟨a', rfl, [], h3, Reps.nil⟩)⟩
              · obtain ⟨a, u, ea, eu, ei, hu, ru, tu⟩ := hg j hj
                have ej : as.getD j 0 = a := by rw [List.getD_eq_getElem?_getD, ea]; rfl
                rw [z2] at hall
                have e3 := vals_inj hall ru
                refine ⟨.ref a', H, I.kept (t' := tk) hk, rfl, k.now r ?_⟩
                simp only [Rep]
                exact ⟨a', rfl, u, by rw [z1]; dsimp only; rw [ej]; exact hu, by rw [← e3]; exact hf⟩
              · obtain ⟨o, ho, hcl, n, hd⟩ := ht'
                have new : ObjOk X.prog X.w (upd H a' (.tup uss.flatten)) h' a' (.tup uss.flatten) := ⟨by rw [← hf.length]; exact hz, vs', hall, ⟨o, ho, hcl, n, hd⟩⟩
                exact ⟨.ref a', _, I.laid (t' := tk) hk z new, rfl, k.tup r hf (I.hok.fresh z)⟩
      · cases e
    · cases e
  · cases e
end
theorem ev_sumT {gs : List (List D)} {st : Store} {Q : D → Store → Prop} (hz : gs.flatten.length ≤ sizeLine) (k : Q (.tup gs.flatten) st) : EvF fSumT [.tup (gs.map .tup), .tup []] st Q := by
  refine ⟨.tup gs.flatten, st, ?_, k⟩
  simp only [fSumT, ro, rowsT2_map, if_pos hz]
  rfl
end My

namespace My
open PySem PySem.Spec PyProof.Rows L2
local macro_rules | `(tactic| walk_at "ev") => `(tactic| try simp only [ev_gen, ev_trg1, ev_var, ev_c, ev_un, ev_op, ev_nil, ev_cons, ev_call, ev_callD, ev_callN, ev_callK, ev_opM, ev_lcM, ev_lz, ev_dcT, ev_lrg1, ev_lrg2, ev_trg1, ev_trg2, ev_zipM, ev_callO, ev_star, ev_newN, pick0, pick1, pick2, ev_ifW, ev_named, ev_tup, ev_lst, ev_lstM, ev_dkM, ev_dtM, ev_bE, ev_bAnd, ev_bOr, ev_bNot, ev_bYes, ev_eAnd, ev_eOr, ev_eNot, ev_if, ev_chain, ev_oNone, ev_oSome, ev_sl, ev_bm, ev_skip, ev_brk, ev_cnt, ev_seq, then_nx, then_rt, then_bk, then_ct, ev_set, ev_asg, ev_par, ev_par3, ev_ret, ev_drop, ev_sIf, ev_aug, ev_sub, ev_seqI, ev_fld, ev_fldM, ev_meth, ev_new, ev_newK, ev_enum, ev_zip, ev_range1, ev_range2, ev_for, ev_lc, enter, gNm, gsNil, gsCons, gTp, wipeE,
  List.map_cons, List.map_nil, List.length_cons, List.length_nil, List.replicate, List.cons_append, List.nil_append, List.append_nil, List.getElem?_cons_zero, List.getElem?_cons_succ, List.set_cons_zero, List.set_cons_succ, Option.some.injEq, exists_eq_left', exists_eq_left, D.bl.injEq, D.int.injEq, D.str.injEq, D.tup.injEq, D.lst.injEq, D.ref.injEq, decide_eq_true_eq, List.cons.injEq, and_true, true_and, if_true, if_false, reduceCtorEq, Bool.false_eq_true, ite_true, ite_false, Nat.sub_self, Nat.reduceAdd, Nat.reduceSub, Nat.zero_add, exists_and_left, exists_const, Bool.not_true, Bool.not_false, Bool.not_eq_true', exists_eq_right, and_assoc, List.length_set, exists_eq_right',
  add_int, addI_int, sub_int, neg_int, lt_int, le_int, gt_int, ge_int, eq_int, ne_int, eq_str, ne_str, eq_bl, ne_bl, eq_is, eq_si, ne_is, ne_si, is_nn, ix_tup, ix_lst, ix_scr, at_0, at_1, at_2, at_3, len_tup, len_lst, len_scr, outF, outK, ev_len_tup, ev_len_lst, ev_len_scr, ev_abs, ev_int, ev_intb, ev_max2, ev_min2, ev_tuple_lst, ev_tuple_tup, ev_list_lst, ev_list_tup, sz0, sz1, sz2, sz3, sz4, sz5, sz6, sz7, sz8, sz9, sz10, sz11, sz12, s_rl, s_lr, atI_last, decide_false, decide_true, Bool.or_false, Bool.false_or])
local macro_rules | `(tactic| walk_at "st") => `(tactic| try simp only [List.append_assoc, List.cons_append, List.nil_append, List.length_append, List.length_cons, List.length_nil, Nat.reduceAdd, Nat.add_assoc])
/- _law_right: 0:_law_box_here, 1:_law_book_here, 2:_law_tale_here, 3:_law_before, 4:_law_many, 5:_law_whole, 6:_law_lines, 7:_law_deed, 8:_law_one, 9:_law_at -/
noncomputable def mb_Lright : SM :=
(sSeq (sSet 2 (eCallD 5 mf_Ltale [] (aCons (eVar 0) (aCons (eVar 1) (aCons (eOp dPow (eC (.int 10)) (eC (.int 6))) (aCons (eCallD 2 mf_Lof [] (aCons (eVar 0) (aCons (eLst (aCons (eC (.int 0)) (aCons (eOp dPow (eC (.int 10)) (eC (.int 6))) aNil))) aNil))) (aCons (eCallD 2 mf_Lof [] (aCons (eVar 0) (aCons (eLst (aCons (eC (.int 0)) (aCons (eC (.int 3)) (aCons (eC (.int 20)) (aCons (eC (.int 80)) aNil))))) aNil))) aNil)))))))
(sSeq (sSet 3 (eCall fRepr (aCons (eVar 2) aNil)))
(sSeq (sFor (iSeq (eTup (aCons (eC (.int 0)) (aCons (eC (.int 1)) (aCons (eC (.int 2)) (aCons (eCallD 2 mf_Ltake [] (aCons (eVar 0) (aCons (eC (.int 6)) aNil))) (aCons (eC (.int 30)) (aCons (eOp dPow (eC (.int 10)) (eC (.int 18))) aNil)))))))) (gNm 4)
(sIf (bE (eOp dNe (eCall fRepr (aCons (eCallD 3 mf_files_of [] (aCons (eVar 1) (aCons (eVar 4) (aCons (eVar 2) aNil)))) aNil)) (eCall fRepr (aCons (eOp dIx (eCallD 3 mf_Lrun [] (aCons (eVar 1) (aCons (eVar 4) (aCons (eVar 2) aNil)))) (eC (.int 0))) aNil))))
(sRet (eC (.bl false)))
sSkip))
(sSeq (sAsg (eTup (aCons (eCallD 3 mf_files_of [] (aCons (eVar 1) (aCons (eOp dPow (eC (.int 10)) (eC (.int 18))) (aCons (eVar 2) aNil)))) (aCons (eLc (iSeq (eVar 2)) (gNm 7) (bE (eOp dNotIn (eVar 7) (eTup (aCons (eC (.str "look")) (aCons (eC (.str "rotate")) aNil))))) (eVar 7) [7]) aNil))) (gTp 2 (gsCons (gNm 5) (gsCons (gNm 6) gsNil))))
(sSeq (sIf (bOr (bE (eOp dNe (eCall fLen (aCons (eVar 5) aNil)) (eOp dAdd (eCallD 2 mf_rotations [] (aCons (eVar 1) (aCons (eVar 2) aNil))) (eC (.int 1))))) (bE (eOp dNe (eCall fSumT (aCons (eVar 5) (aCons (eTup aNil) aNil))) (eTrg1 (eCall fLen (aCons (eVar 6) aNil))))))
(sRet (eC (.bl false)))
sSkip)
(sRet (eAnd (eCall fAll (aCons (eLc (iSeq (eVar 5)) (gNm 8) bYes (eOp dLe (eCall fSum (aCons (eLc (iSeq (eVar 8)) (gNm 9) bYes (eOp dIx (eVar 6) (eVar 9)) [9]) aNil)) (eOp dIx (eVar 1) (eC (.int 0)))) [8]) aNil)) (eOp dEq (eCall fRepr (aCons (eVar 2) aNil)) (eVar 3)))))))))
noncomputable def mf_Lright : FM := mkF 10 mb_Lright

/- law: 0:_law_script, 1:_law_k, 2:_law_box_here, 3:_law_turn -/
noncomputable def mb_law : SM :=
(sSeq (sFor (iRange1 (eCall fMax (aCons (eC (.int 1)) (aCons (eCall fMin (aCons (eC (.int 3)) (aCons (eCall fLen (aCons (eVar 0) aNil)) aNil))) aNil)))) (gNm 1)
(sSeq (sSet 2 (eCallD 2 mf_Lbox [] (aCons (eVar 0) (aCons (eVar 1) aNil))))
(sIf (bNot (bE (eCall fAll (aCons (eLc (iRange1 (eC (.int 10))) (gNm 3) bYes (eCallD 2 mf_Lright [] (aCons (eVar 2) (aCons (eCallD 2 mf_Lbook [] (aCons (eVar 2) (aCons (eC (.int 100)) aNil))) aNil))) [3]) aNil))))
(sRet (eC (.bl false)))
sSkip)))
(sRet (eAnd (eOp dEq (eCallD 3 mf_files_of [] (aCons (eTup (aCons (eC (.int 5)) (aCons (eTup (aCons (eC (.int 2)) aNil)) aNil))) (aCons (eC (.int 3)) (aCons (eTup aNil) aNil)))) (eTup (aCons (eTup aNil) aNil))) (eOp dEq (eCallD 3 mf_files_of [] (aCons (eTup (aCons (eC (.int 5)) (aCons (eTup (aCons (eC (.int 2)) aNil)) aNil))) (aCons (eC (.int 1)) (aCons (eOp dMul (eTup (aCons (eC (.str "rotate")) aNil)) (eC (.int 4))) aNil)))) (eTup (aCons (eTup aNil) (aCons (eTup aNil) aNil)))))))
noncomputable def mf_law : FM := mkF 4 mb_law

theorem all_yesF {α : Type} : ∀ xs : List α, (xs.map fun _ => D.bl true) = (xs.map fun _ => true).map D.bl := fun xs => by rw [List.map_map]; rfl
theorem all_trueF {α : Type} : ∀ xs : List α, (xs.map fun _ => true).all id = true := fun xs => by induction xs <;> simp_all
theorem notin_ev {e : Ev} {st : Store} : dNotIn e.D (.tup [.str "look", .str "rotate"]) st = some (.bl (match e with | .line _ => true | _ => false)) := by
  cases e with
  | line l => rfl
  | look => rfl
  | rot => rfl
theorem lines_filter : ∀ es : List Ev, (es.filter fun e => match e with | .line _ => true | _ => false).map Ev.D = (linesE es).map D.int
  | [] => rfl
  | .line l :: es => by
    show D.int l :: _ = D.int l :: _
    rw [lines_filter es]
  | .look :: es => lines_filter es
  | .rot :: es => lines_filter es
theorem ne_intsF {ns ms : List Int} {st : Store} : dNe (.tup (ns.map .int)) (.tup (ms.map .int)) st = some (.bl (!decide (ns = ms))) := by
  have h := eq_ints (ns := ns) (ms := ms) (st := st)
  unfold dEq at h
  unfold dNe
  cases hq : eqB (.tup (ns.map .int)) (.tup (ms.map .int)) st with
  | none => rw [hq] at h; cases h
  | some c =>
    rw [hq] at h
    cases h
    rfl
theorem le_sumF : ∀ {xs : List Nat} {x : Nat}, x ∈ xs → x ≤ xs.sum
  | [], _, h => absurd h (by simp)
  | y :: ys, x, h => by
    rw [List.sum_cons]
    rcases List.mem_cons.mp h with rfl | h
    · omega
    · have := le_sumF h
      omega
def FilesOk (n : Nat) (fs : List (List Int)) : Prop := fs.length ≤ n + 1 ∧ ∀ f ∈ fs, f.length ≤ n ∧ ∀ i ∈ f, 0 ≤ i ∧ i < (n : Int)
theorem files_ok {S : Int} {M : Nat} {es : List Ev} {n : Nat} (hn : es.length ≤ n) : FilesOk n (RS.run S M es).files := by
  have h := RS.Ok.run S M es
  have hp := h.pl
  unfold RS.files
  refine ⟨by rw [List.length_append, List.length_map, List.length_singleton]; have := h.o2; omega, fun f hf => ?_⟩
  rcases List.mem_append.mp hf with hf | hf
  · obtain ⟨g, hg, rfl⟩ := List.mem_map.mp hf
    refine ⟨?_, fun i hi => ?_⟩
    · have h1 : g.1.length ≤ RS.cnt (RS.run S M es).old := by
        unfold RS.cnt
        exact le_sumF (List.mem_map.mpr ⟨g, hg, rfl⟩)
      have := h.tot
      omega
    · have := h.fs g hg i hi
      omega
  · rw [List.mem_singleton.mp hf]
    refine ⟨by have := h.tot; omega, fun i hi => ?_⟩
    have := h.cs i hi
    omega
theorem RP.files {n : Nat} {fs : List (List Int)} (h : FilesOk n fs) (hn : n ≤ 99) : RP (101 * ((100 * (2 + 1 + 2) + 3) + 2) + 3) 2 (filesD fs) (.tuple (fs.map fun f => PyData.tuple (f.map .int))) :=
  RP.tupM (fun f hf => RP.ints 2 100 (fun i hi => by have := (h.2 f hf).2 i hi; omega) (by have := (h.2 f hf).1; omega)) (by have := h.1; omega)
def K27I (st : Store) (b : Nat) (c bk h sh : D) (_ : Nat) (env : Env) (s : Store) : Prop := s = st.set b c ∧ ∃ x4 x5 x6 x7 x8 x9, env = [some (.ref b), some bk, some h, some sh, x4, x5, x6, x7, x8, x9]
theorem ev_right {st : Store} {b n : Nat} {c : D} {S : Int} {ls : List Int} {Q : D → Store → Prop} (hb : st[b]? = some c) (hc : BoxC n c) (hn : n + 3000 < 2 ^ 40) (R : Rules S ls)
    (k : ∀ c', BoxC (n + 2010) c' → Q (.bl true) (st.set b c')) : EvF mf_Lright [.ref b, .tup [.int S, .tup (ls.map .int)]] st Q := by
  have hlt : b < st.length := (List.getElem?_eq_some_iff.mp hb).1
  rw [mf_Lright, ev_mkF]
  unfold mb_Lright
  generalize hA : (sSeq (sAsg (eTup (aCons (eCallD 3 mf_files_of [] (aCons (eVar 1) (aCons (eOp dPow (eC (.int 10)) (eC (.int 18))) (aCons (eVar 2) aNil)))) (aCons (eLc (iSeq (eVar 2)) (gNm 7) (bE (eOp dNotIn (eVar 7) (eTup (aCons (eC (.str "look")) (aCons (eC (.str "rotate")) aNil))))) (eVar 7) [7]) aNil))) (gTp 2 (gsCons (gNm 5) (gsCons (gNm 6) gsNil)))) (sSeq (sIf (bOr (bE (eOp dNe (eCall fLen (aCons (eVar 5) aNil)) (eOp dAdd (eCallD 2 mf_rotations [] (aCons (eVar 1) (aCons (eVar 2) aNil))) (eC (.int 1))))) (bE (eOp dNe (eCall fSumT (aCons (eVar 5) (aCons (eTup aNil) aNil))) (eTrg1 (eCall fLen (aCons (eVar 6) aNil)))))) (sRet (eC (.bl false))) sSkip) (sRet (eAnd (eCall fAll (aCons (eLc (iSeq (eVar 5)) (gNm 8) bYes (eOp dLe (eCall fSum (aCons (eLc (iSeq (eVar 8)) (gNm 9) bYes (eOp dIx (eVar 6) (eVar 9)) [9]) aNil)) (eOp dIx (eVar 1) (eC (.int 0)))) [8]) aNil)) (eOp dEq (eCall fRepr (aCons (eVar 2) aNil)) (eVar 3)))))) = A
  generalize hF : (sFor (iSeq (eTup (aCons (eC (.int 0)) (aCons (eC (.int 1)) (aCons (eC (.int 2)) (aCons (eCallD 2 mf_Ltake [] (aCons (eVar 0) (aCons (eC (.int 6)) aNil))) (aCons (eC (.int 30)) (aCons (eOp dPow (eC (.int 10)) (eC (.int 18))) aNil)))))))) (gNm 4) (sIf (bE (eOp dNe (eCall fRepr (aCons (eCallD 3 mf_files_of [] (aCons (eVar 1) (aCons (eVar 4) (aCons (eVar 2) aNil)))) aNil)) (eCall fRepr (aCons (eOp dIx (eCallD 3 mf_Lrun [] (aCons (eVar 1) (aCons (eVar 4) (aCons (eVar 2) aNil)))) (eC (.int 0))) aNil)))) (sRet (eC (.bl false))) sSkip)) = F0
  walk_at "ev"
  have s1 := R.s1
  have s2 := R.s2
  have w6 : CPowW 10 6 := ⟨by decide, by decide +kernel⟩
  have p6 : ∀ s : Store, dPow (.int 10) (.int 6) s = some (.int 1000000) := fun s => (if_pos w6).trans (congrArg (fun z => some (D.int z)) (by decide +kernel))
  have w18 : CPowW 10 18 := ⟨by decide, by decide +kernel⟩
  have p18 : ∀ s : Store, dPow (.int 10) (.int 18) s = some (.int 1000000000000000000) := fun s => (if_pos w18).trans (congrArg (fun z => some (D.int z)) (by decide +kernel))
  refine ⟨_, p6 _, _, p6 _, ?_⟩
  refine ev_of hb hc (by omega) (.inl rfl) (blws_cons blw_int (blws_cons blw_int blws_nil)) (by simp) (by show 2 < 2 ^ 60; decide) fun v1 c1 hv1 B1 => ?_
  obtain ⟨often, rfl, b0⟩ : ∃ often : Int, v1 = .int often ∧ 0 ≤ often := by
    simp only [List.mem_cons, List.not_mem_nil, or_false] at hv1
    rcases hv1 with rfl | rfl
    · exact ⟨_, rfl, by omega⟩
    · exact ⟨_, rfl, by omega⟩
  refine ev_of (cell_b0 hlt) B1 (by omega) (.inl rfl) (blws_cons blw_int (blws_cons blw_int (blws_cons blw_int (blws_cons blw_int blws_nil)))) (by simp) (by show 4 < 2 ^ 60; decide) fun v3 c3 hv3 B3 => ?_
  obtain ⟨many, rfl, n0, n1⟩ : ∃ bound : Int, v3 = .int bound ∧ 0 ≤ bound ∧ bound ≤ 80 := by
    simp only [List.mem_cons, List.not_mem_nil, or_false] at hv3
    rcases hv3 with rfl | rfl | rfl | rfl <;> exact ⟨_, rfl, by decide, by decide⟩
  rw [put_b0]
  refine ev_tale (cell_b0 hlt) B3 (by omega) R (by decide) b0 n0 (by omega) fun es c4 ko kl kt B4 => ?_
  rw [put_b0]
  have hl : es.length ≤ 80 := by omega
  have rpT : RP (80 * (62 + 2) + 3) 1 (.tup (es.map Ev.D)) (.tuple (es.map Ev.d)) := RP.tupM (fun e he => RP.ev (ko e he) (fun l hl => by have := R.mem l hl; omega)) hl
  refine ev_repr rpT (by decide) (by decide) ?_
  rw [← hF]
  generalize hQ : thenS A _ = QR
  walk_at "ev"
  refine ev_take (cell_b0 hlt) B4 (by omega) (by omega) (by omega) fun tn c5 t0 t1 B5 => ?_
  rw [put_b0]
  refine ⟨_, p18 _, ?_⟩
  have ex : [D.int 0, D.int 1, D.int 2, D.int tn, D.int 30, D.int 1000000000000000000] = ([0, 1, 2, tn, 30, 1000000000000000000] : List Int).map D.int := by simp only [List.map_cons, List.map_nil]
  have nn : ∀ x ∈ ([0, 1, 2, tn, 30, 1000000000000000000] : List Int), 0 ≤ x := by
    intro x m
    simp only [List.mem_cons, List.not_mem_nil, or_false] at m
    rcases m with rfl | rfl | rfl | rfl | rfl | rfl <;> omega
  rw [ex]
  generalize ([0, 1, 2, tn, 30, 1000000000000000000] : List Int) = xs at nn
  generalize hE : D.str (PyData.tuple (List.map Ev.d es)).shown = sh
  refine for_inv (K27I st b c5 (.tup [.int S, .tup (ls.map .int)]) (.tup (es.map Ev.D)) sh) ⟨rfl, _, _, _, _, _, _, rfl⟩ (fun _ _ _ _ _ => trivial) ?_ ?_
  · rintro i hi env s ⟨rfl, x4, x5, x6, x7, x8, x9, rfl⟩
    rw [List.length_map] at hi
    refine ⟨_, rfl, ?_⟩
    rw [List.getElem_map]
    have hx := nn _ (List.getElem_mem hi)
    generalize xs[i] = M0 at hx
    obtain ⟨M, rfl⟩ := Int.eq_ofNat_of_zero_le hx
    have rpF := RP.files (files_ok (S := S) (M := M) hl) (by decide)
    walk_at "ev"
    refine ev_files_of (by omega) ?_
    refine ev_repr rpF (by decide) (by decide) ?_
    refine ev_run (by omega) fun X Y _ _ => ?_
    have e0 : D.tup ((RS.run S M es).old.map (fun f => D.tup (f.1.map .int)) ++ [.tup ((RS.run S M es).cur.map .int)]) = filesD (RS.run S M es).files := by
      unfold filesD RS.files
      rw [List.map_append, List.map_map]
      rfl
    rw [e0]
    refine ⟨_, at_0, ?_⟩
    refine ev_repr rpF (by decide) (by decide) ?_
    refine ⟨_, ne_str, _, rfl, ?_⟩
    rw [decide_eq_true rfl, if_neg (by decide)]
    exact ⟨rfl, _, _, _, _, _, _, rfl⟩
  · rintro env s ⟨rfl, x4, x5, x6, x7, x8, x9, rfl⟩
    rw [← hQ, ← hA]
    generalize hB : (sSeq (sIf (bOr (bE (eOp dNe (eCall fLen (aCons (eVar 5) aNil)) (eOp dAdd (eCallD 2 mf_rotations [] (aCons (eVar 1) (aCons (eVar 2) aNil))) (eC (.int 1))))) (bE (eOp dNe (eCall fSumT (aCons (eVar 5) (aCons (eTup aNil) aNil))) (eTrg1 (eCall fLen (aCons (eVar 6) aNil)))))) (sRet (eC (.bl false))) sSkip) (sRet (eAnd (eCall fAll (aCons (eLc (iSeq (eVar 5)) (gNm 8) bYes (eOp dLe (eCall fSum (aCons (eLc (iSeq (eVar 8)) (gNm 9) bYes (eOp dIx (eVar 6) (eVar 9)) [9]) aNil)) (eOp dIx (eVar 1) (eC (.int 0)))) [8]) aNil)) (eOp dEq (eCall fRepr (aCons (eVar 2) aNil)) (eVar 3))))) = B
    walk_at "ev"
    refine ⟨_, p18 _, ?_⟩
    refine ev_files_of (M := 1000000000000000000) (by omega) ?_
    refine lc_mapM (fun e : Ev => match e with | .line _ => true | _ => false) Ev.D trivial ?_ ?_
    · intro e me
      refine ⟨_, rfl, ?_⟩
      walk_at "ev"
      rw [notin_ev]
      exact ⟨_, rfl, _, rfl, rfl, fun _ => trivial⟩
    · rw [lines_filter]
      refine ⟨Nat.le_trans (show _ ≤ 1000 by rw [List.length_map]; have := linesE_len es; omega) (by decide), ?_⟩
      have W := whole_of (M := 1000000000000000000) (fun l hl => (R.mem l hl).2) (by omega) ko (by omega)
      have hfo := files_ok (S := S) (M := 1000000000000000000) (es := es) (n := (linesE es).length)
      have hfa : ∀ f ∈ (RS.run S 1000000000000000000 es).files, f.length ≤ 80 ∧ ∀ i ∈ f, 0 ≤ i ∧ i < ((linesE es).length : Int) := fun f hf => by
        have h1 := (files_ok (S := S) (M := 1000000000000000000) hl).2 f hf
        refine ⟨h1.1, fun i hi => ?_⟩
        have h2 := W.pl
        have h3 := RS.Ok.run S 1000000000000000000 es
        unfold RS.files at hf
        rcases List.mem_append.mp hf with hf | hf
        · obtain ⟨g, hg, rfl⟩ := List.mem_map.mp hf
          have := h3.fs g hg i hi
          omega
        · rw [List.mem_singleton.mp hf] at hi
          have := h3.cs i hi
          omega
      have hflen : (RS.run S 1000000000000000000 es).files.length ≤ 81 := (files_ok (S := S) (M := 1000000000000000000) hl).1
      clear hfo
      generalize RS.run S 1000000000000000000 es = r at W hfa hflen
      have ef : filesD r.files = .tup ((r.files.map fun f => f.map D.int).map .tup) := by unfold filesD; rw [List.map_map]; rfl
      have efl : (r.files.map fun f => f.map D.int).flatten = (r.files.flatten).map D.int := by rw [List.map_flatten]
      have hfl : (r.files.length : Int) = (rots S es).2 + 1 := by
        unfold RS.files
        rw [List.length_append, List.length_map, List.length_singleton, ← W.n]
        omega
      have hnl := linesE_len es
      have hit : intsTo 0 (linesE es).length = ((List.range (linesE es).length).map fun i => ((i : Nat) : Int)).map D.int := by
        unfold intsTo
        rw [List.map_map]
        exact List.map_congr_left fun i _ => by show D.int (0 + (i : Int)) = D.int (i : Int); rw [Int.zero_add]
      rw [ef, ← hB]
      generalize hC : (sRet (eAnd (eCall fAll (aCons (eLc (iSeq (eVar 5)) (gNm 8) bYes (eOp dLe (eCall fSum (aCons (eLc (iSeq (eVar 8)) (gNm 9) bYes (eOp dIx (eVar 6) (eVar 9)) [9]) aNil)) (eOp dIx (eVar 1) (eC (.int 0)))) [8]) aNil)) (eOp dEq (eCall fRepr (aCons (eVar 2) aNil)) (eVar 3)))) = C
      walk_at "ev"
      rw [List.length_map, List.length_map]
      refine ev_rotations ⟨_, add_int, _, ne_int, _, rfl, ?_⟩
      rw [List.length_map, hfl, decide_eq_true rfl, if_neg (by decide)]
      refine ev_sumT (by rw [efl, List.length_map, W.fl, List.length_map, List.length_range]; exact Nat.le_trans (show _ ≤ 1000 by omega) (by decide)) ?_
      rw [efl, W.fl, Int.toNat_natCast, hit]
      refine ⟨⟨by omega, by omega, by omega, by omega, by rw [Int.sub_zero, Int.toNat_natCast]; exact Nat.le_trans (show _ ≤ 80 by omega) (by decide)⟩, _, ne_intsF, _, rfl, ?_⟩
      rw [decide_eq_true rfl, if_neg (by decide)]
      rw [← hC]
      walk_at "ev"
      rw [List.map_map]
      refine lc_mapM (fun _ => true) (fun f : List Int => .bl (decide (sumAt (linesE es) f ≤ S))) trivial ?_ ?_
      · intro f hf
        refine ⟨_, rfl, ?_⟩
        rw [show (D.tup ∘ fun f : List Int => f.map D.int) f = .tup (f.map D.int) from rfl]
        have hfi : f.length ≤ 80 ∧ ∀ i ∈ f, 0 ≤ i ∧ i < ((linesE es).length : Int) := hfa f hf
        walk_at "ev"
        intro _
        refine lc_mapM (fun _ => true) (fun i : Int => .int ((linesE es).getD i.toNat 0)) trivial ?_ ?_
        · intro i mi
          refine ⟨_, rfl, ?_⟩
          obtain ⟨i0, i1⟩ := hfi.2 i mi
          obtain ⟨n, rfl⟩ := Int.eq_ofNat_of_zero_le i0
          have hn : n < (linesE es).length := by omega
          walk_at "ev"
          refine fun _ => ?_
          have e1 : atI ((linesE es).map D.int) (n : Int) = some (.int ((linesE es).getD n 0)) := atI_nat (j := n) (by
            rw [List.getElem?_map, List.getElem?_eq_getElem hn, List.getD_eq_getElem?_getD, List.getElem?_eq_getElem hn]
            rfl)
          exact e1
        · rw [filter_yes]
          have es2 : (f.map fun i : Int => D.int ((linesE es).getD i.toNat 0)) = (f.map fun i : Int => (linesE es).getD i.toNat 0).map D.int := by rw [List.map_map]; rfl
          rw [es2, ev_sum_lst]
          exact ⟨Nat.le_trans (show _ ≤ 1000 by rw [List.length_map, List.length_map]; omega) (by decide), _, le_int, rfl, rfl⟩
      · rw [filter_yes]
        have hall : ∀ f ∈ r.files, decide (sumAt (linesE es) f ≤ S) = true := fun f hf => by
          unfold RS.files at hf
          rcases List.mem_append.mp hf with hf | hf
          · obtain ⟨g, hg, rfl⟩ := List.mem_map.mp hf
            exact decide_eq_true (W.os g hg)
          · rw [List.mem_singleton.mp hf, W.cs]
            exact decide_eq_true W.fS
        have eb : (r.files.map fun f => D.bl (decide (sumAt (linesE es) f ≤ S))) = r.files.map fun _ => D.bl true := List.map_congr_left fun f hf => by rw [hall f hf]
        rw [eb, all_yesF, ev_all, all_trueF]
        refine ⟨Nat.le_trans (show _ ≤ 1000 by rw [List.length_map, List.length_map]; omega) (by decide), _, rfl, ?_⟩
        rw [if_pos rfl]
        refine ev_repr rpT (by decide) (by decide) ?_
        rw [← hE]
        refine ⟨_, eq_str, ?_⟩
        rw [decide_eq_true rfl]
        exact fin_set blw_bl B5.blw (k c5 (B5.mono (by omega)))
theorem rp_eq (n : Nat) (hn : n ≤ 5) {st : Store} : dEq (.tup ((List.replicate n ([] : List Int)).map fun f => .tup (f.map .int))) (.tup (List.replicate n (D.tup []))) st = some (.bl true) := by
  have h : RP _ 2 (filesD (List.replicate n [])) _ := RP.files (n := 5) ⟨by rw [List.length_replicate]; omega, fun f hf => by rw [(List.mem_replicate.mp hf).2]; exact ⟨by decide, fun i hi => absurd hi (by simp)⟩⟩ (by decide)
  have e : filesD (List.replicate n []) = .tup (List.replicate n (D.tup [])) := by unfold filesD; rw [List.map_replicate]; rfl
  have h2 := h
  unfold filesD at h
  rw [e] at h2
  rw [eq_tup h h2, h.refl]
theorem law_due (ns : List Int) (hl : ns.length ≤ 63) : EvF mf_law [.scr ns] [] fun d _ => d = .bl true := by
  rw [mf_law, ev_mkF]
  unfold mb_law
  rw [ev_seq]
  refine ev_headA (R := 2100) hl (by decide) (by decide) (by decide) ?_ ?_
  · intro x1 x3 st b c n hb hc hn
    have hlt := up_lt hb
    walk_at "ev"
    refine ev_book hb hc (by omega) (by decide) (by decide) fun S ls c1 R _ B1 => ?_
    refine ev_right (cell_b0 hlt) B1 (by omega) R fun c2 B2 => ?_
    exact ⟨rfl, c2, B2.mono (by omega), put_b0⟩
  · intro x1 x2 x3 st
    walk_at "ev"
    have z1 : EvF mf_files_of [.tup [.int 5, .tup [.int 2]], .int 3, .tup []] st = EvF mf_files_of [.tup [.int 5, .tup [.int 2]], .int ((3 : Nat) : Int), .tup (([] : List Ev).map Ev.D)] st := rfl
    rw [z1]
    refine ev_files_of (by decide) ⟨_, rp_eq 1 (by decide), _, rfl, ?_⟩
    rw [if_pos rfl]
    refine ⟨_, rfl, ?_⟩
    have z2 : ∀ s : Store, EvF mf_files_of [.tup [.int 5, .tup [.int 2]], .int 1, .tup (List.replicate (4 : Int).toNat [D.str (Str.ofString "rotate")]).flatten] s = EvF mf_files_of [.tup [.int 5, .tup [.int 2]], .int ((1 : Nat) : Int), .tup ([.rot, .rot, .rot, .rot].map Ev.D)] s := fun _ => rfl
    rw [z2]
    refine ev_files_of (by decide) ⟨_, rp_eq 2 (by decide), ?_⟩
    exact fin_tree blw_bl (fun i hi => absurd hi (Nat.not_lt_zero _)) rfl
end My

namespace My
open PySem PySem.Spec PyProof.Rows L2
def top (i : Nat) : Stmt := PySem.Challenge.pw_rotatedlogs_k27_files_of_a_history.main.body.getD i (.Pass ⟨0, 0, 0, 0⟩)
abbrev s_Ltake : Stmt := top 9
abbrev N_Ltake : List Str := ["_law_box_here", "_law_many", "_law_digit", "_law_mixed"]
theorem sc_Ltake : FnScope N_Ltake ["_law_box_here", "_law_many"] (defScope s_Ltake) := ⟨rfl, rfl, rfl, by decide +kernel, rfl, by decide +kernel, by decide +kernel⟩
abbrev s_Lof : Stmt := top 10
abbrev N_Lof : List Str := ["_law_box_here", "_law_some"]
theorem sc_Lof : FnScope N_Lof ["_law_box_here", "_law_some"] (defScope s_Lof) := ⟨rfl, rfl, rfl, by decide +kernel, rfl, by decide +kernel, by decide +kernel⟩
abbrev s_Lbook : Stmt := top 11
abbrev N_Lbook : List Str := ["_law_box_here", "_law_top", "_law_size", "_law_found", "_law_turn", "_law_some"]
theorem sc_Lbook : FnScope N_Lbook ["_law_box_here", "_law_top"] (defScope s_Lbook) := ⟨rfl, rfl, rfl, by decide +kernel, rfl, by decide +kernel, by decide +kernel⟩
abbrev s_Lbox : Stmt := top 8
abbrev N_Lbox : List Str := ["_law_script", "_law_k", "_law_cell", "_law_own"]
theorem sc_Lbox : FnScope N_Lbox ["_law_script", "_law_k"] (defScope s_Lbox) := ⟨rfl, rfl, rfl, by decide +kernel, rfl, by decide +kernel, by decide +kernel⟩
abbrev s_Lrun : Stmt := top 12
abbrev N_Lrun : List Str := ["_law_book_here", "_law_many", "_law_tale_here", "_law_files", "_law_places", "_law_gone", "_law_fill", "_law_here", "_law_turns_here", "_law_deed", "_law_numbers", "_law_begun", "_law_held", "_law_shown", "_law_number", "_law_is_new"]
theorem sc_Lrun : FnScope N_Lrun ["_law_book_here", "_law_many", "_law_tale_here"] (defScope s_Lrun) := ⟨rfl, rfl, rfl, by decide +kernel, rfl, by decide +kernel, by decide +kernel⟩
abbrev s_Ltale : Stmt := top 13
abbrev N_Ltale : List Str := ["_law_box_here", "_law_book_here", "_law_bound", "_law_often", "_law_many", "_law_tale_here", "_law_spent", "_law_hands", "_law_turn", "_law_way", "_law_line"]
theorem sc_Ltale : FnScope N_Ltale ["_law_box_here", "_law_book_here", "_law_bound", "_law_often", "_law_many"] (defScope s_Ltale) := ⟨rfl, rfl, rfl, by decide +kernel, rfl, by decide +kernel, by decide +kernel⟩
abbrev s_is_rotated : Stmt := top 2
abbrev N_is_rotated : List Str := ["rules", "fill", "event"]
theorem sc_is_rotated : FnScope N_is_rotated ["rules", "fill", "event"] (defScope s_is_rotated) := ⟨rfl, rfl, rfl, by decide +kernel, rfl, by decide +kernel, by decide +kernel⟩
abbrev s_fill_behind : Stmt := top 3
abbrev N_fill_behind : List Str := ["rules", "fill", "event", "left"]
theorem sc_fill_behind : FnScope N_fill_behind ["rules", "fill", "event"] (defScope s_fill_behind) := ⟨rfl, rfl, rfl, by decide +kernel, rfl, by decide +kernel, by decide +kernel⟩
abbrev s_walk : Stmt := top 5
abbrev N_walk : List Str := ["rules", "kept", "history", "fill", "number", "files", "event"]
theorem sc_walk : GSc N_walk ["rules", "kept", "history"] (defScope s_walk) := ⟨⟨rfl, rfl, rfl, by decide +kernel, rfl, by decide +kernel, by decide +kernel⟩, by decide +kernel⟩
abbrev s_files_of : Stmt := top 6
abbrev N_files_of : List Str := ["rules", "kept", "history", "files", "event", "behind"]
theorem sc_files_of : FnScope N_files_of ["rules", "kept", "history"] (defScope s_files_of) := ⟨rfl, rfl, rfl, by decide +kernel, rfl, by decide +kernel, by decide +kernel⟩
abbrev s_rotations : Stmt := top 4
abbrev N_rotations : List Str := ["rules", "history", "fill", "count", "event"]
theorem sc_rotations : FnScope N_rotations ["rules", "history"] (defScope s_rotations) := ⟨rfl, rfl, rfl, by decide +kernel, rfl, by decide +kernel, by decide +kernel⟩
abbrev s_Lright : Stmt := top 14
abbrev N_Lright : List Str := ["_law_box_here", "_law_book_here", "_law_tale_here", "_law_before", "_law_many", "_law_whole", "_law_lines", "_law_deed", "_law_one", "_law_at"]
theorem sc_Lright : FnScope N_Lright ["_law_box_here", "_law_book_here"] (defScope s_Lright) := ⟨rfl, rfl, rfl, by decide +kernel, rfl, by decide +kernel, by decide +kernel⟩
abbrev s_law : Stmt := top 15
abbrev N_law : List Str := ["_law_script", "_law_k", "_law_box_here", "_law_turn"]
theorem sc_law : FnScope N_law ["_law_script"] (defScope s_law) := ⟨rfl, rfl, rfl, by decide +kernel, rfl, by decide +kernel, by decide +kernel⟩
structure Txt (K : PySem.W.Frag) (mg : Str → Option Value) : Prop where
  d_Ltake : Df K mg "_law_take" s_Ltake ["_law_box_here", "_law_many"]
  d_Lof : Df K mg "_law_of" s_Lof ["_law_box_here", "_law_some"]
  d_Lbook : Df K mg "_law_book" s_Lbook ["_law_box_here", "_law_top"]
  d_Lbox : Df K mg "_law_box" s_Lbox ["_law_script", "_law_k"]
  d_Lrun : Df K mg "_law_run" s_Lrun ["_law_book_here", "_law_many", "_law_tale_here"]
  d_Ltale : Df K mg "_law_tale" s_Ltale ["_law_box_here", "_law_book_here", "_law_bound", "_law_often", "_law_many"]
  d_is_rotated : Df K mg "is_rotated" s_is_rotated ["rules", "fill", "event"]
  d_fill_behind : Df K mg "fill_behind" s_fill_behind ["rules", "fill", "event"]
  d_walk : Df K mg "walk" s_walk ["rules", "kept", "history"]
  d_files_of : Df K mg "files_of" s_files_of ["rules", "kept", "history"]
  d_rotations : Df K mg "rotations" s_rotations ["rules", "history"]
  d_Lright : Df K mg "_law_right" s_Lright ["_law_box_here", "_law_book_here"]
  n_len : mg "len" = none
  n_tuple : mg "tuple" = none
  n_sorted : mg "sorted" = none
  n_range : mg "range" = none
  n_max : mg "max" = none
  n_abs : mg "abs" = none
  n_int : mg "int" = none
  n_isinstance : mg "isinstance" = none
  n_repr : mg "repr" = none
  n_all : mg "all" = none
  n_sum : mg "sum" = none
  n_min : mg "min" = none
  c_ROTATE : ∃ t : Tok, mg "ROTATE" = some (Value.str "rotate" t)

section
variable {P : Program} {w : World} {K : PySem.W.Frag} {mg : Str → Option Value} {base : Heap}
theorem ok_Ltake {f : Addr} {fd : FuncData} (T : Txt K mg) (F : Fun K "_law_take" "_law_take" s_Ltake f fd) : FnOk P w K mg base CX0 1 f fd ["_law_box_here", "_law_many"] (spM (wd K mg) 2 mf_Ltake) := by
  have nd := sc_Ltake.nd
  refine jd (W := wd K mg) F sc_Ltake (fun cdv A out s H E hr => ?_)
  have hK : K = (wd K mg).K := rfl
  unfold mb_Ltake
  exact (jb_cons (js_if (jt_cmp jo_gt (j_ix (ji_ix hK (hu_of hr)) (jv 0) j_int (fun _ _ => rfl)) j_int (nomark _))
(jb_cons (js_set (i := 2) nd rfl (Or.inl rfl) (j_op jo_mod (j_ix (ji_ix hK (hu_of hr)) (jv 0) j_int (fun _ _ => rfl)) (jv 1)))
(jb_cons (js_sub (j_op jo_fdiv (j_ix (ji_ix hK (hu_of hr)) (jv 0) j_int (fun _ _ => rfl)) (jv 1)) (jv 0) j_int (jp_set (hu_of hr)))
(jb_one (js_ret (jv 2)))))
jb_nil)
(jb_cons (js_sub (j_op (jo_add hK) (j_ix (ji_ix hK (hu_of hr)) (jv 0) j_int (fun _ _ => rfl)) j_int) (jv 0) j_int (jp_set (hu_of hr)))
(jb_cons (js_set (i := 3) nd rfl (Or.inl rfl) (j_op jo_mod (j_op (jo_mul hK) (j_op (jo_add hK) (j_op (jo_add hK) (j_ix (ji_ix hK (hu_of hr)) (jv 0) j_int (fun _ _ => rfl)) (j_op (jo_mul hK) (j_op (jo_mul hK) j_int (j_ix (ji_ix hK (hu_of hr)) (jv 0) j_int (fun _ _ => rfl))) (j_ix (ji_ix hK (hu_of hr)) (jv 0) j_int (fun _ _ => rfl)))) j_int) j_int) j_int))
(jb_cons (js_set (i := 3) nd rfl (Or.inl rfl) (j_op jo_mod (j_op (jo_mul hK) (jv 3) (j_op (jo_add hK) (j_op jo_mod (jv 3) j_int) (j_op (jo_mul hK) j_int (j_ix (ji_ix hK (hu_of hr)) (jv 0) j_int (fun _ _ => rfl))))) j_int))
(jb_one (js_ret (j_op jo_mod (j_op (jo_add hK) (j_op jo_fdiv (jv 3) j_int) (j_op jo_fdiv (jv 3) j_int)) (jv 1))))))))
theorem ok_Lof {f : Addr} {fd : FuncData} (T : Txt K mg) (F : Fun K "_law_of" "_law_of" s_Lof f fd) : FnOk P w K mg base CX0 2 f fd ["_law_box_here", "_law_some"] (spM (wd K mg) 2 mf_Lof) := by
  have nd := sc_Lof.nd
  obtain ⟨f_Ltake, fd_Ltake, F_Ltake, m_Ltake, b_Ltake⟩ := T.d_Ltake.ex
  have G_Ltake := ok_Ltake (P := P) (w := w) (mg := mg) (base := base) T F_Ltake
  refine jd (W := wd K mg) F sc_Lof (fun cdv A out s H E hr => ?_)
  have hK : K = (wd K mg).K := rfl
  unfold mb_Lof
  exact (jb_one (js_ret (j_ix (ji_ix hK (hu_of hr)) (jv 1) (j_call G_Ltake (hr.mono (by decide)) rfl m_Ltake F_Ltake.kp b_Ltake .nil (fun _ _ => Reps.nil) pass0 (ja_cons (jv 0) (ja_cons (j_callB (jc_len hK) (by rfl) T.n_len (by decide +kernel) (ja_cons (jv 1) ja_nil)) ja_nil))) (fun _ _ => rfl))))
theorem ok_Lbook {f : Addr} {fd : FuncData} (T : Txt K mg) (F : Fun K "_law_book" "_law_book" s_Lbook f fd) : FnOk P w K mg base CX0 3 f fd ["_law_box_here", "_law_top"] (spM (wd K mg) 2 mf_Lbook) := by
  have nd := sc_Lbook.nd
  obtain ⟨f_Ltake, fd_Ltake, F_Ltake, m_Ltake, b_Ltake⟩ := T.d_Ltake.ex
  have G_Ltake := ok_Ltake (P := P) (w := w) (mg := mg) (base := base) T F_Ltake
  obtain ⟨f_Lof, fd_Lof, F_Lof, m_Lof, b_Lof⟩ := T.d_Lof.ex
  have G_Lof := ok_Lof (P := P) (w := w) (mg := mg) (base := base) T F_Lof
  refine jd (W := wd K mg) F sc_Lbook (fun cdv A out s H E hr => ?_)
  have hK : K = (wd K mg).K := rfl
  unfold mb_Lbook
  exact (jb_cons (js_par (i := 2) (j := 3) rfl nd rfl rfl (by decide) rfl rfl (ja_cons (j_op (jo_add hK) j_int (j_call G_Ltake (hr.mono (by decide)) rfl m_Ltake F_Ltake.kp b_Ltake .nil (fun _ _ => Reps.nil) pass0 (ja_cons (jv 0) (ja_cons (jv 1) ja_nil)))) (ja_cons j_dkM ja_nil)) (by rfl))
(jb_cons (js_for PassesOwn.never rfl (ji_range1 (by rfl) T.n_range (j_op (jo_add hK) j_int (j_call G_Ltake (hr.mono (by decide)) rfl m_Ltake F_Ltake.kp b_Ltake .nil (fun _ _ => Reps.nil) pass0 (ja_cons (jv 0) (ja_cons j_int ja_nil))))) (jg_name (i := 4) (vs := [4]) nd rfl (Or.inl rfl))
(jb_cons (js_set (i := 5) nd rfl (Or.inl rfl) (j_lst (ja_cons (j_op (jo_add hK) j_int (j_call G_Ltake (hr.mono (by decide)) rfl m_Ltake F_Ltake.kp b_Ltake .nil (fun _ _ => Reps.nil) pass0 (ja_cons (jv 0) (ja_cons (jv 2) ja_nil)))) (ja_cons (j_op (jo_add hK) (j_op jo_fdiv (jv 2) j_int) j_int) (ja_cons j_int (ja_cons (jv 2) (ja_cons (j_callB (jc_max hK rfl) (by rfl) T.n_max (by decide +kernel) (ja_cons j_int (ja_cons (j_op jo_fdiv (jv 2) j_int) ja_nil))) (ja_cons (j_callB (jc_max hK rfl) (by rfl) T.n_max (by decide +kernel) (ja_cons j_int (ja_cons (j_op jo_fdiv (jv 2) j_int) ja_nil))) ja_nil))))))))
(jb_one (js_sub j_bl (jv 3) (j_call G_Lof (hr.mono (by decide)) rfl m_Lof F_Lof.kp b_Lof .nil (fun _ _ => Reps.nil) pass0 (ja_cons (jv 0) (ja_cons (j_op (jo_add hK) (j_op (jo_mul hK) (j_slice hK (jv 5) jp_none (jp_some j_int)) j_int) (jv 5)) ja_nil))) (jp_set (hu_of hr))))))
(jb_one (js_ret (j_tup (ja_cons (jv 2) (ja_cons (j_callTy (jc_tuple hK) (by rfl) T.n_tuple (by decide +kernel) (ja_cons (j_callB (jc_sorted hK rfl) (by rfl) T.n_sorted (by decide +kernel) (ja_cons (jv 3) ja_nil)) ja_nil)) ja_nil)))))))
theorem ok_Lbox {f : Addr} {fd : FuncData} (T : Txt K mg) (F : Fun K "_law_box" "_law_box" s_Lbox f fd) : FnOk P w K mg base CX0 1 f fd ["_law_script", "_law_k"] (spM (wd K mg) 2 mf_Lbox) := by
  have nd := sc_Lbox.nd
  refine jdK (W := wd K mg) F sc_Lbox (fun cdv A out s H E hr => ?_)
  have hK : K = (wd K mg).K := rfl
  unfold mb_Lbox
  exact (jb_cons (js_set (i := 2) nd rfl (Or.inl rfl) (j_if (jt_cmp jo_lt (jv 1) (j_callB (jc_len hK) (by rfl) T.n_len (by decide +kernel) (ja_cons (jv 0) ja_nil)) (nomark _)) (j_ix (ji_ix hK (hu_of hr)) (jv 0) (jv 1) (fun _ _ => rfl)) (j_op (jo_add hK) (j_op (jo_mul hK) j_int (jv 1)) j_int)))
(jb_cons (js_set (i := 3) nd rfl (Or.inl rfl) (j_op (jo_mul hK) (j_op jo_mod (j_callB jc_abs (by rfl) T.n_abs (by decide +kernel) (ja_cons (jv 2) ja_nil)) (j_op jo_pow (j_op jo_pow j_int j_int) j_int)) (j_callTy jc_int (by rfl) T.n_int (by decide +kernel) (ja_cons (j_cmp jo_ge (j_callB jc_abs (by rfl) T.n_abs (by decide +kernel) (ja_cons (jv 2) ja_nil)) (j_op jo_pow j_int j_int) (nomark _)) ja_nil))))
(jb_one (js_ret (j_lstM (ja_cons (jv 3) (ja_cons (j_op jo_mod (j_op (jo_add hK) (j_op (jo_add hK) (j_op (jo_mul hK) (j_op jo_mod (jv 2) j_int) j_int) (j_op (jo_mul hK) (j_op (jo_mul hK) j_int (jv 1)) (jv 1))) j_int) j_int) (ja_cons j_int ja_nil))))))))
theorem ok_Lrun {f : Addr} {fd : FuncData} (T : Txt K mg) (F : Fun K "_law_run" "_law_run" s_Lrun f fd) : FnOk P w K mg base CX0 1 f fd ["_law_book_here", "_law_many", "_law_tale_here"] (spM (wd K mg) 3 mf_Lrun) := by
  have nd := sc_Lrun.nd
  refine jd (W := wd K mg) F sc_Lrun (fun cdv A out s H E hr => ?_)
  have hK : K = (wd K mg).K := rfl
  unfold mb_Lrun
  exact (jb_cons (js_asg (j_tup (ja_cons (j_lstM (ja_cons (j_tup (ja_cons (j_lstM ja_nil) (ja_cons (j_op jo_sub j_int j_int) ja_nil))) ja_nil)) (ja_cons (j_lstM ja_nil) (ja_cons (j_lstM ja_nil) (ja_cons j_int (ja_cons j_int (ja_cons j_int ja_nil))))))) (jg_tup hK (by rfl) (jgs_cons (jg_name (i := 3) (vs := [3, 4, 5, 6, 7, 8]) nd rfl (Or.inl rfl)) (jgs_cons (jg_name (i := 4) (vs := [3, 4, 5, 6, 7, 8]) nd rfl (Or.inr rfl)) (jgs_cons (jg_name (i := 5) (vs := [3, 4, 5, 6, 7, 8]) nd rfl (Or.inl rfl)) (jgs_cons (jg_name (i := 6) (vs := [3, 4, 5, 6, 7, 8]) nd rfl (Or.inl rfl)) (jgs_cons (jg_name (i := 7) (vs := [3, 4, 5, 6, 7, 8]) nd rfl (Or.inr rfl)) (jgs_cons (jg_name (i := 8) (vs := [3, 4, 5, 6, 7, 8]) nd rfl (Or.inl rfl)) jgs_nil))))))))
(jb_cons (js_for PassesOwn.never rfl (ji_seq hK (jv 2)) (jg_name (i := 9) (vs := [9]) nd rfl (Or.inl rfl))
(jb_cons (js_if (jt_cmp (jo_eq hK hr.units) (jv 9) j_str (nomark _))
(jb_cons (js_set (i := 7) nd rfl (Or.inr rfl) (j_op (jo_add hK) (jv 7) j_int))
(jb_one js_continue))
jb_nil)
(jb_cons (js_if (PW.pt (jw_or (jt_cmp (jo_eq hK hr.units) (jv 9) j_str (nomark _)) (jw_or1 (jt_cmp jo_gt (j_op (jo_add hK) (jv 6) (jv 9)) (j_ix (ji_ix hK (hu_of hr)) (jv 0) j_int (fun _ _ => rfl)) (nomark _)))))
(jb_cons (js_par3 (i := 3) (j := 6) (l := 8) rfl nd rfl rfl rfl (by decide) (by decide) (by decide) rfl rfl rfl (ja_cons (j_opM (jo_cat hK) (jv 3) (j_lstM (ja_cons (j_tup (ja_cons (j_lstM ja_nil) (ja_cons (jv 7) ja_nil))) ja_nil))) (ja_cons j_int (ja_cons (j_op (jo_add hK) (jv 8) j_int) ja_nil))) (by rfl))
(jb_one (js_while PassesOwn.never (jt_cmp jo_gt (j_callB (jc_len hK) (by rfl) T.n_len (by decide +kernel) (ja_cons (jv 3) ja_nil)) (j_op (jo_add hK) (jv 1) j_int) (nomark _))
(jb_cons (js_asg (j_bm hK PySem.F.plainAttrs_list PySem.F.slot_list_pop PySem.F.type_list_pop jm_pop (jv 3) (ja_cons j_int ja_nil)) (jg_tup hK (by rfl) (jgs_cons (jg_name (i := 10) (vs := [10, 11]) nd rfl (Or.inl rfl)) (jgs_cons (jg_name (i := 11) (vs := [10, 11]) nd rfl (Or.inr rfl)) jgs_nil))))
(jb_one (js_expr (j_bm hK PySem.F.plainAttrs_list PySem.F.slot_list_extend PySem.F.type_list_extend jm_extend (jv 5) (ja_cons (j_lc (own := [("_law_number", 14)]) rfl nd (ji_seq hK (jv 10)) (blkOk_by (own := [("_law_number", 14)]) (N := N_Lrun) (sc := defScope s_Lrun) (by decide +kernel)) (fun _ _ _ _ _ => (jg_name (i := 14) (vs := [14]) nd rfl (Or.inl rfl))) (fun _ _ _ _ _ => jts_one (jt_cmp (jo_eq hK hr.units) (j_ix (ji_ix hK (hu_of hr)) (jv 4) (jv 14) (fun _ _ => rfl)) (jv 7) (nomark _))) (fun _ _ _ _ _ => (j_tup (ja_cons (jv 14) (ja_cons (j_cmp (jo_eq hK hr.units) (jv 11) (jv 7) (nomark _)) ja_nil))))) ja_nil))))))))
jb_nil)
(jb_one (js_if (jt_cmp (jo_ne hK hr.units) (jv 9) j_str (nomark _))
(jb_cons (js_expr (j_bm hK PySem.F.plainAttrs_list PySem.F.slot_list_append PySem.F.type_list_append jm_append (j_ix (ji_ix hK (hu_of hr)) (j_ix (ji_ix hK (hu_of hr)) (jv 3) (j_un jo_neg j_int) (fun _ _ => rfl)) j_int (fun _ _ => rfl)) (ja_cons (j_callB (jc_len hK) (by rfl) T.n_len (by decide +kernel) (ja_cons (jv 4) ja_nil)) ja_nil)))
(jb_cons (js_expr (j_bm hK PySem.F.plainAttrs_list PySem.F.slot_list_append PySem.F.type_list_append jm_append (jv 4) (ja_cons (jv 7) ja_nil)))
(jb_one (js_set (i := 6) nd rfl (Or.inl rfl) (j_op (jo_add hK) (jv 6) (jv 9))))))
jb_nil)))))
(jb_cons (js_setLc (i := 12) (own := [("_law_number", 14), ("_law_is_new", 15)]) rfl nd rfl rfl (sw_true rfl rfl rfl (by decide +kernel)) (ji_seq hK (jv 5)) (blkOk_by (own := [("_law_number", 14), ("_law_is_new", 15)]) (N := N_Lrun) (sc := defScope s_Lrun) (by decide +kernel)) (fun _ _ _ _ _ => (jg_tup hK (by rfl) (jgs_cons (jg_name (i := 14) (vs := [14, 15]) nd rfl (Or.inl rfl)) (jgs_cons (jg_name (i := 15) (vs := [14, 15]) nd rfl (Or.inl rfl)) jgs_nil)))) (fun _ _ _ _ _ => jts_one (jt_val (jv 15))) (fun _ _ _ _ _ => (jv 14)))
(jb_cons (js_set (i := 13) nd rfl (Or.inl rfl) (j_callTy (jc_tuple hK) (by rfl) T.n_tuple (by decide +kernel) (ja_cons (j_lc (own := [("_law_numbers", 10), ("_law_begun", 11)]) rfl nd (ji_seq hK (jv 3)) (blkOk_by (own := [("_law_numbers", 10), ("_law_begun", 11)]) (N := N_Lrun) (sc := defScope s_Lrun) (by decide +kernel)) (fun _ _ _ _ _ => (jg_tup hK (by rfl) (jgs_cons (jg_name (i := 10) (vs := [10, 11]) nd rfl (Or.inl rfl)) (jgs_cons (jg_name (i := 11) (vs := [10, 11]) nd rfl (Or.inl rfl)) jgs_nil)))) (fun _ _ _ _ _ => jts_nil) (fun _ _ _ _ _ => (j_callTy (jc_tuple hK) (by rfl) T.n_tuple (by decide +kernel) (ja_cons (jv 10) ja_nil)))) ja_nil)))
(jb_one (js_ret (j_tup (ja_cons (jv 13) (ja_cons (j_callTy (jc_tuple hK) (by rfl) T.n_tuple (by decide +kernel) (ja_cons (j_callB (jc_sorted hK rfl) (by rfl) T.n_sorted (by decide +kernel) (ja_cons (j_lc (own := [("_law_number", 14), ("_law_is_new", 15)]) rfl nd (ji_seq hK (jv 5)) (blkOk_by (own := [("_law_number", 14), ("_law_is_new", 15)]) (N := N_Lrun) (sc := defScope s_Lrun) (by decide +kernel)) (fun _ _ _ _ _ => (jg_tup hK (by rfl) (jgs_cons (jg_name (i := 14) (vs := [14, 15]) nd rfl (Or.inl rfl)) (jgs_cons (jg_name (i := 15) (vs := [14, 15]) nd rfl (Or.inl rfl)) jgs_nil)))) (fun _ _ _ _ _ => jts_nil) (fun _ _ _ _ _ => (jv 14))) ja_nil)) ja_nil)) (ja_cons (j_callTy (jc_tuple hK) (by rfl) T.n_tuple (by decide +kernel) (ja_cons (j_callB (jc_sorted hK rfl) (by rfl) T.n_sorted (by decide +kernel) (ja_cons (jv 12) ja_nil)) ja_nil)) (ja_cons (jv 8) ja_nil)))))))))))
theorem ok_Ltale {f : Addr} {fd : FuncData} (T : Txt K mg) (F : Fun K "_law_tale" "_law_tale" s_Ltale f fd) : FnOk P w K mg base CX0 3 f fd ["_law_box_here", "_law_book_here", "_law_bound", "_law_often", "_law_many"] (spM (wd K mg) 5 mf_Ltale) := by
  have nd := sc_Ltale.nd
  obtain ⟨f_Lof, fd_Lof, F_Lof, m_Lof, b_Lof⟩ := T.d_Lof.ex
  have G_Lof := ok_Lof (P := P) (w := w) (mg := mg) (base := base) T F_Lof
  obtain ⟨f_Ltake, fd_Ltake, F_Ltake, m_Ltake, b_Ltake⟩ := T.d_Ltake.ex
  have G_Ltake := ok_Ltake (P := P) (w := w) (mg := mg) (base := base) T F_Ltake
  refine jd (W := wd K mg) F sc_Ltale (fun cdv A out s H E hr => ?_)
  have hK : K = (wd K mg).K := rfl
  unfold mb_Ltale
  exact (jb_cons (js_par3 (i := 5) (j := 6) (l := 7) rfl nd rfl rfl rfl (by decide) (by decide) (by decide) rfl rfl rfl (ja_cons (j_lstM ja_nil) (ja_cons j_int (ja_cons j_int ja_nil))) (by rfl))
(jb_cons (js_for PassesOwn.never rfl (ji_range1 (by rfl) T.n_range (jv 4)) (jg_name (i := 8) (vs := [8]) nd rfl (Or.inl rfl))
(jb_cons (js_par (i := 9) (j := 10) rfl nd rfl rfl (by decide) rfl rfl (ja_cons (j_call G_Ltake (hr.mono (by decide)) rfl m_Ltake F_Ltake.kp b_Ltake .nil (fun _ _ => Reps.nil) pass0 (ja_cons (jv 0) (ja_cons j_int ja_nil))) (ja_cons (j_call G_Lof (hr.mono (by decide)) rfl m_Lof F_Lof.kp b_Lof .nil (fun _ _ => Reps.nil) pass0 (ja_cons (jv 0) (ja_cons (j_ix (ji_ix hK (hu_of hr)) (jv 1) j_int (fun _ _ => rfl)) ja_nil))) ja_nil)) (by rfl))
(jb_one (js_if (PW.pt (jw_or (jt_cmp (jo_eq hK hr.units) (jv 9) j_int (nomark _)) (jw_or1 (PW.pt (jw_and (jt_cmp jo_gt (j_op (jo_add hK) (jv 6) (jv 10)) (jv 2) (nomark _)) (jw_and1 (jt_cmp jo_lt (jv 9) j_int (nomark _))))))))
(jb_cons (js_expr (j_bm hK PySem.F.plainAttrs_list PySem.F.slot_list_append PySem.F.type_list_append jm_append (jv 5) (ja_cons j_str ja_nil)))
(jb_one (js_asg (j_tup (ja_cons j_int (ja_cons j_int ja_nil))) (jg_tup hK (by rfl) (jgs_cons (jg_name (i := 6) (vs := [6, 7]) nd rfl (Or.inl rfl)) (jgs_cons (jg_name (i := 7) (vs := [6, 7]) nd rfl (Or.inl rfl)) jgs_nil))))))
(jb_one (js_if (PW.pt (jw_and (jt_cmp (jo_eq hK hr.units) (jv 9) j_int (nomark _)) (jw_and1 (jt_cmp jo_lt (jv 7) (jv 3) (nomark _)))))
(jb_cons (js_expr (j_bm hK PySem.F.plainAttrs_list PySem.F.slot_list_append PySem.F.type_list_append jm_append (jv 5) (ja_cons j_str ja_nil)))
(jb_one (js_set (i := 7) nd rfl (Or.inl rfl) (j_op (jo_add hK) (jv 7) j_int))))
(jb_one (js_if (jt_cmp jo_le (j_op (jo_add hK) (jv 6) (jv 10)) (jv 2) (nomark _))
(jb_cons (js_expr (j_bm hK PySem.F.plainAttrs_list PySem.F.slot_list_append PySem.F.type_list_append jm_append (jv 5) (ja_cons (jv 10) ja_nil)))
(jb_one (js_set (i := 6) nd rfl (Or.inl rfl) (j_op (jo_add hK) (jv 6) (jv 10)))))
jb_nil))))))))
(jb_one (js_ret (j_callTy (jc_tuple hK) (by rfl) T.n_tuple (by decide +kernel) (ja_cons (jv 5) ja_nil))))))
theorem ok_is_rotated {f : Addr} {fd : FuncData} (T : Txt K mg) (F : Fun K "is_rotated" "is_rotated" s_is_rotated f fd) : FnOk P w K mg base CX0 1 f fd ["rules", "fill", "event"] (spM (wd K mg) 3 mf_is_rotated) := by
  have nd := sc_is_rotated.nd
  obtain ⟨tk_ROTATE, c_ROTATE⟩ := T.c_ROTATE
  refine jd (W := wd K mg) F sc_is_rotated (fun cdv A out s H E hr => ?_)
  have hK : K = (wd K mg).K := rfl
  unfold mb_is_rotated
  exact (jb_cons (js_if (jt_val (j_callB (jc_isi hK) (by rfl) T.n_isinstance (by decide +kernel) (ja_cons (jv 2) (ja_cons (tC_of (fun _ _ => ty_rep) (pe_bltn (v := .ty "int") (by rfl) T.n_int (by decide +kernel) rfl)) ja_nil))))
(jb_one (js_ret (j_cmp jo_gt (j_op (jo_add hK) (jv 1) (jv 2)) (j_ix (ji_ix hK (hu_of hr)) (jv 0) j_int (fun _ _ => rfl)) (nomark _))))
jb_nil)
(jb_one (js_ret (j_cmp (jo_eq hK hr.units) (jv 2) (tC_of (fun _ _ => str_rep) (pe_glob (v := .str "rotate") rfl c_ROTATE ⟨_, rfl⟩)) (nomark _)))))
theorem ok_fill_behind {f : Addr} {fd : FuncData} (T : Txt K mg) (F : Fun K "fill_behind" "fill_behind" s_fill_behind f fd) : FnOk P w K mg base CX0 2 f fd ["rules", "fill", "event"] (spM (wd K mg) 3 mf_fill_behind) := by
  have nd := sc_fill_behind.nd
  obtain ⟨f_is_rotated, fd_is_rotated, F_is_rotated, m_is_rotated, b_is_rotated⟩ := T.d_is_rotated.ex
  have G_is_rotated := ok_is_rotated (P := P) (w := w) (mg := mg) (base := base) T F_is_rotated
  refine jd (W := wd K mg) F sc_fill_behind (fun cdv A out s H E hr => ?_)
  have hK : K = (wd K mg).K := rfl
  unfold mb_fill_behind
  exact (jb_cons (js_set (i := 3) nd rfl (Or.inl rfl) (j_if (jt_val (j_call G_is_rotated (hr.mono (by decide)) rfl m_is_rotated F_is_rotated.kp b_is_rotated .nil (fun _ _ => Reps.nil) pass0 (ja_cons (jv 0) (ja_cons (jv 1) (ja_cons (jv 2) ja_nil))))) j_int (jv 1)))
(jb_one (js_ret (j_if (jt_val (j_callB (jc_isi hK) (by rfl) T.n_isinstance (by decide +kernel) (ja_cons (jv 2) (ja_cons (tC_of (fun _ _ => ty_rep) (pe_bltn (v := .ty "int") (by rfl) T.n_int (by decide +kernel) rfl)) ja_nil)))) (j_op (jo_add hK) (jv 3) (jv 2)) (jv 3)))))
theorem ok_walk {f : Addr} {fd : FuncData} (T : Txt K mg) (F : Fun K "walk" "walk" s_walk f fd) : GDef P w (wd K mg) mg base 2 f fd ["rules", "kept", "history"] gf_walk := by
  have nd := sc_walk.g.nd
  obtain ⟨f_fill_behind, fd_fill_behind, F_fill_behind, m_fill_behind, b_fill_behind⟩ := T.d_fill_behind.ex
  have G_fill_behind := ok_fill_behind (P := P) (w := w) (mg := mg) (base := base) T F_fill_behind
  obtain ⟨f_is_rotated, fd_is_rotated, F_is_rotated, m_is_rotated, b_is_rotated⟩ := T.d_is_rotated.ex
  have G_is_rotated := ok_is_rotated (P := P) (w := w) (mg := mg) (base := base) T F_is_rotated
  have hK : K = (wd K mg).K := rfl
  refine jdGen (W := wd K mg) (st := s_walk) (preS := (defBody s_walk).take 1) (bpS := (forBd (nthS (defBody s_walk) 1)).take 3) (tg := forTg (nthS (defBody s_walk) 1)) (iter := forIt (nthS (defBody s_walk) 1)) (e := yldE (nthS (forBd (nthS (defBody s_walk) 1)) 3)) (yp := yldP (nthS (forBd (nthS (defBody s_walk) 1)) 3)) (epos := yldQ (nthS (forBd (nthS (defBody s_walk) 1)) 3)) (fpos := forPs (nthS (defBody s_walk) 1)) (pre := gb_walk_pre) (im := gb_walk_it) (g := gb_walk_g) (bp := gb_walk_bp) (ye := gb_walk_ye) (vs := [6]) F sc_walk rfl (fun _ _ _ => rfl) (fun cdv A L out pn s H hr => ?_) gr_walk
  unfold gb_walk_pre gb_walk_it gb_walk_g gb_walk_bp gb_walk_ye
  exact ⟨(jb_one (js_asg (j_tup (ja_cons j_int (ja_cons j_int (ja_cons (j_tup (ja_cons (j_tup ja_nil) ja_nil)) ja_nil)))) (jg_tup hK (by rfl) (jgs_cons (jg_name (i := 3) (vs := [3, 4, 5]) nd rfl (Or.inl rfl)) (jgs_cons (jg_name (i := 4) (vs := [3, 4, 5]) nd rfl (Or.inl rfl)) (jgs_cons (jg_name (i := 5) (vs := [3, 4, 5]) nd rfl (Or.inl rfl)) jgs_nil)))))), (ji_seq hK (jv 2)), (jg_name (i := 6) (vs := [6]) nd rfl (Or.inl rfl)), (jb_cons (js_if (jt_val (j_call G_is_rotated (hr.mono (by decide)) rfl m_is_rotated F_is_rotated.kp b_is_rotated .nil (fun _ _ => Reps.nil) pass0 (ja_cons (jv 0) (ja_cons (jv 3) (ja_cons (jv 6) ja_nil)))))
(jb_one (js_set (i := 5) nd rfl (Or.inl rfl) (j_slice hK (j_tup (ja_star hK (jv 5) (ja_cons (j_tup ja_nil) ja_nil))) (jp_some (j_op jo_sub (j_un jo_neg j_int) (jv 1))) jp_none)))
jb_nil)
(jb_cons (js_set (i := 3) nd rfl (Or.inl rfl) (j_call G_fill_behind (hr.mono (by decide)) rfl m_fill_behind F_fill_behind.kp b_fill_behind .nil (fun _ _ => Reps.nil) pass0 (ja_cons (jv 0) (ja_cons (jv 3) (ja_cons (jv 6) ja_nil)))))
(jb_one (js_if (jt_val (j_callB (jc_isi hK) (by rfl) T.n_isinstance (by decide +kernel) (ja_cons (jv 6) (ja_cons (tC_of (fun _ _ => ty_rep) (pe_bltn (v := .ty "int") (by rfl) T.n_int (by decide +kernel) rfl)) ja_nil))))
(jb_cons (js_set (i := 5) nd rfl (Or.inl rfl) (j_tup (ja_star hK (j_slice hK (jv 5) jp_none (jp_some (j_un jo_neg j_int))) (ja_cons (j_tup (ja_star hK (j_ix (ji_ix hK (hu_of hr)) (jv 5) (j_un jo_neg j_int) (fun _ _ => rfl)) (ja_cons (jv 4) ja_nil))) ja_nil))))
(jb_one (js_aug (i := 4) nd rfl (Or.inl rfl) j_int ji_add)))
jb_nil)))), (j_tup (ja_cons (jv 6) (ja_cons (jv 5) ja_nil)))⟩
theorem ok_files_of {f : Addr} {fd : FuncData} (T : Txt K mg) (F : Fun K "files_of" "files_of" s_files_of f fd) : FnOk P w K mg base CX0 7 f fd ["rules", "kept", "history"] (spM (wd K mg) 3 mf_files_of) := by
  have nd := sc_files_of.nd
  obtain ⟨f_walk, fd_walk, F_walk, m_walk, b_walk⟩ := T.d_walk.ex
  have G_walk := ok_walk (P := P) (w := w) (mg := mg) (base := base) T F_walk
  refine jd (W := wd K mg) F sc_files_of (fun cdv A out s H E hr => ?_)
  have hK : K = (wd K mg).K := rfl
  unfold mb_files_of
  exact (jb_cons (js_set (i := 3) nd rfl (Or.inl rfl) (j_tup (ja_cons (j_tup ja_nil) ja_nil)))
(jb_cons (js_forG hK rfl G_walk (hr.mono (by decide)) rfl m_walk F_walk.kp b_walk (ja_cons (jv 0) (ja_cons (jv 1) (ja_cons (jv 2) ja_nil))) (jgk_tup hK rfl (jgsk_cons (jgk_name (i := 4) (vs := [4, 5]) nd rfl rfl) (jgsk_cons (jgk_name (i := 5) (vs := [4, 5]) nd rfl rfl) jgsk_nil)))
(jsk_copy (i := 3) (j := 5) nd rfl rfl rfl rfl) (fun _ _ h => h))
(jb_one (js_ret (jv 3)))))
theorem ok_rotations {f : Addr} {fd : FuncData} (T : Txt K mg) (F : Fun K "rotations" "rotations" s_rotations f fd) : FnOk P w K mg base CX0 3 f fd ["rules", "history"] (spM (wd K mg) 2 mf_rotations) := by
  have nd := sc_rotations.nd
  obtain ⟨f_fill_behind, fd_fill_behind, F_fill_behind, m_fill_behind, b_fill_behind⟩ := T.d_fill_behind.ex
  have G_fill_behind := ok_fill_behind (P := P) (w := w) (mg := mg) (base := base) T F_fill_behind
  obtain ⟨f_is_rotated, fd_is_rotated, F_is_rotated, m_is_rotated, b_is_rotated⟩ := T.d_is_rotated.ex
  have G_is_rotated := ok_is_rotated (P := P) (w := w) (mg := mg) (base := base) T F_is_rotated
  refine jd (W := wd K mg) F sc_rotations (fun cdv A out s H E hr => ?_)
  have hK : K = (wd K mg).K := rfl
  unfold mb_rotations
  exact (jb_cons (js_asg (j_tup (ja_cons j_int (ja_cons j_int ja_nil))) (jg_tup hK (by rfl) (jgs_cons (jg_name (i := 2) (vs := [2, 3]) nd rfl (Or.inl rfl)) (jgs_cons (jg_name (i := 3) (vs := [2, 3]) nd rfl (Or.inl rfl)) jgs_nil))))
(jb_cons (js_for PassesOwn.never rfl (ji_seq hK (jv 1)) (jg_name (i := 4) (vs := [4]) nd rfl (Or.inl rfl))
(jb_cons (js_aug (i := 3) nd rfl (Or.inl rfl) (j_callTy jc_int (by rfl) T.n_int (by decide +kernel) (ja_cons (j_call G_is_rotated (hr.mono (by decide)) rfl m_is_rotated F_is_rotated.kp b_is_rotated .nil (fun _ _ => Reps.nil) pass0 (ja_cons (jv 0) (ja_cons (jv 2) (ja_cons (jv 4) ja_nil)))) ja_nil)) ji_add)
(jb_one (js_set (i := 2) nd rfl (Or.inl rfl) (j_call G_fill_behind (hr.mono (by decide)) rfl m_fill_behind F_fill_behind.kp b_fill_behind .nil (fun _ _ => Reps.nil) pass0 (ja_cons (jv 0) (ja_cons (jv 2) (ja_cons (jv 4) ja_nil))))))))
(jb_one (js_ret (jv 3)))))
theorem ok_Lright {f : Addr} {fd : FuncData} (T : Txt K mg) (F : Fun K "_law_right" "_law_right" s_Lright f fd) : FnG P w K mg base 8 f fd ["_law_box_here", "_law_book_here"] (spM (wd K mg) 2 mf_Lright) := by
  have nd := sc_Lright.nd
  obtain ⟨f_rotations, fd_rotations, F_rotations, m_rotations, b_rotations⟩ := T.d_rotations.ex
  have G_rotations := ok_rotations (P := P) (w := w) (mg := mg) (base := base) T F_rotations
  obtain ⟨f_files_of, fd_files_of, F_files_of, m_files_of, b_files_of⟩ := T.d_files_of.ex
  have G_files_of := ok_files_of (P := P) (w := w) (mg := mg) (base := base) T F_files_of
  obtain ⟨f_Ltake, fd_Ltake, F_Ltake, m_Ltake, b_Ltake⟩ := T.d_Ltake.ex
  have G_Ltake := ok_Ltake (P := P) (w := w) (mg := mg) (base := base) T F_Ltake
  obtain ⟨f_Lrun, fd_Lrun, F_Lrun, m_Lrun, b_Lrun⟩ := T.d_Lrun.ex
  have G_Lrun := ok_Lrun (P := P) (w := w) (mg := mg) (base := base) T F_Lrun
  obtain ⟨f_Ltale, fd_Ltale, F_Ltale, m_Ltale, b_Ltale⟩ := T.d_Ltale.ex
  have G_Ltale := ok_Ltale (P := P) (w := w) (mg := mg) (base := base) T F_Ltale
  obtain ⟨f_Lof, fd_Lof, F_Lof, m_Lof, b_Lof⟩ := T.d_Lof.ex
  have G_Lof := ok_Lof (P := P) (w := w) (mg := mg) (base := base) T F_Lof
  refine jdG (W := wd K mg) F sc_Lright (fun cdv A out s H hg hr => ?_)
  have hK : K = (wd K mg).K := rfl
  unfold mb_Lright
  exact (jb_cons (js_set (i := 2) nd rfl (Or.inl rfl) (j_call G_Ltale (hr.mono (by decide)) rfl m_Ltale F_Ltale.kp b_Ltale .nil (fun _ _ => Reps.nil) pass0 (ja_cons (jv 0) (ja_cons (jv 1) (ja_cons (j_op jo_pow j_int j_int) (ja_cons (j_call G_Lof (hr.mono (by decide)) rfl m_Lof F_Lof.kp b_Lof .nil (fun _ _ => Reps.nil) pass0 (ja_cons (jv 0) (ja_cons (j_lst (ja_cons j_int (ja_cons (j_op jo_pow j_int j_int) ja_nil))) ja_nil))) (ja_cons (j_call G_Lof (hr.mono (by decide)) rfl m_Lof F_Lof.kp b_Lof .nil (fun _ _ => Reps.nil) pass0 (ja_cons (jv 0) (ja_cons (j_lst (ja_cons j_int (ja_cons j_int (ja_cons j_int (ja_cons j_int ja_nil))))) ja_nil))) ja_nil)))))))
(jb_cons (js_set (i := 3) nd rfl (Or.inl rfl) (j_callB (jc_repr hK hg hr) (by rfl) T.n_repr (by decide +kernel) (ja_cons (jv 2) ja_nil)))
(jb_cons (js_for PassesOwn.never rfl (ji_seq hK (j_tup (ja_cons j_int (ja_cons j_int (ja_cons j_int (ja_cons (j_call G_Ltake (hr.mono (by decide)) rfl m_Ltake F_Ltake.kp b_Ltake .nil (fun _ _ => Reps.nil) pass0 (ja_cons (jv 0) (ja_cons j_int ja_nil))) (ja_cons j_int (ja_cons (j_op jo_pow j_int j_int) ja_nil)))))))) (jg_name (i := 4) (vs := [4]) nd rfl (Or.inl rfl))
(jb_one (js_if (jt_cmp (jo_ne hK hr.units) (j_callB (jc_repr hK hg hr) (by rfl) T.n_repr (by decide +kernel) (ja_cons (j_call G_files_of (hr.mono (by decide)) rfl m_files_of F_files_of.kp b_files_of .nil (fun _ _ => Reps.nil) pass0 (ja_cons (jv 1) (ja_cons (jv 4) (ja_cons (jv 2) ja_nil)))) ja_nil)) (j_callB (jc_repr hK hg hr) (by rfl) T.n_repr (by decide +kernel) (ja_cons (j_ix (ji_ix hK (hu_of hr)) (j_call G_Lrun (hr.mono (by decide)) rfl m_Lrun F_Lrun.kp b_Lrun .nil (fun _ _ => Reps.nil) pass0 (ja_cons (jv 1) (ja_cons (jv 4) (ja_cons (jv 2) ja_nil)))) j_int (fun _ _ => rfl)) ja_nil)) (nomark _))
(jb_one (js_ret j_bl))
jb_nil)))
(jb_cons (js_asg (j_tup (ja_cons (j_call G_files_of (hr.mono (by decide)) rfl m_files_of F_files_of.kp b_files_of .nil (fun _ _ => Reps.nil) pass0 (ja_cons (jv 1) (ja_cons (j_op jo_pow j_int j_int) (ja_cons (jv 2) ja_nil)))) (ja_cons (j_lc (own := [("_law_deed", 7)]) rfl nd (ji_seq hK (jv 2)) (blkOk_by (own := [("_law_deed", 7)]) (N := N_Lright) (sc := defScope s_Lright) (by decide +kernel)) (fun _ _ _ _ _ => (jg_name (i := 7) (vs := [7]) nd rfl (Or.inl rfl))) (fun _ _ _ _ _ => jts_one (jt_cmp (jo_notin hK (hu_of hr)) (jv 7) (j_tup (ja_cons j_str (ja_cons j_str ja_nil))) (by rfl))) (fun _ _ _ _ _ => (jv 7))) ja_nil))) (jg_tup hK (by rfl) (jgs_cons (jg_name (i := 5) (vs := [5, 6]) nd rfl (Or.inl rfl)) (jgs_cons (jg_name (i := 6) (vs := [5, 6]) nd rfl (Or.inr rfl)) jgs_nil))))
(jb_cons (js_if (PW.pt (jw_or (jt_cmp (jo_ne hK hr.units) (j_callB (jc_len hK) (by rfl) T.n_len (by decide +kernel) (ja_cons (jv 5) ja_nil)) (j_op (jo_add hK) (j_call G_rotations (hr.mono (by decide)) rfl m_rotations F_rotations.kp b_rotations .nil (fun _ _ => Reps.nil) pass0 (ja_cons (jv 1) (ja_cons (jv 2) ja_nil))) j_int) (nomark _)) (jw_or1 (jt_cmp (jo_ne hK hr.units) (j_callB (jc_sumT rfl) (by rfl) T.n_sum (by decide +kernel) (ja_cons (jv 5) (ja_cons (j_tup ja_nil) ja_nil))) (j_trg1 rfl (by rfl) T.n_tuple (by rfl) T.n_range (j_callB (jc_len hK) (by rfl) T.n_len (by decide +kernel) (ja_cons (jv 6) ja_nil))) (nomark _)))))
(jb_one (js_ret j_bl))
jb_nil)
(jb_one (js_ret (j_and (j_callB (jc_all hK rfl) (by rfl) T.n_all (by decide +kernel) (ja_cons (j_lc (own := [("_law_one", 8)]) rfl nd (ji_seq hK (jv 5)) (blkOk_by (own := [("_law_one", 8)]) (N := N_Lright) (sc := defScope s_Lright) (by decide +kernel)) (fun _ _ _ _ _ => (jg_name (i := 8) (vs := [8]) nd rfl (Or.inl rfl))) (fun _ _ _ _ _ => jts_nil) (fun _ _ _ _ _ => (j_cmp jo_le (j_callB (jc_sum hK rfl) (by rfl) T.n_sum (by decide +kernel) (ja_cons (j_lc (own := [("_law_at", 9)]) rfl nd (ji_seq hK (jv 8)) (blk_in (own := [("_law_at", 9)]) (N := N_Lright) (scY := defScope s_Lright) rfl rfl (by decide +kernel)) (fun _ _ _ _ _ => (jg_name (i := 9) (vs := [9]) nd rfl (Or.inl rfl))) (fun _ _ _ _ _ => jts_nil) (fun _ _ _ _ _ => (j_ix (ji_ix hK (hu_of hr)) (jv 6) (jv 9) (fun _ _ => rfl)))) ja_nil)) (j_ix (ji_ix hK (hu_of hr)) (jv 1) j_int (fun _ _ => rfl)) (nomark _)))) ja_nil)) (j_one (j_cmp (jo_eq hK hr.units) (j_callB (jc_repr hK hg hr) (by rfl) T.n_repr (by decide +kernel) (ja_cons (jv 2) ja_nil)) (jv 3) (nomark _)))))))))))
theorem ok_law {f : Addr} {fd : FuncData} (T : Txt K mg) (F : Fun K "law" "law" s_law f fd) : FnG P w K mg base 9 f fd ["_law_script"] (spM (wd K mg) 1 mf_law) := by
  have nd := sc_law.nd
  obtain ⟨f_files_of, fd_files_of, F_files_of, m_files_of, b_files_of⟩ := T.d_files_of.ex
  have G_files_of := ok_files_of (P := P) (w := w) (mg := mg) (base := base) T F_files_of
  obtain ⟨f_Lright, fd_Lright, F_Lright, m_Lright, b_Lright⟩ := T.d_Lright.ex
  have G_Lright := ok_Lright (P := P) (w := w) (mg := mg) (base := base) T F_Lright
  obtain ⟨f_Lbook, fd_Lbook, F_Lbook, m_Lbook, b_Lbook⟩ := T.d_Lbook.ex
  have G_Lbook := ok_Lbook (P := P) (w := w) (mg := mg) (base := base) T F_Lbook
  obtain ⟨f_Lbox, fd_Lbox, F_Lbox, m_Lbox, b_Lbox⟩ := T.d_Lbox.ex
  have G_Lbox := ok_Lbox (P := P) (w := w) (mg := mg) (base := base) T F_Lbox
  refine jdG (W := wd K mg) F sc_law (fun cdv A out s H hg hr => ?_)
  have hK : K = (wd K mg).K := rfl
  unfold mb_law
  exact (jb_cons (js_for PassesOwn.never rfl (ji_range1 (by rfl) T.n_range (j_callB (jc_max hK rfl) (by rfl) T.n_max (by decide +kernel) (ja_cons j_int (ja_cons (j_callB (jc_min hK rfl) (by rfl) T.n_min (by decide +kernel) (ja_cons j_int (ja_cons (j_callB (jc_len hK) (by rfl) T.n_len (by decide +kernel) (ja_cons (jv 0) ja_nil)) ja_nil))) ja_nil)))) (jg_name (i := 1) (vs := [1]) nd rfl (Or.inl rfl))
(jb_cons (js_set (i := 2) nd rfl (Or.inr rfl) (j_call G_Lbox (hr.mono (by decide)) rfl m_Lbox F_Lbox.kp b_Lbox .nil (fun _ _ => Reps.nil) pass0 (ja_cons (jv 0) (ja_cons (jv 1) ja_nil))))
(jb_one (js_if (jt_not (jt_val (j_callB (jc_all hK rfl) (by rfl) T.n_all (by decide +kernel) (ja_cons (j_lc (own := [("_law_turn", 3)]) rfl nd (ji_range1 (by rfl) T.n_range j_int) (blkOk_by (own := [("_law_turn", 3)]) (N := N_law) (sc := defScope s_law) (by decide +kernel)) (fun _ _ _ _ _ => (jg_name (i := 3) (vs := [3]) nd rfl (Or.inl rfl))) (fun _ _ _ _ _ => jts_nil) (fun _ _ _ _ _ => (j_callG hg G_Lright (hr.mono (by decide)) rfl m_Lright F_Lright.kp b_Lright (ja_cons (jv 2) (ja_cons (j_call G_Lbook (hr.mono (by decide)) rfl m_Lbook F_Lbook.kp b_Lbook .nil (fun _ _ => Reps.nil) pass0 (ja_cons (jv 2) (ja_cons j_int ja_nil))) ja_nil))))) ja_nil))))
(jb_one (js_ret j_bl))
jb_nil))))
(jb_one (js_ret (j_and (j_cmp (jo_eq hK hr.units) (j_call G_files_of (hr.mono (by decide)) rfl m_files_of F_files_of.kp b_files_of .nil (fun _ _ => Reps.nil) pass0 (ja_cons (j_tup (ja_cons j_int (ja_cons (j_tup (ja_cons j_int ja_nil)) ja_nil))) (ja_cons j_int (ja_cons (j_tup ja_nil) ja_nil)))) (j_tup (ja_cons (j_tup ja_nil) ja_nil)) (nomark _)) (j_one (j_cmp (jo_eq hK hr.units) (j_call G_files_of (hr.mono (by decide)) rfl m_files_of F_files_of.kp b_files_of .nil (fun _ _ => Reps.nil) pass0 (ja_cons (j_tup (ja_cons j_int (ja_cons (j_tup (ja_cons j_int ja_nil)) ja_nil))) (ja_cons j_int (ja_cons (j_op (jo_mul hK) (j_tup (ja_cons j_str ja_nil)) j_int) ja_nil)))) (j_tup (ja_cons (j_tup ja_nil) (ja_cons (j_tup ja_nil) ja_nil))) (nomark _)))))))
end
theorem all_mk {l : PySem.W.OpenLaw} {w : World} {K : PySem.W.Frag} {h : Heap} {mg : Str → Option Value} {fa f1 f2 f3 f4 f5 f6 f7 f8 f9 f10 f11 f12 f13 : Addr} (X : K.In h) (G : h.Ns mainGlobals mg) (hfa : mg "law" = some (.ref fa))
    {od1 an1 od2 an2 od3 an3 od4 an4 od5 an5 od6 an6 od7 an7 od8 an8 od9 an9 od10 an10 od11 an11 od12 an12 od13 an13 : Option Addr} {sl1 sl2 sl3 sl4 sl5 sl6 sl7 sl8 sl9 sl10 sl11 sl12 sl13 : Array (Option Value)} {oc1 kV1 dc1 pm1 cd1 ct1 oc2 kV2 dc2 pm2 cd2 ct2 oc3 kV3 dc3 pm3 cd3 ct3 oc4 kV4 dc4 pm4 cd4 ct4 oc5 kV5 dc5 pm5 cd5 ct5 oc6 kV6 dc6 pm6 cd6 ct6 oc7 kV7 dc7 pm7 cd7 ct7 oc8 kV8 dc8 pm8 cd8 ct8 oc9 kV9 dc9 pm9 cd9 ct9 oc10 kV10 dc10 pm10 cd10 ct10 oc11 kV11 dc11 pm11 cd11 ct11 oc12 kV12 dc12 pm12 cd12 ct12 oc13 kV13 dc13 pm13 cd13 ct13 : Value}
    (a1 : PySem.W.nsIn K mainGlobals "_law_take" = some (some (.ref f1)))
    (l1 : K.lookup f1 = some ⟨oc1, od1, .func (PySem.W.fnOf "_law_take" "_law_take" (defArgs s_Ltake) (defBody s_Ltake) (defScope s_Ltake) .none kV1 dc1 pm1 an1 cd1 ct1), sl1⟩) (c1 : PySem.W.codeIn K cd1 "_law_take" = true) (k1 : PySem.W.keepIn K (.ref f1) = true)
    (a2 : PySem.W.nsIn K mainGlobals "_law_of" = some (some (.ref f2)))
    (l2 : K.lookup f2 = some ⟨oc2, od2, .func (PySem.W.fnOf "_law_of" "_law_of" (defArgs s_Lof) (defBody s_Lof) (defScope s_Lof) .none kV2 dc2 pm2 an2 cd2 ct2), sl2⟩) (c2 : PySem.W.codeIn K cd2 "_law_of" = true) (k2 : PySem.W.keepIn K (.ref f2) = true)
    (a3 : PySem.W.nsIn K mainGlobals "_law_book" = some (some (.ref f3)))
    (l3 : K.lookup f3 = some ⟨oc3, od3, .func (PySem.W.fnOf "_law_book" "_law_book" (defArgs s_Lbook) (defBody s_Lbook) (defScope s_Lbook) .none kV3 dc3 pm3 an3 cd3 ct3), sl3⟩) (c3 : PySem.W.codeIn K cd3 "_law_book" = true) (k3 : PySem.W.keepIn K (.ref f3) = true)
    (a4 : PySem.W.nsIn K mainGlobals "_law_box" = some (some (.ref f4)))
    (l4 : K.lookup f4 = some ⟨oc4, od4, .func (PySem.W.fnOf "_law_box" "_law_box" (defArgs s_Lbox) (defBody s_Lbox) (defScope s_Lbox) .none kV4 dc4 pm4 an4 cd4 ct4), sl4⟩) (c4 : PySem.W.codeIn K cd4 "_law_box" = true) (k4 : PySem.W.keepIn K (.ref f4) = true)
    (a5 : PySem.W.nsIn K mainGlobals "_law_run" = some (some (.ref f5)))
    (l5 : K.lookup f5 = some ⟨oc5, od5, .func (PySem.W.fnOf "_law_run" "_law_run" (defArgs s_Lrun) (defBody s_Lrun) (defScope s_Lrun) .none kV5 dc5 pm5 an5 cd5 ct5), sl5⟩) (c5 : PySem.W.codeIn K cd5 "_law_run" = true) (k5 : PySem.W.keepIn K (.ref f5) = true)
    (a6 : PySem.W.nsIn K mainGlobals "_law_tale" = some (some (.ref f6)))
    (l6 : K.lookup f6 = some ⟨oc6, od6, .func (PySem.W.fnOf "_law_tale" "_law_tale" (defArgs s_Ltale) (defBody s_Ltale) (defScope s_Ltale) .none kV6 dc6 pm6 an6 cd6 ct6), sl6⟩) (c6 : PySem.W.codeIn K cd6 "_law_tale" = true) (k6 : PySem.W.keepIn K (.ref f6) = true)
    (a7 : PySem.W.nsIn K mainGlobals "is_rotated" = some (some (.ref f7)))
    (l7 : K.lookup f7 = some ⟨oc7, od7, .func (PySem.W.fnOf "is_rotated" "is_rotated" (defArgs s_is_rotated) (defBody s_is_rotated) (defScope s_is_rotated) .none kV7 dc7 pm7 an7 cd7 ct7), sl7⟩) (c7 : PySem.W.codeIn K cd7 "is_rotated" = true) (k7 : PySem.W.keepIn K (.ref f7) = true)
    (a8 : PySem.W.nsIn K mainGlobals "fill_behind" = some (some (.ref f8)))
    (l8 : K.lookup f8 = some ⟨oc8, od8, .func (PySem.W.fnOf "fill_behind" "fill_behind" (defArgs s_fill_behind) (defBody s_fill_behind) (defScope s_fill_behind) .none kV8 dc8 pm8 an8 cd8 ct8), sl8⟩) (c8 : PySem.W.codeIn K cd8 "fill_behind" = true) (k8 : PySem.W.keepIn K (.ref f8) = true)
    (a9 : PySem.W.nsIn K mainGlobals "walk" = some (some (.ref f9)))
    (l9 : K.lookup f9 = some ⟨oc9, od9, .func (PySem.W.fnOf "walk" "walk" (defArgs s_walk) (defBody s_walk) (defScope s_walk) .none kV9 dc9 pm9 an9 cd9 ct9), sl9⟩) (c9 : PySem.W.codeIn K cd9 "walk" = true) (k9 : PySem.W.keepIn K (.ref f9) = true)
    (a10 : PySem.W.nsIn K mainGlobals "files_of" = some (some (.ref f10)))
    (l10 : K.lookup f10 = some ⟨oc10, od10, .func (PySem.W.fnOf "files_of" "files_of" (defArgs s_files_of) (defBody s_files_of) (defScope s_files_of) .none kV10 dc10 pm10 an10 cd10 ct10), sl10⟩) (c10 : PySem.W.codeIn K cd10 "files_of" = true) (k10 : PySem.W.keepIn K (.ref f10) = true)
    (a11 : PySem.W.nsIn K mainGlobals "rotations" = some (some (.ref f11)))
    (l11 : K.lookup f11 = some ⟨oc11, od11, .func (PySem.W.fnOf "rotations" "rotations" (defArgs s_rotations) (defBody s_rotations) (defScope s_rotations) .none kV11 dc11 pm11 an11 cd11 ct11), sl11⟩) (c11 : PySem.W.codeIn K cd11 "rotations" = true) (k11 : PySem.W.keepIn K (.ref f11) = true)
    (a12 : PySem.W.nsIn K mainGlobals "_law_right" = some (some (.ref f12)))
    (l12 : K.lookup f12 = some ⟨oc12, od12, .func (PySem.W.fnOf "_law_right" "_law_right" (defArgs s_Lright) (defBody s_Lright) (defScope s_Lright) .none kV12 dc12 pm12 an12 cd12 ct12), sl12⟩) (c12 : PySem.W.codeIn K cd12 "_law_right" = true) (k12 : PySem.W.keepIn K (.ref f12) = true)
    (a13 : PySem.W.nsIn K mainGlobals "law" = some (some (.ref f13)))
    (l13 : K.lookup f13 = some ⟨oc13, od13, .func (PySem.W.fnOf "law" "law" (defArgs s_law) (defBody s_law) (defScope s_law) .none kV13 dc13 pm13 an13 cd13 ct13), sl13⟩) (c13 : PySem.W.codeIn K cd13 "law" = true) (k13 : PySem.W.keepIn K (.ref f13) = true)
    (z_len : PySem.W.nsIn K mainGlobals "len" = some none)
    (z_tuple : PySem.W.nsIn K mainGlobals "tuple" = some none)
    (z_sorted : PySem.W.nsIn K mainGlobals "sorted" = some none)
    (z_range : PySem.W.nsIn K mainGlobals "range" = some none)
    (z_max : PySem.W.nsIn K mainGlobals "max" = some none)
    (z_abs : PySem.W.nsIn K mainGlobals "abs" = some none)
    (z_int : PySem.W.nsIn K mainGlobals "int" = some none)
    (z_isinstance : PySem.W.nsIn K mainGlobals "isinstance" = some none)
    (z_repr : PySem.W.nsIn K mainGlobals "repr" = some none)
    (z_all : PySem.W.nsIn K mainGlobals "all" = some none)
    (z_sum : PySem.W.nsIn K mainGlobals "sum" = some none)
    (z_min : PySem.W.nsIn K mainGlobals "min" = some none)
    {t_ROTATE : Tok} (v_ROTATE : PySem.W.nsIn K mainGlobals "ROTATE" = some (some (Value.str "rotate" t_ROTATE)))
    : ∃ fd : FuncData, (∀ (s : Shared) (v : Value), BindsTo s fd ⟨[v], []⟩ [("_law_script", v)]) ∧ ∀ base : Heap, K.In base → base.Ns mainGlobals mg → FnG l.prog w K mg base 9 fa fd ["_law_script"] (spLaw K) := by
  have e := hfa.symm.trans (PySem.W.mg_of X G a13)
  cases e
  have F1 := fun_mk (st := s_Ltake) l1 c1 k1
  have b1 := F1.binds (ps := ["_law_box_here", "_law_many"]) fun _ _ _ _ _ _ us hl => match us, hl with | [_, _], _ => rfl
  have F2 := fun_mk (st := s_Lof) l2 c2 k2
  have b2 := F2.binds (ps := ["_law_box_here", "_law_some"]) fun _ _ _ _ _ _ us hl => match us, hl with | [_, _], _ => rfl
  have F3 := fun_mk (st := s_Lbook) l3 c3 k3
  have b3 := F3.binds (ps := ["_law_box_here", "_law_top"]) fun _ _ _ _ _ _ us hl => match us, hl with | [_, _], _ => rfl
  have F4 := fun_mk (st := s_Lbox) l4 c4 k4
  have b4 := F4.binds (ps := ["_law_script", "_law_k"]) fun _ _ _ _ _ _ us hl => match us, hl with | [_, _], _ => rfl
  have F5 := fun_mk (st := s_Lrun) l5 c5 k5
  have b5 := F5.binds (ps := ["_law_book_here", "_law_many", "_law_tale_here"]) fun _ _ _ _ _ _ us hl => match us, hl with | [_, _, _], _ => rfl
  have F6 := fun_mk (st := s_Ltale) l6 c6 k6
  have b6 := F6.binds (ps := ["_law_box_here", "_law_book_here", "_law_bound", "_law_often", "_law_many"]) fun _ _ _ _ _ _ us hl => match us, hl with | [_, _, _, _, _], _ => rfl
  have F7 := fun_mk (st := s_is_rotated) l7 c7 k7
  have b7 := F7.binds (ps := ["rules", "fill", "event"]) fun _ _ _ _ _ _ us hl => match us, hl with | [_, _, _], _ => rfl
  have F8 := fun_mk (st := s_fill_behind) l8 c8 k8
  have b8 := F8.binds (ps := ["rules", "fill", "event"]) fun _ _ _ _ _ _ us hl => match us, hl with | [_, _, _], _ => rfl
  have F9 := fun_mk (st := s_walk) l9 c9 k9
  have b9 := F9.binds (ps := ["rules", "kept", "history"]) fun _ _ _ _ _ _ us hl => match us, hl with | [_, _, _], _ => rfl
  have F10 := fun_mk (st := s_files_of) l10 c10 k10
  have b10 := F10.binds (ps := ["rules", "kept", "history"]) fun _ _ _ _ _ _ us hl => match us, hl with | [_, _, _], _ => rfl
  have F11 := fun_mk (st := s_rotations) l11 c11 k11
  have b11 := F11.binds (ps := ["rules", "history"]) fun _ _ _ _ _ _ us hl => match us, hl with | [_, _], _ => rfl
  have F12 := fun_mk (st := s_Lright) l12 c12 k12
  have b12 := F12.binds (ps := ["_law_box_here", "_law_book_here"]) fun _ _ _ _ _ _ us hl => match us, hl with | [_, _], _ => rfl
  have F13 := fun_mk (st := s_law) l13 c13 k13
  have T : Txt K mg := ⟨⟨⟨_, _, F1, PySem.W.mg_of X G a1, b1⟩⟩,
    ⟨⟨_, _, F2, PySem.W.mg_of X G a2, b2⟩⟩,
    ⟨⟨_, _, F3, PySem.W.mg_of X G a3, b3⟩⟩,
    ⟨⟨_, _, F4, PySem.W.mg_of X G a4, b4⟩⟩,
    ⟨⟨_, _, F5, PySem.W.mg_of X G a5, b5⟩⟩,
    ⟨⟨_, _, F6, PySem.W.mg_of X G a6, b6⟩⟩,
    ⟨⟨_, _, F7, PySem.W.mg_of X G a7, b7⟩⟩,
    ⟨⟨_, _, F8, PySem.W.mg_of X G a8, b8⟩⟩,
    ⟨⟨_, _, F9, PySem.W.mg_of X G a9, b9⟩⟩,
    ⟨⟨_, _, F10, PySem.W.mg_of X G a10, b10⟩⟩,
    ⟨⟨_, _, F11, PySem.W.mg_of X G a11, b11⟩⟩,
    ⟨⟨_, _, F12, PySem.W.mg_of X G a12, b12⟩⟩,
    PySem.W.mg_none_of X G z_len,
    PySem.W.mg_none_of X G z_tuple,
    PySem.W.mg_none_of X G z_sorted,
    PySem.W.mg_none_of X G z_range,
    PySem.W.mg_none_of X G z_max,
    PySem.W.mg_none_of X G z_abs,
    PySem.W.mg_none_of X G z_int,
    PySem.W.mg_none_of X G z_isinstance,
    PySem.W.mg_none_of X G z_repr,
    PySem.W.mg_none_of X G z_all,
    PySem.W.mg_none_of X G z_sum,
    PySem.W.mg_none_of X G z_min,
    ⟨_, PySem.W.mg_of X G v_ROTATE⟩⟩
  exact ⟨PySem.W.fnOf "law" "law" (defArgs s_law) (defBody s_law) (defScope s_law) .none kV13 dc13 pm13 an13 cd13 ct13, fun s v => .of_eq rfl, fun base _ _ => (ok_law T F13).law law_due⟩
end My
open PySem PySem.W PyProof.Rows in
set_option maxRecDepth 100000 in
set_option maxHeartbeats 0 in
theorem PySem.Challenge.cw_rotatedlogs_k27_files_of_a_history_holds : PySem.Challenge.rw_rotatedlogs_k27_files_of_a_history.Holds := by
  w_on; o_law; k_head; (case hw => w_witness2)
  k_fill
  refine My.walk_g (l := PySem.Challenge.rw_rotatedlogs_k27_files_of_a_history) (k := 9) (x := "_law_script") (sp := My.spLaw) rfl rfl ⟨rfl, by decide, by decide⟩ (fun w h Y => PySem.W.kIn_of Y) ?F (fun K H a ns hl hO hS => ⟨a, ns, rfl, hO, hS, hl, fun _ => rfl⟩)
  case F =>
    intro w mg fa h KX G hmg
    refine' My.all_mk KX G hmg ?a1 ?l1 ?c1 ?k1 ?a2 ?l2 ?c2 ?k2 ?a3 ?l3 ?c3 ?k3 ?a4 ?l4 ?c4 ?k4 ?a5 ?l5 ?c5 ?k5 ?a6 ?l6 ?c6 ?k6 ?a7 ?l7 ?c7 ?k7 ?a8 ?l8 ?c8 ?k8 ?a9 ?l9 ?c9 ?k9 ?a10 ?l10 ?c10 ?k10 ?a11 ?l11 ?c11 ?k11 ?a12 ?l12 ?c12 ?k12 ?a13 ?l13 ?c13 ?k13 ?z_len ?z_tuple ?z_sorted ?z_range ?z_max ?z_abs ?z_int ?z_isinstance ?z_repr ?z_all ?z_sum ?z_min ?v_ROTATE
    (case a1 => k_is)
    (case l1 => k_is)
    (case c1 => k_is)
    (case k1 => k_is)
    (case a2 => k_is)
    (case l2 => k_is)
    (case c2 => k_is)
    (case k2 => k_is)
    (case a3 => k_is)
    (case l3 => k_is)
    (case c3 => k_is)
    (case k3 => k_is)
    (case a4 => k_is)
    (case l4 => k_is)
    (case c4 => k_is)
    (case k4 => k_is)
    (case a5 => k_is)
    (case l5 => k_is)
    (case c5 => k_is)
    (case k5 => k_is)
    (case a6 => k_is)
    (case l6 => k_is)
    (case c6 => k_is)
    (case k6 => k_is)
    (case a7 => k_is)
    (case l7 => k_is)
    (case c7 => k_is)
    (case k7 => k_is)
    (case a8 => k_is)
    (case l8 => k_is)
    (case c8 => k_is)
    (case k8 => k_is)
    (case a9 => k_is)
    (case l9 => k_is)
    (case c9 => k_is)
    (case k9 => k_is)
    (case a10 => k_is)
    (case l10 => k_is)
    (case c10 => k_is)
    (case k10 => k_is)
    (case a11 => k_is)
    (case l11 => k_is)
    (case c11 => k_is)
    (case k11 => k_is)
    (case a12 => k_is)
    (case l12 => k_is)
    (case c12 => k_is)
    (case k12 => k_is)
    (case a13 => k_is)
    (case l13 => k_is)
    (case c13 => k_is)
    (case k13 => k_is)
    (case z_len => k_is)
    (case z_tuple => k_is)
    (case z_sorted => k_is)
    (case z_range => k_is)
    (case z_max => k_is)
    (case z_abs => k_is)
    (case z_int => k_is)
    (case z_isinstance => k_is)
    (case z_repr => k_is)
    (case z_all => k_is)
    (case z_sum => k_is)
    (case z_min => k_is)
    (case v_ROTATE => k_is)
#print axioms PySem.Challenge.cw_rotatedlogs_k27_files_of_a_history_holds

