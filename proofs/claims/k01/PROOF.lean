import PyProof.Rows.All
import Wide.All
import OpenK.AllK
import Wide.FinOn
import HandS.ForMost
import HandS.Wide
import HandS.Star
import HandS.Zip
import HandS.IsInst
import KE.KTupSum
import HandS.TupMul
import HandS.SortInts
import HandS.Iter
import HandS.More
import HandS.Style
import HandS.Defaults
import HandS.TupAny
import HandS.Text
import HandS.Dict
import HandS.TupLen
import HandS.RaiseMore
import KE.GoesEnum
import HandS.SortKw
import PyProof.MinMaxWalk
import PyProof.WalkInts
import KE.DataMinMax
import KE.Datum
import PyProof.EqAt
import HandS.Flow
import KE.KDictZip
import HandS.Zip0
import PyProof.ListNew
import HandS.DictComp
import KE.KDictPairs
import KE.KDictCopyH
import HandS.Conv
import HandS.Words
import HandS.Property
import HandS.MakeKwOnly
import HandS.OwnEq
import HandS.Codes
import KE.DataMinKey
import HandS.Sort
import KE.KUnpackStar
import KE.SortData
import PyProof.Rows.RowBridgeK
import PyProof.AutoSeq1
import HandS.Deep
import PyProof.Rows.TupDisplay
import HandS.ListItems
import HandS.DictTup
import KE.KDictItemsList
import HandS.Comp
import PyProof.StrOps2
import HandS.TryOnly
import PyProof.NeKinds
import PyProof.Rows.EqBoolInt
import HandS.SetFor
import HandS.Strs
import PyProof.EqKinds
import PyProof.P3Eq
import PySem.Challenge.RW_rotatedlogs_k01_rules_of_any_value
set_option Elab.async false
set_option linter.all false
set_option maxRecDepth 100000
set_option maxHeartbeats 4000000
namespace My
open PySem L2

/-! ### heaps -/
theorem kp_same {H H' : Hp} {a : Addr} {o : HO} (s : Same H H') (h : H a = some o) : H' a = some o := s a o h
theorem kp_new {H : Hp} {p a : Addr} {o u : HO} (n : H p = none) (h : H a = some o) : upd H p u a = some o := by
  rw [upd_ne (ne_of_none h n)]; exact h
theorem kp_set {H : Hp} {p a : Addr} {o u : HO} (ne : a ≠ p) (h : H a = some o) : upd H p u a = some o := by
  rw [upd_ne ne]; exact h
theorem same_new {H : Hp} {p : Addr} {u : HO} (n : H p = none) : Same H (upd H p u) := fun _ _ h => kp_new n h
/-- all but what stands at b is as it was -/
def But (b : Addr) (H H' : Hp) : Prop := ∀ a o, a ≠ b → H a = some o → H' a = some o
theorem But.refl (b : Addr) (H : Hp) : But b H H := fun _ _ _ h => h
theorem But.trans {b : Addr} {H H1 H2 : Hp} (x : But b H H1) (y : But b H1 H2) : But b H H2 := fun a o n h => y a o n (x a o n h)
theorem But.of {b : Addr} {H H' : Hp} (s : Same H H') : But b H H' := fun a o _ h => s a o h
theorem But.set {b : Addr} {H : Hp} {u : HO} : But b H (upd H b u) := fun a o n h => kp_set n h
theorem But.new {b p : Addr} {H : Hp} {u : HO} (n : H p = none) : But b H (upd H p u) := But.of (same_new n)
theorem But.free {b p : Addr} {H H' : Hp} (x : But b H H') (e : H' p = none) (n : p ≠ b) : H p = none := by
  cases q : H p with
  | none => rfl
  | some o => rw [x p o n q] at e; cases e
theorem kp_but {b a : Addr} {H H' : Hp} {o : HO} (x : But b H H') (n : a ≠ b) (h : H a = some o) : H' a = some o := x a o n h
theorem tup_ne {H : Hp} {a b : Addr} {xs ys : List V} (h : H a = some (.tup xs)) (h' : H b = some (.lst ys)) : a ≠ b := ne_of h h' (by intro z; cases z)

/-! ### the box of draws -/
def Box (n : Nat) (H : Hp) (b : Addr) : Prop := ∃ o m c : Int, H b = some (.lst [.int o, .int m, .int c]) ∧ 0 ≤ o ∧ 0 ≤ m ∧ m < 2 ^ 62 ∧ 0 ≤ c ∧ c ≤ n
theorem Box.mono {n k : Nat} {H : Hp} {b : Addr} (h : Box n H b) (l : n ≤ k) : Box k H b := by
  obtain ⟨o, m, c, h1, h2, h3, h4, h5, h6⟩ := h
  exact ⟨o, m, c, h1, h2, h3, h4, h5, by omega⟩
theorem Box.same {n : Nat} {H H' : Hp} {b : Addr} (h : Box n H b) (s : Same H H') : Box n H' b := by
  obtain ⟨o, m, c, h1, r⟩ := h
  exact ⟨o, m, c, s _ _ h1, r⟩
theorem Box.there {n : Nat} {H : Hp} {b : Addr} (h : Box n H b) : ∃ xs, H b = some (.lst xs) := by
  obtain ⟨o, m, c, h1, r⟩ := h
  exact ⟨_, h1⟩
theorem Box.new {n : Nat} {H : Hp} {b p : Addr} {u : HO} (h : Box n H b) (x : H p = none) : Box n (upd H p u) b := h.same (same_new x)

theorem Box.ne {n : Nat} {H : Hp} {b p : Addr} (h : Box n H b) (x : H p = none) : p ≠ b := (ne_of_none h.there.choose_spec x).symm
theorem Box.set {n : Nat} {H : Hp} {b p : Addr} {u : HO} (h : Box n H b) (x : p ≠ b) : Box n (upd H p u) b := by
  obtain ⟨o, m, c, h1, r⟩ := h
  exact ⟨o, m, c, kp_set x.symm h1, r⟩
/-! ### promises of the draws -/
def sp_take : Sp := fun vs H Q _ => ∃ (b : Addr) (many : Int) (n : Nat), vs = [.ref b, .int many] ∧ Box n H b ∧ n < 2 ^ 40 ∧ 0 < many ∧ many < 2 ^ 64 ∧
  ∀ (r : Int) (H' : Hp), 0 ≤ r → r < many → Box (n + 1) H' b → But b H H' → Q (.int r) H'

/-- from the script: the cell is any int -/
def sp_box (K : PySem.W.Frag) : Sp := fun vs H Q _ => ∃ (a : Addr) (ns : List Int) (k : Int), vs = [.ref a, .int k] ∧ SqL K H a (ns.map V.int) ∧ ns.length ≤ 63 ∧ 0 ≤ k ∧ k < 1000 ∧
  ∀ (b : Addr) (H' : Hp), Same H H' → H b = none → Box 0 H' b → Q (.ref b) H'
def sp_of (K : PySem.W.Frag) : Sp := fun vs H Q _ => ∃ (b a : Addr) (xs : List V) (n : Nat), vs = [.ref b, .ref a] ∧ Box n H b ∧ a ≠ b ∧ (H a = some (.lst xs) ∨ H a = some (.tup xs)) ∧ n < 2 ^ 40 ∧ xs ≠ [] ∧ xs.length < 2 ^ 60 ∧
  ∀ (v : V) (H' : Hp), v ∈ xs → Box (n + 1) H' b → But b H H' → Q v H'

/-- two ways that go on alike -/
theorem join {α : Type} {G : Prop} (P : α → Prop) (rest : ∀ x, P x) (use : (∀ x, P x) → G) : G := use rest
theorem b2_w (c : Bool) : -(2 ^ 64) < (if c = true then (1 : Int) else 0) ∧ (if c = true then (1 : Int) else 0) < 2 ^ 64 := by cases c <;> decide
theorem b2_nn (c : Bool) : (0 : Int) ≤ (if c = true then (1 : Int) else 0) := by cases c <;> decide
theorem szl {α : Type} {xs : List α} (n : Nat) (h : xs.length = n) (h2 : n ≤ sizeLine := by decide) : xs.length ≤ sizeLine := by rw [h]; exact h2
theorem nle {n : Nat} (m : Nat) (h : n = m) (h2 : m ≤ sizeLine := by decide) : n ≤ sizeLine := by rw [h]; exact h2
theorem one_of {z r : Int} {v : V} (r0 : 0 ≤ r) (z0 : 0 ≤ z) (z1 : z < 1 + r)
    (h : v ∈ ([.int (1 + z), .int (1 + z), .int (1 + z), .int (1 + z), .int ((1 + r) / 2 + 1), .int 1, .int (1 + r), .int (if (1 + r) / 2 > 1 then (1 + r) / 2 else 1), .int (if (1 + r) / 3 > 1 then (1 + r) / 3 else 1)] : List V)) :
    ∃ x : Int, v = .int x ∧ 1 ≤ x ∧ x ≤ 1 + r := by
  simp only [List.mem_cons, List.not_mem_nil, or_false] at h
  rcases h with h | h | h | h | h | h | h | h | h
  all_goals first
    | exact ⟨_, h, by omega, by omega⟩
    | (refine ⟨_, h, ?_, ?_⟩ <;> (split <;> omega))
theorem or_read {tA tB : TT} {σ : St} {H : Hp} {Q : Bool → Hp → Prop} (a c : Bool) (hA : ∀ Q : Bool → Hp → Prop, Q a H → tA σ H Q) (hB : a = false → ∀ Q : Bool → Hp → Prop, Q c H → tB σ H Q) (h : Q (a || c) H) : tOr tA tB σ H Q := by
  refine hA _ ?_
  cases a with
  | true => exact h
  | false => exact hB rfl _ h
theorem and_read {tA tB : TT} {σ : St} {H : Hp} {Q : Bool → Hp → Prop} (a c : Bool) (hA : ∀ Q : Bool → Hp → Prop, Q a H → tA σ H Q) (hB : a = true → ∀ Q : Bool → Hp → Prop, Q c H → tB σ H Q) (h : Q (a && c) H) : tAnd tA tB σ H Q := by
  refine hA _ ?_
  cases a with
  | true => exact hB rfl _ h
  | false => exact h
theorem or_if {tA tB : TT} {t u : TS} {D : Ends} {σ : St} {H : Hp} (a c : Bool) (hA : ∀ Q : Bool → Hp → Prop, Q a H → tA σ H Q) (hB : a = false → ∀ Q : Bool → Hp → Prop, Q c H → tB σ H Q) (h1 : (a || c) = true → t D σ H) (h2 : (a || c) = false → u D σ H) : tIfS (tOr tA tB) t u D σ H := by
  refine or_read a c hA hB ?_
  cases e : (a || c) with
  | true => exact h1 e
  | false => exact h2 e
theorem and_if {tA tB : TT} {t u : TS} {D : Ends} {σ : St} {H : Hp} (a c : Bool) (hA : ∀ Q : Bool → Hp → Prop, Q a H → tA σ H Q) (hB : a = true → ∀ Q : Bool → Hp → Prop, Q c H → tB σ H Q) (h1 : a = true → c = true → t D σ H) (h2 : (a && c) = false → u D σ H) : tIfS (tAnd tA tB) t u D σ H := by
  refine and_read a c hA hB ?_
  cases a with
  | true =>
    cases c with
    | true => exact h1 rfl rfl
    | false => exact h2 rfl
  | false => exact h2 rfl
/-! ### rules of more -/
section
variable {X : Cx}
def CPowW (i j : Int) : Prop := 0 ≤ j ∧ (Builtin.Int.intBits i : Int) * j ≤ 2 ^ 27
theorem op_powW : OpR X (binaryOp .Pow) (rI CPowW fun i j => .int (i ^ j.toNat)) := opI fun _ _ _ _ _ _ _ hc q => PyProof.Rows.pow_int hc.1 hc.2 q
end
theorem atI_in {α : Type} {xs : List α} {r : Int} (h0 : 0 ≤ r) (h1 : r < xs.length) : ∃ v, atI xs r = some v ∧ v ∈ xs := by
  obtain ⟨n, rfl⟩ : ∃ n : Nat, r = n := ⟨r.toNat, by omega⟩
  have h2 : n < xs.length := by omega
  exact ⟨xs[n], atI_nat (List.getElem?_eq_getElem h2), List.getElem_mem h2⟩

/-! ### rules of a log -/
structure Rules (S : Int) (ls : List Int) : Prop where
  s1 : 1 ≤ S
  s2 : S ≤ 100
  ne : ls ≠ []
  six : ls.length ≤ 6
  mem : ∀ l ∈ ls, 1 ≤ l ∧ l ≤ S
  asc : ls.Pairwise (· < ·)
def BookAt (H : Hp) (p : Addr) (S : Int) (ls : List Int) : Prop := ∃ q, H p = some (.tup [.int S, .ref q]) ∧ H q = some (.tup (ls.map V.int))
/-- all tuples stand -/
def Tups (H H' : Hp) : Prop := ∀ a xs, H a = some (.tup xs) → H' a = some (.tup xs)
theorem Tups.refl (H : Hp) : Tups H H := fun _ _ h => h
theorem Tups.trans {H H1 H2 : Hp} (x : Tups H H1) (y : Tups H1 H2) : Tups H H2 := fun a o h => y a o (x a o h)
theorem Same.tups {H H' : Hp} (s : Same H H') : Tups H H' := fun _ _ h => s _ _ h
theorem Tups.but {b : Addr} {H H' : Hp} {xs : List V} (s : But b H H') (h : H b = some (.lst xs)) : Tups H H' := fun _ _ q => s _ _ (tup_ne q h) q
theorem BookAt.tups {H H' : Hp} {p : Addr} {S : Int} {ls : List Int} (h : BookAt H p S ls) (t : Tups H H') : BookAt H' p S ls := by
  obtain ⟨q, h1, h2⟩ := h
  exact ⟨q, t _ _ h1, t _ _ h2⟩

def insL (ks : List Int) (k : Int) : List Int := if k ∈ ks then ks else ks ++ [k]
def dT (ks : List Int) : List (Key × V) := ks.map fun k => (Sum.inl k, V.bl true)
theorem dT_keys (ks : List Int) : (dT ks).map (·.1) = ks.map Sum.inl := by
  unfold dT
  rw [List.map_map]
  rfl
theorem dT_put (ks : List Int) (k : Int) : putK (dT ks) (Sum.inl k) (V.bl true) = dT (insL ks k) := by
  unfold putK insL dT
  by_cases h : k ∈ ks
  · rw [if_pos h, if_pos]
    · rw [List.map_map]
      apply List.map_congr_left
      intro a _
      show (if (Sum.inl a : Key) = Sum.inl k then ((Sum.inl a : Key), V.bl true) else (Sum.inl a, V.bl true)) = (Sum.inl a, V.bl true)
      split <;> rfl
    · rw [List.any_eq_true]
      exact ⟨(Sum.inl k, V.bl true), List.mem_map.mpr ⟨k, h, rfl⟩, decide_eq_true rfl⟩
  · rw [if_neg h, if_neg]
    · rw [List.map_append]
      rfl
    · rw [List.any_eq_true]
      rintro ⟨x, hx, e⟩
      obtain ⟨a, ha, rfl⟩ := List.mem_map.mp hx
      have e1 : (Sum.inl a : Key) = Sum.inl k := of_decide_eq_true e
      exact h (Sum.inl.inj e1 ▸ ha)
theorem insL_nd {ks : List Int} {k : Int} (h : ks.Nodup) : (insL ks k).Nodup := by
  unfold insL
  split
  · exact h
  · rename_i hk
    rw [List.nodup_append]
    refine ⟨h, by simp, ?_⟩
    intro a ha b hb e
    have : b = k := by simpa using hb
    exact hk (by rw [← this, ← e]; exact ha)
theorem insL_mem {ks : List Int} {k a : Int} (h : a ∈ insL ks k) : a ∈ ks ∨ a = k := by
  unfold insL at h
  split at h
  · exact .inl h
  · rcases List.mem_append.mp h with h | h
    · exact .inl h
    · exact .inr (by simpa using h)
theorem insL_len (ks : List Int) (k : Int) : (insL ks k).length ≤ ks.length + 1 := by
  unfold insL
  split
  · omega
  · simp
theorem insL_ne (ks : List Int) (k : Int) : insL ks k ≠ [] := by
  unfold insL
  split
  · rename_i h
    exact List.ne_nil_of_mem h
  · simp
theorem asc_of {ys ks : List Int} (p : ys.Perm ks) (h : ks.Nodup) (s : ys.Pairwise (· ≤ ·)) : ys.Pairwise (· < ·) := by
  have n : ys.Nodup := p.nodup_iff.mpr h
  have b := List.pairwise_and_iff.mpr ⟨s, n⟩
  exact b.imp fun {x y} ⟨h1, h2⟩ => by omega

def sp_book : Sp := fun vs H Q _ => ∃ (b : Addr) (top : Int) (n : Nat), vs = [.ref b, .int top] ∧ Box n H b ∧ n + 100 < 2 ^ 40 ∧ 1 ≤ top ∧ top ≤ 100 ∧
  ∀ (p : Addr) (S : Int) (ls : List Int) (H' : Hp), Rules S ls → S ≤ top → BookAt H' p S ls → Box (n + 14) H' b → But b H H' → Q (.ref p) H'

/-! ### events -/
inductive Ev where
  | line (l : Int)
  | look
  | rot
  deriving DecidableEq
def Ev.v : Ev → V
  | .line l => .int l
  | .look => .str "look"
  | .rot => .str "rotate"
def Ev.ok (ls : List Int) : Ev → Prop
  | .line l => l ∈ ls
  | _ => True
/-- bytes and rotations by hand since the last look -/
def Ev.st : Int × Int → Ev → Int × Int
  | (s, h), .line l => (s + l, h)
  | _, .look => (0, 0)
  | (s, h), .rot => (s, h + 1)
def stOf (es : List Ev) : Int × Int := es.foldl Ev.st (0, 0)
theorem stOf_snoc (es : List Ev) (e : Ev) : stOf (es ++ [e]) = Ev.st (stOf es) e := by
  unfold stOf
  rw [List.foldl_append]
  rfl
def Tame (bound often : Int) (es : List Ev) : Prop := ∀ j, j ≤ es.length → (stOf (es.take j)).1 ≤ bound ∧ (stOf (es.take j)).2 ≤ often
theorem Tame.nil {bound often : Int} (h1 : 0 ≤ bound) (h2 : 0 ≤ often) : Tame bound often [] := fun j hj => by
  have : j = 0 := by simpa using hj
  subst this
  exact ⟨h1, h2⟩
theorem Tame.snoc {bound often : Int} {es : List Ev} {e : Ev} (h : Tame bound often es) (h1 : (Ev.st (stOf es) e).1 ≤ bound) (h2 : (Ev.st (stOf es) e).2 ≤ often) : Tame bound often (es ++ [e]) := fun j hj => by
  by_cases hl : j ≤ es.length
  · rw [List.take_append_of_le_length hl]
    exact h j hl
  · have e1 : (es ++ [e]).take j = es ++ [e] := List.take_of_length_le (by simp at hj ⊢; omega)
    rw [e1, stOf_snoc]
    exact ⟨h1, h2⟩
def sp_tale : Sp := fun vs H Q _ => ∃ (b bk : Addr) (S : Int) (ls : List Int) (bound often many : Int) (n : Nat), vs = [.ref b, .ref bk, .int bound, .int often, .int many] ∧ BookAt H bk S ls ∧ Rules S ls ∧ Box n H b ∧
  0 ≤ bound ∧ 0 ≤ often ∧ 0 ≤ many ∧ many ≤ 1000 ∧ n + 2000 < 2 ^ 40 ∧
  ∀ (t : Addr) (es : List Ev) (H' : Hp), H' t = some (.tup (es.map Ev.v)) → (∀ e ∈ es, Ev.ok ls e) → (es.length : Int) ≤ many → Tame bound often es → Box (n + 2 * many.toNat) H' b → But b H H' → Q (.ref t) H'
end My

namespace My
open PySem PySem.Spec PyProof.Rows L2

/-! ### defs that want to know that no repr is under way (they call repr) -/
structure FnG (P : Program) (w : World) (K : PySem.W.Frag) (mg : Str → Option Value) (base : Heap) (k : Nat) (f : Addr) (fd : FuncData) (ps : List Str) (sp : Sp) : Prop where
  len : ∀ vs H Q, sp vs H Q E0 → vs.length = ps.length
  go : ∀ {A : Around} {out : List Env} {s : Shared} {H : Hp} {as : Args} {us : List Value} {vs : List V} {Q : VK}, A.guards = some [] → Room k A → Env0 P w K mg base A out s H →
    BindsTo s fd as (ps.zip us) → Vals vs us → sp vs H Q E0 → codeAny (model P w) A (.call (.ref f) as) (CR CX0 out P w H s Q E0) s
theorem FnOk.g {P : Program} {w : World} {K : PySem.W.Frag} {mg : Str → Option Value} {base : Heap} {k : Nat} {f : Addr} {fd : FuncData} {ps : List Str} {sp : Sp} (F : FnOk P w K mg base CX0 k f fd ps sp) : FnG P w K mg base k f fd ps sp :=
  ⟨fun vs H Q h => F.len vs H Q _ h, fun _ hr he hb hv h => F.run _ _ _ _ _ _ _ _ _ hr he hb hv h⟩

section
variable {P : Program} {w : World} {K : PySem.W.Frag} {mg : Str → Option Value} {base : Heap}
theorem g_ok {nm qual : Str} {st : Stmt} {f : Addr} {fd : FuncData} {N ps : List Str} {k : Nat} {sp : Sp} (F : Fun K nm qual st f fd) (S : FnScope N ps (defScope st)) (len : ∀ vs H Q, sp vs H Q E0 → vs.length = ps.length)
    (body : ∀ (cdv : Value) (A : Around) (out : List Env) (s : Shared) (H : Hp) (vs : List V) (Q : VK), (A.deeper (envOfC qual (defScope st) s.heap.objs.size f cdv)).guards = some [] →
      Room k (A.deeper (envOfC qual (defScope st) s.heap.objs.size f cdv)) → sp vs H Q E0 →
      ∃ t, PSs (cxOf CX0 P w K mg base N qual (defScope st) f cdv A out s H E0).nox (defBody st) t ∧ t { nx := fun _ H' => Q .non H', rt := Q } (start N vs) H) :
    FnG P w K mg base (k + 1) f fd ps sp := by
  obtain ⟨oc, od, kV, doc, pm, an, cdv, ct, osl, rfl, lk, hcd⟩ := F.ex
  refine ⟨len, ?_⟩
  intro A out s H as us vs Q hg hr e0 hb rv hsp
  have hst : ∀ b o, base.get? b = some o → s.heap.get? b = some o := fun b o e => (e0.bs b o e).1
  have hK : K.In s.heap := e0.mod.kin.keeps hst
  have places : ∀ y ∈ ps.zip us, (defScope st).names.lookup y.1 = some .local ∨ ((defScope st).names.lookup y.1 = some .cell ∧ ((cellsFrom (s.heap.objs.size + 1) (defScope st).names []).lookup y.1).isSome = true) := by
    intro y hy
    obtain ⟨n, v⟩ := y
    exact (S.par n (List.of_mem_zip hy).1).imp id fun q => ⟨q, PySem.W.cellsFrom_some _ _ _ (.inl q)⟩
  refine codeAny_call_function hr.depth (hK _ _ lk) rfl S.co S.gen rfl (PySem.W.codeRec_of hK hcd) (hb _ _ _ _ (wpAny_newFunctionEnv_cells S.kind places fun env he s2 x => ?_))
  cases he
  refine ⟨(e0.mod.nolimit.keeps hst).keeps x.toInCall.keep, codeAny_func ?_⟩
  obtain ⟨t, ht, ht2⟩ := body cdv A out s H vs Q hg (hr.deeper _) hsp
  have I := inv_start (CX := CX0) (E := E0) S hr.hd e0 (len _ _ _ hsp) rv x
  refine wpAny_mono (ht.nox.run [] s2 _ H _ I ht2) ?_ fun _ _ h => h
  intro fl s3 h3
  cases fl with
  | next =>
    obtain ⟨σ3, H3, J, q⟩ := h3
    exact ⟨V.non, H3, J.os, J.bare, J.base, J.hok, rfl, q⟩
  | ret u =>
    obtain ⟨v3, σ3, H3, J, r3, q⟩ := h3
    exact ⟨v3, H3, J.os, J.bare, J.base, J.hok, r3, q⟩
  | brk => exact (h3.choose_spec.choose_spec.2 : False).elim
  | cont => exact (h3.choose_spec.choose_spec.2 : False).elim
end

section
variable {X : Cx} {k : Nat} {f : Addr} {fd : FuncData} {ps : List Str} {sp : Sp} {x : Str} {p pos : Pos} {e : Expr} {es : List Expr} {t : TA}
theorem runG {pins : List (Addr × Obj)} {σ : L2.St} {H : Hp} {s : Shared} {Q : VK} {us : List Value} {vs : List V} (hg : X.A.guards = some []) (F : FnG X.prog X.w X.K X.mg X.base k f fd ps sp) (hr : Room k X.A) (hb : Binds X.K fd ps [])
    (I : Inv X pins σ H s) (r : Vals vs us) (h : sp vs H Q E0) : wpAny (model X.prog X.w) X.A (call (.ref f) us) (EP X pins σ Q) X.xe s := by
  have hlen : (us ++ []).length = ps.length := by
    rw [List.append_nil, ← r.length]
    exact F.len _ _ _ h
  have hbt := hb s us I.kIn hlen
  rw [List.append_nil] at hbt
  refine wpAny_call (codeAny_mono (F.go hg hr I.env0 hbt r h) ?_)
  intro res s2 hq
  match res, hq with
  | .error _, hq => exact hq.elim
  | .ok (.ret u), hq => exact I.after hq
/-- f(e, ..) of such a def -/
theorem pe_callG (hg : X.A.guards = some []) (F : FnG X.prog X.w X.K X.mg X.base k f fd ps sp) (hr : Room k X.A) (hgl : Gl X x) (hm : X.mg x = some (.ref f)) (hk : PySem.W.keepIn X.K (.ref f) = true) (hb : Binds X.K fd ps [])
    (ha : PA X (e :: es) t) (he : starEach (e :: es) X.env = (false, eval e X.env) :: starEach es X.env := by rfl) (hpl : (backTo pos (starEach es X.env)).any (·.1) = false := by rfl)
    (hdb : (x == ("__debug__" : Str)) = false := by decide) : PE X (.Call (.Name x p) (e :: es) [] pos) (tCall sp [] E0 t) := by
  constructor
  intro pins s σ H Q I want
  have step : ∀ (us : List Value) (s2 : Shared), AP X pins σ (fun vs H2 => sp (vs ++ []) H2 Q E0) us s2 → X.K.In s2.heap ∧ wpAny (model X.prog X.w) X.A (call (.ref f) us) (EP X pins σ Q) X.xe s2 := by
    rintro us s2 ⟨vs, H2, I2, r2, q2⟩
    rw [List.append_nil] at q2
    exact ⟨I2.kIn, runG hg F hr hb I2 r2 q2⟩
  exact wpAny_Call_Name_kw (ld_glob I hgl hm (PySem.W.callWith_K (h₀ := X.base) I.ok.mod.kin hk (thn (ha.run pos pins s σ H _ I want) step) he hpl) hdb)
end

/-! ### the law's own call -/
theorem top_run {P : Program} {w : World} {K : PySem.W.Frag} {mg mb : Str → Option Value} {k : Nat} {fa a : Addr} {fd : FuncData} {x : Str} {sp : Sp} {s : Shared} {vs : List Value} {H : Hp}
    (kin : K.In s.heap) (ng : s.heap.Ns mainGlobals mg) (nb : s.heap.Ns builtinsNs mb) (eb : ∀ y : Str, y ≠ "__name__" → mb y = bootBuiltins y) (nl : s.heap.NoLimit) (gs : s.gens = #[])
    (sa : s.heap.get? a = some { cls := .type "list", data := .seq vs.toArray }) (rm : Room k callerA)
    (F : ∀ base : Heap, K.In base → base.Ns mainGlobals mg → FnG P w K mg base k fa fd [x] sp) (bt : ∀ (s : Shared) (u : Value), BindsTo s fd ⟨[u], []⟩ [(x, u)])
    (only : Only H) (hok : HOk P w H s.heap) (alone : ∀ b, H b ≠ none → b = a) (noK : H a ≠ none → K.lookup a = none) (due : sp [.ref a] H (fun v _ => v = .bl true) E0) :
    codeAny (model P w) callerA (.call (.ref fa) ⟨[.ref a], []⟩) (fun r s' => r = .ok (.ret (.bool true)) ∧ OldK s.heap s'.heap ∧ s'.os = s.os ∧ AllBare s'.gens) s := by
  have isA : ∀ {b : Addr} {u : HO}, H b = some u → b = a := fun {b u} q => alone b (by rw [q]; exact fun z => nomatch z)
  have dictFree : ∀ {b : Addr} {m : Str → Option Value}, s.heap.Ns b m → H b = none := by
    rintro b m ⟨o, es, ep, e, d, _⟩
    cases q : H b with
    | none => rfl
    | some u =>
      have eb := isA q
      subst eb
      rw [sa] at e
      cases e
      cases d
  have still : ∀ {b : Addr} {m : Str → Option Value}, s.heap.Ns b m → (hidT s.heap H).Ns b m := by
    intro b m n
    have fr := dictFree n
    obtain ⟨o, es, ep, e, r⟩ := n
    exact ⟨o, es, ep, hidT_get e fr, r⟩
  have kb : K.In (hidT s.heap H) := by
    intro b o e
    refine hidT_get (kin b o e) ?_
    cases q : H b with
    | none => rfl
    | some u =>
      have eb := isA q
      subst eb
      have z := noK (by rw [q]; exact fun z => nomatch z)
      rw [z] at e
      cases e
  obtain ⟨ml, l1, l2⟩ := nl
  have env : Env0 P w K mg (hidT s.heap H) callerA [] s H :=
    { frames := rfl, mod := ⟨kb, still ng, ⟨mb, still nb, eb⟩, ⟨ml, still l1, l2⟩⟩, bs := fun b o e => of_hidT e, bsz := Nat.le_of_eq (hidT_size _ _), funs := trivial, frf := fun b hb => (nomatch hb), hok := hok, bare := .of_eq gs }
  refine codeAny_mono ((F _ kb (still ng)).go (us := [Value.ref a]) (vs := [V.ref a]) rfl rm env (bt s (.ref a)) (Paired.cons rfl Paired.nil) due) ?_
  intro r s' hq
  match r, hq with
  | .error _, hq => exact hq.elim
  | .ok (.ret u), ⟨v, H', os, bare, un, hok', rv, q⟩ =>
    have q : v = .bl true := q
    subst q
    cases rv
    refine ⟨rfl, OldK.of_keep ?_, os, bare⟩
    intro b o e
    cases qb : H b with
    | none => exact un.keep b o e qb (fun z => nomatch z) (fun z => nomatch z)
    | some u =>
      rcases only b with z | ⟨ob, xs, z⟩
      · rw [qb] at z
        cases z
      · obtain ⟨e1, _⟩ := hok b _ z
        rw [e] at e1
        cases e1
        exact (hok' b _ (un.frzs b o _ z)).1

theorem top_call {P : Program} {w : World} {K : PySem.W.Frag} {mg mb : Str → Option Value} {k : Nat} {fa a : Addr} {fd : FuncData} {x : Str} {sp : Sp} {s : Shared} {vs : List Value} {ns : List Int}
    (kin : K.In s.heap) (ng : s.heap.Ns mainGlobals mg) (nb : s.heap.Ns builtinsNs mb) (eb : ∀ y : Str, y ≠ "__name__" → mb y = bootBuiltins y) (nl : s.heap.NoLimit) (gs : s.gens = #[])
    (sa : s.heap.get? a = some { cls := .type "list", data := .seq vs.toArray }) (ia : IntsAre vs ns) (len : ns.length ≤ sizeLine) (rm : Room k callerA)
    (F : ∀ base : Heap, K.In base → base.Ns mainGlobals mg → FnG P w K mg base k fa fd [x] sp) (bt : ∀ (s : Shared) (u : Value), BindsTo s fd ⟨[u], []⟩ [(x, u)])
    (due : ∀ H : Hp, Only H → SqL K H a (ns.map V.int) → sp [.ref a] H (fun v _ => v = .bl true) E0) :
    codeAny (model P w) callerA (.call (.ref fa) ⟨[.ref a], []⟩) (fun r s' => r = .ok (.ret (.bool true)) ∧ OldK s.heap s'.heap ∧ s'.os = s.os ∧ AllBare s'.gens) s := by
  have rv := vals_ints ia
  cases hk : K.lookup a with
  | some o =>
    have e := kin a o hk
    rw [sa] at e
    cases e
    have on : Only (fun _ => none) := fun _ => .inl rfl
    refine top_run kin ng nb eb nl gs sa rm F bt on (fun b u z => ?_) (fun b z => absurd rfl z) (fun z => absurd rfl z) (due _ on (.inr ⟨_, vs.toArray, _, hk, rfl, rfl, rfl, ?_, ?_⟩))
    · exact nomatch z
    · rw [List.size_toArray, ia.length]
      exact len
    · simpa using rv
  | none =>
    have at_ : (fun b => if b = a then some (HO.frz { cls := .type "list", data := .seq vs.toArray } (.lst (ns.map V.int))) else none) a = some (HO.frz { cls := .type "list", data := .seq vs.toArray } (.lst (ns.map V.int))) := if_pos rfl
    have off : ∀ b, b ≠ a → (fun b => if b = a then some (HO.frz { cls := .type "list", data := .seq vs.toArray } (.lst (ns.map V.int))) else none) b = none := fun b n => if_neg n
    generalize (fun b => if b = a then some (HO.frz { cls := .type "list", data := .seq vs.toArray } (.lst (ns.map V.int))) else none) = H at at_ off
    have on : Only H := fun b => by
      by_cases n : b = a
      · subst n
        exact .inr ⟨_, _, at_⟩
      · exact .inl (off b n)
    refine top_run kin ng nb eb nl gs sa rm F bt on (fun b u z => ?_) (fun b z => ?_) (fun _ => hk) (due _ on (.inl (.inr ⟨_, at_⟩)))
    · by_cases n : b = a
      · subst n
        rw [at_] at z
        cases z
        exact ⟨sa, by rw [List.length_map]; exact len, vs, _, rv, sa⟩
      · rw [off b n] at z
        cases z
    · by_cases n : b = a
      · exact n
      · exact absurd (off b n) z

theorem walk_g {l : PySem.W.OpenLaw} {k : Nat} {q : Program} {loose : List Str} {XP : (Str → Option Value) → Heap → Prop} {YP : World → Heap → Prop} {d : DefRec} {K : Params → PySem.W.Frag} {sp : PySem.W.Frag → Sp} {x : Str}
    (hn : l.most = some 63) (hdf : d.params.defaults = []) (hr : Room k callerA) (hY : ∀ (w : World) (h : Heap), YP w h → (K w.params).In h)
    (F : ∀ (w : World) (mg : Str → Option Value) (fa : Addr) (h : Heap), (K w.params).In h → h.Ns mainGlobals mg → mg d.name = some (.ref fa) →
      ∃ fd : FuncData, (∀ (s : Shared) (u : Value), BindsTo s fd ⟨[u], []⟩ [(x, u)]) ∧ ∀ base : Heap, (K w.params).In base → base.Ns mainGlobals mg → FnG l.prog w (K w.params) mg base k fa fd [x] (sp (K w.params)))
    (due : ∀ (K : PySem.W.Frag) (H : Hp) (a : Addr) (ns : List Int), ns.length ≤ 63 → Only H → SqL K H a (ns.map V.int) → sp K [.ref a] H (fun v _ => v = .bl true) E0) :
    PySem.W.WalkO q loose XP YP l.row.toRowW d [] (fun f vs => PySem.call f vs) := by
  apply Att.attach_call hn hdf
  intro w s0 s1 mg mb fa o pm cd doc a vs ns G Y ho hd hcd hmg ha hi hlen hg
  have kx := hY w _ Y
  obtain ⟨fd, hb, hF⟩ := F w mg fa _ kx G.T.g hmg
  exact top_call kx G.T.g G.T.b G.T.builtins G.T.nolimit hg ha hi (Nat.le_trans hlen (by decide)) hr hF hb fun H hO hS => due _ H a ns hlen hO hS

/-! ### repr of data -/
structure Tx (n k : Nat) (d : PyData) : Prop where
  sh : d.showable = true
  nd : d.hasDict = false
  dp : d.depth ≤ k
  ln : d.shown.length ≤ n
theorem call_repr {X : Cx} {k : Nat} (hg : X.A.guards = some []) (hr : Room k X.A) : CallR X (.builtin "repr") (fun xs H Q => ∃ (x : V) (d : PyData), xs = [x] ∧ Dp X.K H x d ∧ Tx 16777216 60 d ∧ Q (.str d.shown) H) := by
  intro pins s σ H xs us Q I r q
  obtain ⟨x, d, rfl, hd, tx, q⟩ := q
  obtain ⟨u, rfl, rx⟩ := vals1 r
  have hu := hr.units
  have hz : d.shown.length ≤ sizeLine := by
    rw [sizeLine_eq]
    exact tx.ln
  obtain ⟨as, rd⟩ := Dp.reads I d x u hd rx
  have dp := tx.dp
  have big : ∀ a, u = .ref a → wpAny (model X.prog X.w) X.A (call (.builtin "repr") [u]) (EP X pins σ Q) X.xe s := by
    rintro a rfl
    exact repr_of_reads' rd tx.sh (PyData.noDict_hsm tx.nd) hg (by omega) (fun _ _ e => e) (fun h' u tk hk => ⟨.str _, H, I.kept hk, ⟨_, rfl⟩, q⟩) hz
  have sh := tx.sh
  cases rd with
  | none => exact PySem.P.repr_of_none ⟨.str _, H, I.tok _, ⟨_, rfl⟩, by simpa only [PyData.shown_none] using q⟩
  | bool b => exact PySem.P.repr_of_bool ⟨.str _, H, I.tok _, ⟨_, rfl⟩, by simpa only [PyData.shown_bool] using q⟩
  | int i t => exact PySem.P.repr_of_int (by simpa only [PyData.showable, decide_eq_true_eq] using sh) ⟨.str _, H, I.tok _, ⟨_, rfl⟩, by simpa only [PyData.shown_int] using q⟩
  | str z t => exact PySem.P.repr_of_str ⟨.str _, H, I.tok _, ⟨_, rfl⟩, by simpa only [PyData.shown_str] using q⟩ (by simpa only [PyData.shown_str] using hz)
  | list _ _ _ _ => exact big _ rfl
  | tuple _ _ _ _ => exact big _ rfl
  | dict _ _ _ _ _ => exact big _ rfl

theorem showableAll_iff : ∀ ds : List PyData, PyData.showableAll ds = true ↔ ∀ d ∈ ds, d.showable = true
  | [] => by simp [PyData.showableAll]
  | d :: ds => by simp only [PyData.showableAll, Bool.and_eq_true, showableAll_iff ds, List.mem_cons, forall_eq_or_imp]
theorem hasDictAll_iff : ∀ ds : List PyData, PyData.hasDictAll ds = false ↔ ∀ d ∈ ds, d.hasDict = false
  | [] => by simp [PyData.hasDictAll]
  | d :: ds => by simp only [PyData.hasDictAll, Bool.or_eq_false_iff, hasDictAll_iff ds, List.mem_cons, forall_eq_or_imp]
theorem depthAll_le {k : Nat} : ∀ ds : List PyData, (∀ d ∈ ds, d.depth ≤ k) → PyData.depthAll ds ≤ k
  | [], _ => by simp [PyData.depthAll]
  | d :: ds, h => by
    simp only [PyData.depthAll]
    have h1 := h d List.mem_cons_self
    have h2 := depthAll_le ds fun x hx => h x (List.mem_cons_of_mem _ hx)
    exact Nat.max_le.mpr ⟨h1, h2⟩
theorem shownAll_map : ∀ ds : List PyData, PyData.shownAll ds = ds.map PyData.shown
  | [] => by simp [PyData.shownAll]
  | d :: ds => by simp only [PyData.shownAll, shownAll_map ds, List.map_cons]
theorem join_le (n : Nat) : ∀ ts : List Str, (∀ t ∈ ts, t.length ≤ n) → (Str.join ", " ts).length ≤ ts.length * (n + 2)
  | [], _ => Nat.zero_le _
  | t :: r, h => by
    have h1 := join_length_add (t :: r) (by simp)
    have h2 : ∀ us : List Str, (∀ t ∈ us, t.length ≤ n) → piled us ≤ us.length * (n + 2) := by
      intro us
      induction us with
      | nil => intro _; exact Nat.zero_le _
      | cons u us ih =>
        intro hu
        have a := hu u List.mem_cons_self
        have b := ih fun x hx => hu x (List.mem_cons_of_mem _ hx)
        rw [piled_cons, List.length_cons, Nat.succ_mul]
        omega
    have h3 := h2 _ h
    omega
theorem Tx.mono {n m k l : Nat} {d : PyData} (t : Tx n k d) (h : n ≤ m) (h2 : k ≤ l) : Tx m l d := ⟨t.sh, t.nd, Nat.le_trans t.dp h2, Nat.le_trans t.ln h⟩
theorem Tx.int {i : Int} {n : Nat} (h0 : 0 < n) (h1 : n ≤ 500) (h : i.natAbs < 10 ^ n) : Tx (n + 1) 0 (.int i) := by
  refine ⟨?_, by simp only [PyData.hasDict], by simp only [PyData.depth]; exact Nat.le_refl _, ?_⟩
  · simp only [PyData.showable, decide_eq_true_eq]
    have h2 : i.natAbs < 2 ^ 1920 := Nat.lt_of_lt_of_le h (Nat.le_trans (Nat.pow_le_pow_right (by decide) h1) (by decide +kernel))
    by_cases z : i.natAbs = 0
    · rw [z]
      decide
    · exact (Nat.log2_lt z).mpr h2
  · rw [PyData.shown_int]
    have e := PySem.int_text_length_le10 h0 h
    show (Str.ofString (toString i)).length ≤ n + 1
    rw [PySem.ofString_length]
    exact e
theorem Tx.bool {b : Bool} : Tx 5 0 (.bool b) := by
  refine ⟨by simp only [PyData.showable], by simp only [PyData.hasDict], by simp only [PyData.depth]; exact Nat.le_refl _, ?_⟩
  rw [PyData.shown_bool]
  cases b <;> decide +kernel
theorem Tx.none : Tx 4 0 .none := by
  refine ⟨by simp only [PyData.showable], by simp only [PyData.hasDict], by simp only [PyData.depth]; exact Nat.le_refl _, ?_⟩
  rw [PyData.shown_none]
  decide +kernel
theorem Tx.str {x : Str} (h : ∀ c ∈ x.cps.toList, c < 16 ^ 8) : Tx (10 * x.length + 2) 0 (.str x) := by
  refine ⟨by simp only [PyData.showable], by simp only [PyData.hasDict], by simp only [PyData.depth]; exact Nat.le_refl _, ?_⟩
  rw [PyData.shown_str]
  exact StrLaws.reprText_len x h
theorem Tx.list {n k m : Nat} {ds : List PyData} (h : ∀ d ∈ ds, Tx n k d) (hm : ds.length ≤ m) : Tx (m * (n + 2) + 2) (k + 1) (.list ds) := by
  refine ⟨by simp only [PyData.showable]; exact (showableAll_iff ds).mpr fun d hd => (h d hd).sh, by simp only [PyData.hasDict]; exact (hasDictAll_iff ds).mpr fun d hd => (h d hd).nd, ?_, ?_⟩
  · simp only [PyData.depth]
    exact Nat.succ_le_succ (depthAll_le ds fun d hd => (h d hd).dp)
  · rw [PyData.shown_list, strLen_append, strLen_append, shownAll_map]
    have e1 : ((("[" : String) : Str)).length = 1 := rfl
    have e2 : ((("]" : String) : Str)).length = 1 := rfl
    have e3 := join_le n (ds.map PyData.shown) fun t ht => by
      obtain ⟨d, hd, rfl⟩ := List.mem_map.mp ht
      exact (h d hd).ln
    rw [List.length_map] at e3
    have e4 := Nat.mul_le_mul_right (n + 2) hm
    omega
theorem Tx.tuple {n k m : Nat} {ds : List PyData} (h : ∀ d ∈ ds, Tx n k d) (hm : ds.length ≤ m) : Tx (m * (n + 2) + 3) (k + 1) (.tuple ds) := by
  refine ⟨by simp only [PyData.showable]; exact (showableAll_iff ds).mpr fun d hd => (h d hd).sh, by simp only [PyData.hasDict]; exact (hasDictAll_iff ds).mpr fun d hd => (h d hd).nd, ?_, ?_⟩
  · simp only [PyData.depth]
    exact Nat.succ_le_succ (depthAll_le ds fun d hd => (h d hd).dp)
  · rw [PyData.shown_tuple, strLen_append, strLen_append, shownAll_map]
    have e1 : ((("(" : String) : Str)).length = 1 := rfl
    have e2 : (((if ds.length == 1 then ",)" else ")" : String) : Str)).length ≤ 2 := by split <;> decide
    have e3 := join_le n (ds.map PyData.shown) fun t ht => by
      obtain ⟨d, hd, rfl⟩ := List.mem_map.mp ht
      exact (h d hd).ln
    rw [List.length_map] at e3
    have e4 := Nat.mul_le_mul_right (n + 2) hm
    omega

/-! ### data that lie in the heap -/
theorem dp_map {α : Type} {K : PySem.W.Frag} {H : Hp} {f : α → V} {g : α → PyData} : ∀ {xs : List α}, (∀ x ∈ xs, Dp K H (f x) (g x)) → DpAll K H (xs.map f) (xs.map g)
  | [], _ => .nil
  | x :: xs, h => .cons (h x List.mem_cons_self) (dp_map fun y hy => h y (List.mem_cons_of_mem _ hy))
theorem dp_ints {K : PySem.W.Frag} {H : Hp} (ns : List Int) : DpAll K H (ns.map V.int) (ns.map PyData.int) := dp_map fun n _ => .int n
def Ev.d : Ev → PyData
  | .line l => .int l
  | .look => .str "look"
  | .rot => .str "rotate"
theorem dp_ev {K : PySem.W.Frag} {H : Hp} (e : Ev) : Dp K H e.v e.d := by
  cases e with
  | line l => exact .int l
  | look => exact .str _
  | rot => exact .str _
theorem dp_evs {K : PySem.W.Frag} {H : Hp} (es : List Ev) : DpAll K H (es.map Ev.v) (es.map Ev.d) := dp_map fun e _ => dp_ev e
theorem Ev.tx {e : Ev} {ls : List Int} (h : Ev.ok ls e) (hl : ∀ l ∈ ls, 1 ≤ l ∧ l ≤ 100) : Tx 62 0 e.d := by
  cases e with
  | line l =>
    have := hl l h
    exact (Tx.int (n := 3) (by decide) (by decide) (by omega)).mono (by decide) (Nat.le_refl _)
  | look => exact (Tx.str (x := "look") (by decide +kernel)).mono (by decide) (Nat.le_refl _)
  | rot => exact (Tx.str (x := "rotate") (by decide +kernel)).mono (by decide) (Nat.le_refl _)

theorem inV_int {z : Int} {ls : List Int} (h : z ∈ ls) : inV (.int z) (ls.map V.int) = true := by
  unfold inV
  rw [List.any_map, List.any_eq_true]
  exact ⟨z, h, by show eqV (.int z) (.int z) = true; simp [eqV]⟩
theorem flat_ints (ls : List Int) : (ls.map V.int).all flatV = true := by
  rw [List.all_map, List.all_eq_true]
  intro z _
  rfl
theorem all_true (n : Nat) : (List.replicate n true).all id = true := by
  rw [List.all_eq_true]
  intro b hb
  exact (List.mem_replicate.mp hb).2
theorem trues_snoc (n : Nat) : (List.replicate n true).map V.bl ++ [V.bl true] = (List.replicate (n + 1) true).map V.bl := by
  rw [List.replicate_succ', List.map_append]
  rfl
theorem trues_len (n : Nat) : ((List.replicate n true).map V.bl).length = n := by simp
/-- a list of trues at D, everything that stood stands -/
def TruesAt (D : Addr) (n : Nat) (H : Hp) : Prop := H D = some (.lst ((List.replicate n true).map V.bl))
theorem Tx.small {i : Int} (h : i.natAbs < 10 ^ 3) : Tx 4 0 (.int i) := Tx.int (by decide) (by decide) h

/-- max(1, min(len(script), 3)), max(1, min(3, len(script))) -/
def cntA (n : Nat) : Int := if (if (3 : Int) < (n : Int) then (3 : Int) else (n : Int)) > 1 then (if (3 : Int) < (n : Int) then (3 : Int) else (n : Int)) else 1
def cntB (n : Nat) : Int := if (if (n : Int) < (3 : Int) then (n : Int) else (3 : Int)) > 1 then (if (n : Int) < (3 : Int) then (n : Int) else (3 : Int)) else 1
theorem cntA_in (n : Nat) : 1 ≤ cntA n ∧ cntA n ≤ 3 := by
  unfold cntA
  split <;> (try split) <;> omega
theorem cntB_in (n : Nat) : 1 ≤ cntB n ∧ cntB n ≤ 3 := by
  unfold cntB
  split <;> (try split) <;> omega
end My

namespace My
open PySem PySem.Spec PyProof.Rows L2

/-! ### data as trees, mutable objects as numbered cells -/
structure Wd where
  K : PySem.W.Frag
  cl : Str → Addr

inductive D where
  | non
  | bl (b : Bool)
  | int (i : Int)
  | str (x : Str)
  | ty (n : String)
  | cls (n : Str)
  | tup (xs : List D)
  | tpf (xs : List D)
  | lst (xs : List D)
  | scr (ns : List Int)
  | dk (ks : List Key) (vs : List D)
  | dt (ks : List (List Key)) (vs : List D)
  | set (ns : List Int)
  | ins (n : Str) (fs : List Str) (vs : List D)
  | ref (i : Nat)

abbrev Env := List (Option D)
abbrev Store := List D
abbrev EM := Env → Store → Option (D × Store)
abbrev TM := Env → Store → Option (Bool × Store)
abbrev AM := Env → Store → Option (List D × Store)
inductive Out where
  | nx (e : Env)
  | rt (d : D)
  | bk (e : Env)
  | ct (e : Env)
abbrev SM := Env → Store → Option (Out × Store)
abbrev FM := List D → Store → Option (D × Store)

/-- where the cells stand; what else is no tree (lists under way) -/
structure Lay where
  c : List Addr
  k : List Addr
def Lay.has (L : Lay) (a : Addr) : Prop := a ∈ L.c ∨ a ∈ L.k
def Lay.hide (L : Lay) (p : Addr) : Lay := ⟨L.c, p :: L.k⟩
def Lay.add (L : Lay) (p : Addr) : Lay := ⟨L.c ++ [p], L.k⟩
def Lay.cut (L : Lay) (n : Nat) : Lay := ⟨L.c.take n, L.k⟩
/-- a list that is never written: the script, a list of the module -/
def FzL (K : PySem.W.Frag) (H : Hp) (a : Addr) (xs : List V) : Prop :=
  (∃ o, H a = some (.frz o (.lst xs))) ∨
    ∃ (o : Obj) (its : Array Value) (n : Nat), K.lookup a = some o ∧ o.cls = .type "list" ∧ o.dict = none ∧ o.data = .seq its n ∧ its.size ≤ sizeLine ∧ Vals xs its.toList
theorem FzL.sq {K : PySem.W.Frag} {H : Hp} {a : Addr} {xs : List V} (h : FzL K H a xs) : SqL K H a xs := h.elim (fun ⟨o, e⟩ => .inl (.inr ⟨o, e⟩)) .inr

mutual
def Rep (W : Wd) (ι : Lay) (H : Hp) : D → V → Prop
  | .non, v => v = .non
  | .bl b, v => v = .bl b
  | .int i, v => v = .int i
  | .str x, v => v = .str x
  | .ty n, v => v = .ty n
  | .cls n, v => v = .ref (W.cl n)
  | .tup ds, v => ∃ a, v = .ref a ∧ ∃ vs, H a = some (.tup vs) ∧ Reps W ι H ds vs
  | .tpf ds, v => ∃ a, v = .ref a ∧ ∃ o vs, (o.cls = .type "tuple" ∧ o.dict = none) ∧ H a = some (.frz o (.tup vs)) ∧ Reps W ι H ds vs
  | .lst ds, v => ∃ a, v = .ref a ∧ ¬ ι.has a ∧ ∃ vs, H a = some (.lst vs) ∧ Reps W ι H ds vs
  | .scr ns, v => ∃ a, v = .ref a ∧ FzL W.K H a (ns.map V.int)
  | .dk ks ds, v => ∃ a, v = .ref a ∧ ¬ ι.has a ∧ ∃ vs, H a = some (.dK (ks.zip vs)) ∧ ks.length = ds.length ∧ Reps W ι H ds vs
  | .dt ks ds, v => ∃ a, v = .ref a ∧ ¬ ι.has a ∧ ∃ vs, H a = some (.dT (ks.zip vs)) ∧ ks.length = ds.length ∧ Reps W ι H ds vs
  | .set ns, v => ∃ a, v = .ref a ∧ ¬ ι.has a ∧ H a = some (.set (fun i => decide (i ∈ ns)) ns.length) ∧ ns.Nodup
  | .ins n fs ds, v => ∃ a, v = .ref a ∧ ¬ ι.has a ∧ ∃ dx vs, H a = some (.ins (W.cl n) dx (fs.zip vs)) ∧ fs.length = ds.length ∧ Reps W ι H ds vs
  | .ref i, v => ∃ a, v = .ref a ∧ ι.c[i]? = some a
def Reps (W : Wd) (ι : Lay) (H : Hp) : List D → List V → Prop
  | [], vs => vs = []
  | d :: ds, vs => ∃ v r, vs = v :: r ∧ Rep W ι H d v ∧ Reps W ι H ds r
end

/-- a cell's content at its address -/
def CellOk (W : Wd) (ι : Lay) (H : Hp) (a : Addr) : D → Prop
  | .lst ds => ∃ vs, H a = some (.lst vs) ∧ Reps W ι H ds vs
  | .dk ks ds => ∃ vs, H a = some (.dK (ks.zip vs)) ∧ ks.length = ds.length ∧ Reps W ι H ds vs
  | .dt ks ds => ∃ vs, H a = some (.dT (ks.zip vs)) ∧ ks.length = ds.length ∧ Reps W ι H ds vs
  | .set ns => H a = some (.set (fun i => decide (i ∈ ns)) ns.length) ∧ ns.Nodup
  | .ins n fs ds => ∃ dx vs, H a = some (.ins (W.cl n) dx (fs.zip vs)) ∧ fs.length = ds.length ∧ Reps W ι H ds vs
  | _ => False

structure RelH (W : Wd) (ι : Lay) (H : Hp) (st : Store) : Prop where
  len : ι.c.length = st.length
  nd : ι.c.Nodup
  dis : ∀ a ∈ ι.c, a ∉ ι.k
  hidd : ∀ a ∈ ι.k, ∃ o, H a = some o
  cell : ∀ (i : Nat) (c : D), st[i]? = some c → ∃ a, ι.c[i]? = some a ∧ CellOk W ι H a c
structure REnv (W : Wd) (ι : Lay) (H : Hp) (env : Env) (σ : L2.St) : Prop where
  len : env.length = σ.length
  get : ∀ (i : Nat) (d : D), env[i]? = some (some d) → ∃ v, σ[i]? = some (some v) ∧ Rep W ι H d v
/-- what trees lean on stands -/
structure Gro (ι : Lay) (H : Hp) (ι' : Lay) (H' : Hp) : Prop where
  pre : ∀ (i : Nat) (a : Addr), ι.c[i]? = some a → ι'.c[i]? = some a
  keep : ∀ (a : Addr) (o : HO), (¬ ι.has a ∨ ¬ Mut (some o)) → H a = some o → H' a = some o
  notin : ∀ (a : Addr) (o : HO), ¬ ι.has a → H a = some o → ¬ ι'.has a
/-- the heap grows: what is no cell stands -/
structure Grow (ι : Lay) (H : Hp) (ι' : Lay) (H' : Hp) : Prop where
  pre : ∀ (i : Nat) (a : Addr), ι.c[i]? = some a → ι'.c[i]? = some a
  keep : ∀ (a : Addr) (o : HO), (a ∉ ι.c ∨ ¬ Mut (some o)) → H a = some o → H' a = some o
  new : ∀ a ∈ ι'.c, a ∈ ι.c ∨ H a = none
  hid : ι'.k = ι.k

section
variable {W : Wd} {ι ι' ι'' : Lay} {H H' H'' : Hp}
theorem Grow.refl : Grow ι H ι H := ⟨fun _ _ h => h, fun _ _ _ h => h, fun _ h => .inl h, rfl⟩
theorem Grow.gro (g : Grow ι H ι' H') : Gro ι H ι' H' :=
  ⟨g.pre, fun a o n h => g.keep a o (n.imp (fun n m => n (.inl m)) id) h, fun a o n h m => by
    rcases m with m | m
    · rcases g.new a m with z | z
      · exact n (.inl z)
      · rw [h] at z; cases z
    · rw [g.hid] at m
      exact n (.inr m)⟩
theorem Grow.trans (g : Grow ι H ι' H') (k : Grow ι' H' ι'' H'') : Grow ι H ι'' H'' where
  pre := fun i a h => k.pre i a (g.pre i a h)
  keep := fun a o n h => k.keep a o (n.imp (fun n m => by
    rcases g.new a m with z | z
    · exact n z
    · rw [h] at z; cases z) id) (g.keep a o n h)
  new := fun a m => by
    rcases k.new a m with z | z
    · exact g.new a z
    · by_cases q : a ∈ ι.c
      · exact .inl q
      · refine .inr ?_
        cases e : H a with
        | none => rfl
        | some o => rw [g.keep a o (.inl q) e] at z; cases z
  hid := k.hid.trans g.hid
theorem Gro.sqT (g : Gro ι H ι' H') {K : PySem.W.Frag} {a : Addr} {vs : List V} (h : SqT K H a vs) : SqT K H' a vs := by
  rcases h with (h | ⟨o, h⟩) | h
  · exact .inl (.inl (g.keep _ _ (.inr fun z => z) h))
  · exact .inl (.inr ⟨o, g.keep _ _ (.inr fun z => z) h⟩)
  · exact .inr h
theorem Gro.fzL (g : Gro ι H ι' H') {K : PySem.W.Frag} {a : Addr} {vs : List V} (h : FzL K H a vs) : FzL K H' a vs := by
  rcases h with ⟨o, h⟩ | h
  · exact .inl ⟨o, g.keep _ _ (.inr fun z => z) h⟩
  · exact .inr h
mutual
theorem Rep.gro (g : Gro ι H ι' H') : ∀ (d : D) (v : V), Rep W ι H d v → Rep W ι' H' d v
  | .non, _, h => by simpa only [Rep] using h
  | .bl _, _, h => by simpa only [Rep] using h
  | .int _, _, h => by simpa only [Rep] using h
  | .str _, _, h => by simpa only [Rep] using h
  | .ty _, _, h => by simpa only [Rep] using h
  | .cls _, _, h => by simpa only [Rep] using h
  | .tup ds, v, h => by
    simp only [Rep] at h ⊢
    obtain ⟨a, e, vs, h1, h2⟩ := h
    exact ⟨a, e, vs, g.keep _ _ (.inr fun z => z) h1, Reps.gro g ds vs h2⟩
  | .tpf ds, v, h => by
    simp only [Rep] at h ⊢
    obtain ⟨a, e, o, vs, h0, h1, h2⟩ := h
    exact ⟨a, e, o, vs, h0, g.keep _ _ (.inr fun z => z) h1, Reps.gro g ds vs h2⟩
  | .lst ds, v, h => by
    simp only [Rep] at h ⊢
    obtain ⟨a, e, n, vs, h1, h2⟩ := h
    exact ⟨a, e, g.notin _ _ n h1, vs, g.keep _ _ (.inl n) h1, Reps.gro g ds vs h2⟩
  | .scr ns, v, h => by
    simp only [Rep] at h ⊢
    obtain ⟨a, e, h1⟩ := h
    exact ⟨a, e, g.fzL h1⟩
  | .dk ks ds, v, h => by
    simp only [Rep] at h ⊢
    obtain ⟨a, e, n, vs, h1, l, h2⟩ := h
    exact ⟨a, e, g.notin _ _ n h1, vs, g.keep _ _ (.inl n) h1, l, Reps.gro g ds vs h2⟩
  | .dt ks ds, v, h => by
    simp only [Rep] at h ⊢
    obtain ⟨a, e, n, vs, h1, l, h2⟩ := h
    exact ⟨a, e, g.notin _ _ n h1, vs, g.keep _ _ (.inl n) h1, l, Reps.gro g ds vs h2⟩
  | .set ns, v, h => by
    simp only [Rep] at h ⊢
    obtain ⟨a, e, n, h1, l⟩ := h
    exact ⟨a, e, g.notin _ _ n h1, g.keep _ _ (.inl n) h1, l⟩
  | .ins m fs ds, v, h => by
    simp only [Rep] at h ⊢
    obtain ⟨a, e, n, dx, vs, h1, l, h2⟩ := h
    exact ⟨a, e, g.notin _ _ n h1, dx, vs, g.keep _ _ (.inl n) h1, l, Reps.gro g ds vs h2⟩
  | .ref i, v, h => by
    simp only [Rep] at h ⊢
    obtain ⟨a, e, h1⟩ := h
    exact ⟨a, e, g.pre _ _ h1⟩
theorem Reps.gro (g : Gro ι H ι' H') : ∀ (ds : List D) (vs : List V), Reps W ι H ds vs → Reps W ι' H' ds vs
  | [], _, h => by simpa only [Reps] using h
  | d :: ds, vs, h => by
    simp only [Reps] at h ⊢
    obtain ⟨v, r, e, h1, h2⟩ := h
    exact ⟨v, r, e, Rep.gro g d v h1, Reps.gro g ds r h2⟩
end
theorem Rep.grow (g : Grow ι H ι' H') (d : D) (v : V) (h : Rep W ι H d v) : Rep W ι' H' d v := Rep.gro g.gro d v h
theorem Reps.grow (g : Grow ι H ι' H') (ds : List D) (vs : List V) (h : Reps W ι H ds vs) : Reps W ι' H' ds vs := Reps.gro g.gro ds vs h
theorem Reps.nil : Reps W ι H [] [] := by simp only [Reps]
theorem Reps.cons {d : D} {ds : List D} {v : V} {vs : List V} (h : Rep W ι H d v) (t : Reps W ι H ds vs) : Reps W ι H (d :: ds) (v :: vs) := by
  simp only [Reps]
  exact ⟨v, vs, rfl, h, t⟩
theorem Reps.uncons {d : D} {ds : List D} {vs : List V} (h : Reps W ι H (d :: ds) vs) : ∃ v r, vs = v :: r ∧ Rep W ι H d v ∧ Reps W ι H ds r := by simpa only [Reps] using h
theorem Reps.nil_of {vs : List V} (h : Reps W ι H [] vs) : vs = [] := by simpa only [Reps] using h
theorem Reps.length : ∀ {ds : List D} {vs : List V}, Reps W ι H ds vs → ds.length = vs.length
  | [], _, h => by rw [h.nil_of]; rfl
  | d :: ds, vs, h => by
    obtain ⟨v, r, rfl, _, t⟩ := h.uncons
    simp [Reps.length t]
theorem Reps.get : ∀ {ds : List D} {vs : List V} {i : Nat} {d : D}, Reps W ι H ds vs → ds[i]? = some d → ∃ v, vs[i]? = some v ∧ Rep W ι H d v
  | [], _, i, d, _, e => by simp at e
  | d :: ds, vs, 0, x, h, e => by
    obtain ⟨v, r, rfl, h1, t⟩ := h.uncons
    simp at e
    subst e
    exact ⟨v, rfl, h1⟩
  | d :: ds, vs, i + 1, x, h, e => by
    obtain ⟨v, r, rfl, h1, t⟩ := h.uncons
    obtain ⟨u, h2, h3⟩ := Reps.get (i := i) (d := x) t (by simpa using e)
    exact ⟨u, by simpa using h2, h3⟩
theorem Reps.get' : ∀ {ds : List D} {vs : List V} {i : Nat} {v : V}, Reps W ι H ds vs → vs[i]? = some v → ∃ d, ds[i]? = some d ∧ Rep W ι H d v := fun {ds vs i v} h e => by
  have hl := h.length
  have hi : i < ds.length := by
    rw [hl]
    exact (List.getElem?_eq_some_iff.mp e).1
  obtain ⟨u, h1, h2⟩ := h.get (List.getElem?_eq_getElem hi)
  rw [e] at h1
  cases h1
  exact ⟨_, List.getElem?_eq_getElem hi, h2⟩
theorem Reps.append : ∀ {ds es : List D} {vs us : List V}, Reps W ι H ds vs → Reps W ι H es us → Reps W ι H (ds ++ es) (vs ++ us)
  | [], _, _, _, h, k => by rw [h.nil_of]; exact k
  | d :: ds, es, vs, us, h, k => by
    obtain ⟨v, r, rfl, h1, t⟩ := h.uncons
    exact Reps.cons h1 (Reps.append t k)
theorem Reps.set {d : D} {v : V} (q : Rep W ι H d v) : ∀ {ds : List D} {vs : List V} (i : Nat), Reps W ι H ds vs → Reps W ι H (ds.set i d) (vs.set i v)
  | [], _, _, h => by rw [h.nil_of]; exact Reps.nil
  | _ :: _, _, 0, h => by
    obtain ⟨v, r, rfl, h1, t⟩ := h.uncons
    exact Reps.cons q t
  | _ :: _, _, i + 1, h => by
    obtain ⟨v, r, rfl, h1, t⟩ := h.uncons
    exact Reps.cons h1 (Reps.set q i t)
theorem Reps.take : ∀ {ds : List D} {vs : List V} (n : Nat), Reps W ι H ds vs → Reps W ι H (ds.take n) (vs.take n)
  | _, _, 0, _ => by simp only [List.take_zero]; exact Reps.nil
  | [], _, n + 1, h => by rw [h.nil_of]; exact Reps.nil
  | _ :: _, _, n + 1, h => by
    obtain ⟨v, r, rfl, h1, t⟩ := h.uncons
    exact Reps.cons h1 (Reps.take n t)
theorem Reps.drop : ∀ {ds : List D} {vs : List V} (n : Nat), Reps W ι H ds vs → Reps W ι H (ds.drop n) (vs.drop n)
  | _, _, 0, h => h
  | [], _, n + 1, h => by rw [h.nil_of]; exact Reps.nil
  | _ :: _, _, n + 1, h => by
    obtain ⟨v, r, rfl, h1, t⟩ := h.uncons
    exact Reps.drop n t
theorem Reps.map {α : Type} {f : α → D} {g : α → V} : ∀ {xs : List α}, (∀ x ∈ xs, Rep W ι H (f x) (g x)) → Reps W ι H (xs.map f) (xs.map g)
  | [], _ => Reps.nil
  | x :: xs, h => Reps.cons (h x List.mem_cons_self) (Reps.map fun y hy => h y (List.mem_cons_of_mem _ hy))
theorem Reps.of_all {ds : List D} {f : D → V} (h : ∀ d ∈ ds, Rep W ι H d (f d)) : Reps W ι H ds (ds.map f) := by
  have := Reps.map (W := W) (ι := ι) (H := H) (xs := ds) (f := id) (g := f) h
  simpa using this
theorem Reps.ints {ns : List Int} {vs : List V} (h : Reps W ι H (ns.map D.int) vs) : vs = ns.map V.int := by
  induction ns generalizing vs with
  | nil => exact h.nil_of
  | cons n ns ih =>
    obtain ⟨v, r, rfl, h1, t⟩ := h.uncons
    simp only [Rep] at h1
    rw [h1, ih t]; rfl
theorem Reps.eq_of {ds : List D} {vs us : List V} (f : ∀ d ∈ ds, ∀ v u, Rep W ι H d v → Rep W ι' H' d u → v = u) (h : Reps W ι H ds vs) (k : Reps W ι' H' ds us) : vs = us := by
  induction ds generalizing vs us with
  | nil => rw [h.nil_of, k.nil_of]
  | cons d ds ih =>
    obtain ⟨v, r, rfl, h1, t⟩ := h.uncons
    obtain ⟨u, s, rfl, k1, q⟩ := k.uncons
    rw [f d List.mem_cons_self v u h1 k1, ih (fun x hx => f x (List.mem_cons_of_mem _ hx)) t q]

theorem CellOk.there {a : Addr} {c : D} (h : CellOk W ι H a c) : ∃ o, H a = some o ∧ Mut (some o) := by
  cases c with
  | lst ds => obtain ⟨vs, e, _⟩ := h; exact ⟨_, e, trivial⟩
  | dk ks ds => obtain ⟨vs, e, _⟩ := h; exact ⟨_, e, trivial⟩
  | dt ks ds => obtain ⟨vs, e, _⟩ := h; exact ⟨_, e, trivial⟩
  | set ns => exact ⟨_, h.1, trivial⟩
  | ins n fs ds => obtain ⟨dx, vs, e, _⟩ := h; exact ⟨_, e, trivial⟩
  | _ => exact h.elim
/-- the cell stays where its object stays -/
theorem CellOk.move {a : Addr} {c : D} (g : Gro ι H ι' H') (e : ∀ o, H a = some o → H' a = some o) (h : CellOk W ι H a c) : CellOk W ι' H' a c := by
  cases c with
  | lst ds => obtain ⟨vs, q, r⟩ := h; exact ⟨vs, e _ q, Reps.gro g _ _ r⟩
  | dk ks ds => obtain ⟨vs, q, l, r⟩ := h; exact ⟨vs, e _ q, l, Reps.gro g _ _ r⟩
  | dt ks ds => obtain ⟨vs, q, l, r⟩ := h; exact ⟨vs, e _ q, l, Reps.gro g _ _ r⟩
  | set ns => exact ⟨e _ h.1, h.2⟩
  | ins n fs ds => obtain ⟨dx, vs, q, l, r⟩ := h; exact ⟨dx, vs, e _ q, l, Reps.gro g _ _ r⟩
  | _ => exact h.elim
theorem RelH.at {st : Store} (r : RelH W ι H st) {i : Nat} {a : Addr} (h : ι.c[i]? = some a) : ∃ c, st[i]? = some c ∧ CellOk W ι H a c := by
  have hi : i < st.length := by rw [← r.len]; exact (List.getElem?_eq_some_iff.mp h).1
  obtain ⟨b, h1, h2⟩ := r.cell i _ (List.getElem?_eq_getElem hi)
  rw [h] at h1
  cases h1
  exact ⟨_, List.getElem?_eq_getElem hi, h2⟩
theorem RelH.mem {st : Store} (r : RelH W ι H st) {a : Addr} (h : a ∈ ι.c) : ∃ o, H a = some o ∧ Mut (some o) := by
  obtain ⟨i, hi, e⟩ := List.mem_iff_getElem.mp h
  obtain ⟨c, _, k⟩ := r.at (List.getElem?_eq_some_iff.mpr ⟨hi, e⟩)
  exact k.there
theorem RelH.notin {st : Store} (r : RelH W ι H st) {p : Addr} (h : H p = none) : p ∉ ι.c := fun m => by
  obtain ⟨o, e, _⟩ := r.mem m
  rw [h] at e; cases e
/-- what is hidden lies in the heap -/
theorem RelH.free {st : Store} (r : RelH W ι H st) {p : Addr} (h : H p = none) : ¬ ι.has p := fun m => by
  rcases m with m | m
  · exact r.notin h m
  · obtain ⟨o, e⟩ := r.hidd p m
    rw [h] at e; cases e
theorem Grow.laid {p : Addr} {o : HO} (h : H p = none) : Grow ι H ι (upd H p o) :=
  ⟨fun _ _ h => h, fun a u _ e => kp_new h e, fun _ m => .inl m, rfl⟩
theorem RelH.laid {st : Store} (r : RelH W ι H st) {p : Addr} {o : HO} (h : H p = none) : RelH W ι (upd H p o) st :=
  ⟨r.len, r.nd, r.dis, fun a m => by
    obtain ⟨u, e⟩ := r.hidd a m
    exact ⟨u, kp_new h e⟩, fun i c e => by
    obtain ⟨a, h1, h2⟩ := r.cell i c e
    exact ⟨a, h1, h2.move (Grow.laid h).gro fun u q => kp_new h q⟩⟩
/-- a new cell -/
theorem Grow.cell {p : Addr} {o : HO} (h : H p = none) : Grow ι H (ι.add p) (upd H p o) :=
  ⟨fun i a e => by
    have := (List.getElem?_eq_some_iff.mp e).1
    show (ι.c ++ [p])[i]? = some a
    rw [List.getElem?_append_left this]; exact e, fun a u _ e => kp_new h e, fun a m => by
    rcases List.mem_append.mp (show a ∈ ι.c ++ [p] from m) with z | z
    · exact .inl z
    · rw [List.mem_singleton.mp z]; exact .inr h, rfl⟩
theorem RelH.new {st : Store} (r : RelH W ι H st) {p : Addr} {o : HO} {c : D} (h : H p = none) (k : CellOk W (ι.add p) (upd H p o) p c) : RelH W (ι.add p) (upd H p o) (st ++ [c]) := by
  refine ⟨by show (ι.c ++ [p]).length = _; simp [r.len], ?_, fun a m => ?_, fun a m => ?_, fun i d e => ?_⟩
  · show (ι.c ++ [p]).Nodup
    rw [List.nodup_append]
    refine ⟨r.nd, by simp, fun a m b mb z => ?_⟩
    rw [List.mem_singleton.mp mb] at z
    exact r.notin h (z ▸ m)
  · rcases List.mem_append.mp (show a ∈ ι.c ++ [p] from m) with z | z
    · exact r.dis a z
    · rw [List.mem_singleton.mp z]
      exact fun q => r.free h (.inr q)
  · obtain ⟨u, e⟩ := r.hidd a m
    exact ⟨u, kp_new h e⟩
  · by_cases hi : i < st.length
    · rw [List.getElem?_append_left hi] at e
      obtain ⟨a, h1, h2⟩ := r.cell i d e
      exact ⟨a, (Grow.cell (o := o) h).pre _ _ h1, h2.move (Grow.cell h).gro fun u q => kp_new h q⟩
    · have : i = st.length := by
        have := (List.getElem?_eq_some_iff.mp e).1
        simp at this; omega
      subst this
      simp at e
      subst e
      exact ⟨p, by rw [← r.len]; show (ι.c ++ [p])[_]? = _; simp, k⟩
/-- a cell is written -/
theorem Grow.put {i : Nat} {a : Addr} {o u : HO} (h : ι.c[i]? = some a) (ha : H a = some u) (mu : Mut (some u)) : Grow ι H ι (upd H a o) :=
  ⟨fun _ _ h => h, fun b w n e => by
    refine kp_set (fun z => ?_) e
    subst z
    rcases n with n | n
    · exact n (List.mem_of_getElem? h)
    · rw [ha] at e; cases e; exact n mu, fun _ m => .inl m, rfl⟩
theorem RelH.put {st : Store} (r : RelH W ι H st) {i : Nat} {a : Addr} {o : HO} {c : D} (h : ι.c[i]? = some a) (k : CellOk W ι (upd H a o) a c) : RelH W ι (upd H a o) (st.set i c) := by
  obtain ⟨u, hu, mu⟩ := r.mem (List.mem_of_getElem? h)
  refine ⟨by simp [r.len], r.nd, r.dis, fun b m => ?_, fun j d e => ?_⟩
  · obtain ⟨u, e⟩ := r.hidd b m
    exact ⟨u, kp_set (fun z => r.dis a (List.mem_of_getElem? h) (z ▸ m)) e⟩
  by_cases hj : i = j
  · subst hj
    have hi : i < st.length := by rw [← r.len]; exact (List.getElem?_eq_some_iff.mp h).1
    rw [List.getElem?_set_self hi] at e
    cases e
    exact ⟨a, h, k⟩
  · rw [List.getElem?_set_ne hj] at e
    obtain ⟨b, h1, h2⟩ := r.cell j d e
    refine ⟨b, h1, h2.move (Grow.put h hu mu).gro fun w q => kp_set (fun z => hj ?_) q⟩
    subst z
    have h3 := List.getElem?_eq_some_iff.mp h
    have h4 := List.getElem?_eq_some_iff.mp h1
    obtain ⟨l3, e3⟩ := h3
    obtain ⟨l4, e4⟩ := h4
    exact (List.getElem_inj r.nd).mp (e3.trans e4.symm)
/-- a list under way: laid, written, told -/
theorem Gro.hide {p : Addr} {o : HO} (h : H p = none) : Gro ι H (ι.hide p) (upd H p o) :=
  ⟨fun _ _ h => h, fun a u _ e => kp_new h e, fun a u n e m => by
    rcases m with m | m
    · exact n (.inl m)
    · rcases List.mem_cons.mp m with z | z
      · exact ne_of_none e h z
      · exact n (.inr z)⟩
theorem RelH.hide {st : Store} (r : RelH W ι H st) {p : Addr} {o : HO} (h : H p = none) : RelH W (ι.hide p) (upd H p o) st :=
  ⟨r.len, r.nd, fun a m q => by
    rcases List.mem_cons.mp q with z | z
    · exact r.notin h (z ▸ m)
    · exact r.dis a m z, fun a m => by
    rcases List.mem_cons.mp m with z | z
    · exact ⟨_, by rw [z]; exact upd_same⟩
    · obtain ⟨u, e⟩ := r.hidd a z
      exact ⟨u, kp_new h e⟩, fun i c e => by
    obtain ⟨a, h1, h2⟩ := r.cell i c e
    exact ⟨a, h1, h2.move (Gro.hide h) fun u q => kp_new h q⟩⟩
theorem Gro.over {p : Addr} {o u : HO} (h : p ∈ ι.k) (hp : H p = some u) (mu : Mut (some u)) : Gro ι H ι (upd H p o) :=
  ⟨fun _ _ h => h, fun a w n e => kp_set (fun z => by
    subst z
    rcases n with n | n
    · exact n (.inr h)
    · rw [hp] at e; cases e; exact n mu) e, fun a w n _ => n⟩
theorem RelH.over {st : Store} (r : RelH W ι H st) {p : Addr} {o u : HO} (h : p ∈ ι.k) (hp : H p = some u) (mu : Mut (some u)) : RelH W ι (upd H p o) st :=
  ⟨r.len, r.nd, r.dis, fun a m => by
    by_cases z : a = p
    · exact ⟨o, by rw [z]; exact upd_same⟩
    · obtain ⟨w, e⟩ := r.hidd a m
      exact ⟨w, kp_set z e⟩, fun i c e => by
    obtain ⟨a, h1, h2⟩ := r.cell i c e
    refine ⟨a, h1, h2.move (Gro.over h hp mu) fun w q => kp_set (fun z => ?_) q⟩
    exact r.dis a (List.mem_of_getElem? h1) (z ▸ h)⟩
theorem Gro.show {p : Addr} : Gro (ι.hide p) H ι H :=
  ⟨fun _ _ h => h, fun _ _ _ h => h, fun a u n _ m => n (by
    rcases m with m | m
    · exact .inl m
    · exact .inr (List.mem_cons_of_mem _ m))⟩
theorem RelH.show {st : Store} {p : Addr} (r : RelH W (ι.hide p) H st) : RelH W ι H st :=
  ⟨r.len, r.nd, fun a m q => r.dis a m (List.mem_cons_of_mem _ q), fun a m => r.hidd a (List.mem_cons_of_mem _ m), fun i c e => by
    obtain ⟨a, h1, h2⟩ := r.cell i c e
    exact ⟨a, h1, h2.move Gro.show fun u q => q⟩⟩
theorem REnv.gro {env : Env} {σ : L2.St} (r : REnv W ι H env σ) (g : Gro ι H ι' H') : REnv W ι' H' env σ :=
  ⟨r.len, fun i d e => by
    obtain ⟨v, h1, h2⟩ := r.get i d e
    exact ⟨v, h1, Rep.gro g d v h2⟩⟩
theorem REnv.grow {env : Env} {σ : L2.St} (r : REnv W ι H env σ) (g : Grow ι H ι' H') : REnv W ι' H' env σ :=
  ⟨r.len, fun i d e => by
    obtain ⟨v, h1, h2⟩ := r.get i d e
    exact ⟨v, h1, Rep.grow g d v h2⟩⟩
theorem REnv.set {env : Env} {σ : L2.St} (r : REnv W ι H env σ) (i : Nat) {d : D} {v : V} (h : Rep W ι H d v) : REnv W ι H (env.set i (some d)) (σ.set i (some v)) := by
  refine ⟨by simp [r.len], fun j e q => ?_⟩
  by_cases hj : i = j
  · subst hj
    by_cases hi : i < env.length
    · rw [List.getElem?_set_self hi] at q
      cases q
      exact ⟨v, by rw [List.getElem?_set_self (by rw [← r.len]; exact hi)], h⟩
    · rw [List.getElem?_eq_none (by simpa using hi)] at q
      cases q
  · rw [List.getElem?_set_ne hj] at q
    obtain ⟨u, h1, h2⟩ := r.get j e q
    exact ⟨u, by rw [List.getElem?_set_ne hj]; exact h1, h2⟩
theorem REnv.unset {env : Env} {σ : L2.St} (r : REnv W ι H env σ) (i : Nat) : REnv W ι H (env.set i none) (σ.set i none) := by
  refine ⟨by simp [r.len], fun j e q => ?_⟩
  by_cases hj : i = j
  · subst hj
    by_cases hi : i < env.length
    · rw [List.getElem?_set_self hi] at q
      cases q
    · rw [List.getElem?_eq_none (by simpa using hi)] at q
      cases q
  · rw [List.getElem?_set_ne hj] at q
    obtain ⟨u, h1, h2⟩ := r.get j e q
    exact ⟨u, by rw [List.getElem?_set_ne hj]; exact h1, h2⟩
def wipeE (env : Env) : List Nat → Env
  | [] => env
  | v :: vs => (wipeE env vs).set v none
theorem REnv.wipe {env : Env} {σ : L2.St} (r : REnv W ι H env σ) : ∀ vs : List Nat, REnv W ι H (wipeE env vs) (L2.wipe σ vs)
  | [] => r
  | v :: vs => (REnv.wipe r vs).unset v

/-! ### what is wanted behind a piece -/
def OkE (W : Wd) (ι : Lay) (H : Hp) (d : D) (st' : Store) (Q : VK) : Prop := ∀ v ι' H', Grow ι H ι' H' → RelH W ι' H' st' → Rep W ι' H' d v → Q v H'
def OkB (W : Wd) (ι : Lay) (H : Hp) (b : Bool) (st' : Store) (Q : Bool → Hp → Prop) : Prop := ∀ ι' H', Grow ι H ι' H' → RelH W ι' H' st' → Q b H'
def OkA (W : Wd) (ι : Lay) (H : Hp) (ds : List D) (st' : Store) (Q : List V → Hp → Prop) : Prop := ∀ vs ι' H', Grow ι H ι' H' → RelH W ι' H' st' → Reps W ι' H' ds vs → Q vs H'
def OkN (W : Wd) (ι : Lay) (H : Hp) (env : Env) (st' : Store) (Q : L2.St → Hp → Prop) : Prop := ∀ σ' ι' H', Grow ι H ι' H' → RelH W ι' H' st' → REnv W ι' H' env σ' → Q σ' H'
def OkS (W : Wd) (ι : Lay) (H : Hp) (o : Out) (st' : Store) (D : Ends) : Prop :=
  match o with
  | .nx e => OkN W ι H e st' D.nx
  | .rt d => OkE W ι H d st' D.rt
  | .bk e => OkN W ι H e st' D.bk
  | .ct e => OkN W ι H e st' D.ct
theorem OkE.go {d : D} {st : Store} {Q : VK} (k : OkE W ι H d st Q) (g : Grow ι H ι' H') : OkE W ι' H' d st Q := fun v ι2 H2 g2 => k v ι2 H2 (g.trans g2)
theorem OkB.go {d : Bool} {st : Store} {Q : Bool → Hp → Prop} (k : OkB W ι H d st Q) (g : Grow ι H ι' H') : OkB W ι' H' d st Q := fun ι2 H2 g2 => k ι2 H2 (g.trans g2)
theorem OkA.go {d : List D} {st : Store} {Q : List V → Hp → Prop} (k : OkA W ι H d st Q) (g : Grow ι H ι' H') : OkA W ι' H' d st Q := fun v ι2 H2 g2 => k v ι2 H2 (g.trans g2)
theorem OkN.go {d : Env} {st : Store} {Q : L2.St → Hp → Prop} (k : OkN W ι H d st Q) (g : Grow ι H ι' H') : OkN W ι' H' d st Q := fun v ι2 H2 g2 => k v ι2 H2 (g.trans g2)
theorem OkS.go {o : Out} {st : Store} {D : Ends} (k : OkS W ι H o st D) (g : Grow ι H ι' H') : OkS W ι' H' o st D := by
  cases o with
  | nx e => exact OkN.go (d := e) k g
  | rt d => exact OkE.go (d := d) k g
  | bk e => exact OkN.go (d := e) k g
  | ct e => exact OkN.go (d := e) k g
theorem OkE.now {d : D} {st : Store} {Q : VK} {v : V} (k : OkE W ι H d st Q) (r : RelH W ι H st) (h : Rep W ι H d v) : Q v H := k v ι H Grow.refl r h
theorem OkE.tup {ds : List D} {vs : List V} {st : Store} {Q : VK} {p : Addr} (k : OkE W ι H (.tup ds) st Q) (r : RelH W ι H st) (h : Reps W ι H ds vs) (hp : H p = none) : Q (.ref p) (upd H p (.tup vs)) :=
  k _ ι _ (Grow.laid hp) (r.laid hp) (by simp only [Rep]; exact ⟨p, rfl, vs, upd_same, Reps.grow (Grow.laid hp) _ _ h⟩)
theorem OkE.tpf {ds : List D} {vs : List V} {st : Store} {Q : VK} {p : Addr} {o : Obj} (k : OkE W ι H (.tpf ds) st Q) (r : RelH W ι H st) (h : Reps W ι H ds vs) (hp : H p = none) (ho : o.cls = .type "tuple" ∧ o.dict = none) : Q (.ref p) (upd H p (.frz o (.tup vs))) :=
  k _ ι _ (Grow.laid hp) (r.laid hp) (by simp only [Rep]; exact ⟨p, rfl, o, vs, ho, upd_same, Reps.grow (Grow.laid hp) _ _ h⟩)
theorem OkE.lst {ds : List D} {vs : List V} {st : Store} {Q : VK} {p : Addr} (k : OkE W ι H (.lst ds) st Q) (r : RelH W ι H st) (h : Reps W ι H ds vs) (hp : H p = none) : Q (.ref p) (upd H p (.lst vs)) :=
  k _ ι _ (Grow.laid hp) (r.laid hp) (by simp only [Rep]; exact ⟨p, rfl, r.free hp, vs, upd_same, Reps.grow (Grow.laid hp) _ _ h⟩)
theorem OkE.lstM {ds : List D} {vs : List V} {st : Store} {Q : VK} {p : Addr} (k : OkE W ι H (.ref st.length) (st ++ [.lst ds]) Q) (r : RelH W ι H st) (h : Reps W ι H ds vs) (hp : H p = none) : Q (.ref p) (upd H p (.lst vs)) :=
  k _ (ι.add p) _ (Grow.cell hp) (r.new hp ⟨vs, upd_same, Reps.grow (Grow.cell hp) _ _ h⟩) (by simp only [Rep]; exact ⟨p, rfl, by rw [← r.len]; show (ι.c ++ [p])[_]? = _; simp⟩)
end

/-! ### the readings that belong to the mirrors -/
def T (W : Wd) (m : EM) : TE := fun σ H Q => ∃ ι st env d st', RelH W ι H st ∧ REnv W ι H env σ ∧ m env st = some (d, st') ∧ OkE W ι H d st' Q
def TB (W : Wd) (m : TM) : TT := fun σ H Q => ∃ ι st env d st', RelH W ι H st ∧ REnv W ι H env σ ∧ m env st = some (d, st') ∧ OkB W ι H d st' Q
def TAs (W : Wd) (m : AM) : TA := fun σ H Q => ∃ ι st env d st', RelH W ι H st ∧ REnv W ι H env σ ∧ m env st = some (d, st') ∧ OkA W ι H d st' Q
def TSt (W : Wd) (m : SM) : TS := fun D σ H => ∃ ι st env o st', RelH W ι H st ∧ REnv W ι H env σ ∧ m env st = some (o, st') ∧ OkS W ι H o st' D
section
variable {X : Cx} {e : Expr} {es : List Expr} {st : Stmt} {ss : List Stmt}
theorem _root_.L2.PE.imp {t t' : TE} (h : PE X e t) (k : ∀ σ H Q, t' σ H Q → t σ H Q) : PE X e t' := ⟨fun p s σ H Q I q => h.run p s σ H Q I (k _ _ _ q)⟩
theorem _root_.L2.PT.imp {t t' : TT} (h : PT X e t) (k : ∀ σ H Q, t' σ H Q → t σ H Q) : PT X e t' := ⟨fun p s σ H Q I q => h.run p s σ H Q I (k _ _ _ q)⟩
theorem _root_.L2.PW.imp {t t' : TT} (h : PW X e t) (k : ∀ σ H Q, t' σ H Q → t σ H Q) : PW X e t' := ⟨fun w p s σ H Q I q => h.run w p s σ H Q I (k _ _ _ q)⟩
theorem _root_.L2.PA.imp {t t' : TA} (h : PA X es t) (k : ∀ σ H Q, t' σ H Q → t σ H Q) : PA X es t' := ⟨fun w p s σ H Q I q => h.run w p s σ H Q I (k _ _ _ q)⟩
theorem _root_.L2.PS.imp {t t' : TS} (h : PS X st t) (k : ∀ D σ H, t' D σ H → t D σ H) : PS X st t' := ⟨fun p s σ H D I q => h.run p s σ H D I (k _ _ _ q)⟩
theorem _root_.L2.PSs.imp {t t' : TS} (h : PSs X ss t) (k : ∀ D σ H, t' D σ H → t D σ H) : PSs X ss t' := ⟨fun p s σ H D I q => h.run p s σ H D I (k _ _ _ q)⟩
theorem _root_.L2.PI.imp {tg iter : Expr} {t t' : TI} (h : PI X tg iter t) (k : ∀ σ H R, t' σ H R → t σ H R) : PI X tg iter t' := ⟨fun p s σ H R I q => h.run p s σ H R I (k _ _ _ q)⟩
theorem _root_.L2.PG.imp {tg : Expr} {t t' : TG} (h : PG X tg t) (k : ∀ v σ H Q, t' v σ H Q → t v σ H Q) : PG X tg t' := by
  obtain ⟨r⟩ := h
  constructor
  intros
  first | (apply r <;> first | assumption | exact k _ _ _ _ ‹_›)
end
end My

namespace My
open PySem L2

/-! ### the layer's rules with the written part named: within a comprehension's block it is not X's own field -/
section
variable {X : Cx} {K : PySem.W.Frag}
theorem ix_listK (h : X.K = K) : IxR X (rIxL K) := h ▸ ix_list
theorem ix_tupK (h : X.K = K) : IxR X (rIxT K) := h ▸ ix_tup
theorem ix_seqK (h : X.K = K) : IxR X (rIx K) := h ▸ ix_seq
theorem sl_tupK (h : X.K = K) : SlR X (rSlT K) := h ▸ sl_tup
theorem sl_listK (h : X.K = K) : SlR X (rSlL K) := h ▸ sl_list
theorem op_inK (h : X.K = K) : OpR X (compareOp .In) (rIn K false) := h ▸ op_in_seq
theorem op_notInK (h : X.K = K) : OpR X (compareOp .NotIn) (rIn K true) := h ▸ op_notIn_seq
theorem op_eqDK (h : X.K = K) (hu : X.A.units + 64 < cLine) : OpR X (compareOp .Eq) (rEqD K) := h ▸ op_eqD hu
theorem op_neDK (h : X.K = K) (hu : X.A.units + 64 < cLine) : OpR X (compareOp .NotEq) (rNeD K) := h ▸ op_neD hu
theorem op_catTK (h : X.K = K) : OpR X (binaryOp .Add) (rCatT K) := h ▸ op_catT
def rLen (K : PySem.W.Frag) : List V → Hp → VK → Prop := fun xs H Q => ∃ p ys, xs = [.ref p] ∧ (SqL K H p ys ∨ SqT K H p ys) ∧ Q (.int ys.length) H
theorem call_lenK (h : X.K = K) : CallR X (.builtin "len") (rLen K) := h ▸ call_len_seq
theorem cr_sumK (h : X.K = K) (hc : X.calm = true) : CallR X (.builtin "sum") (rSum K) := h ▸ cr_sum hc
theorem cr_allK (h : X.K = K) (hc : X.calm = true) : CallR X (.builtin "all") (rAll K) := h ▸ cr_all hc
theorem cr_anyK (h : X.K = K) (hc : X.calm = true) : CallR X (.builtin "any") (rAny K) := h ▸ cr_any hc
theorem cr_maxK (h : X.K = K) (hc : X.calm = true) : CallR X (.builtin "max") (rMax K) := h ▸ cr_max hc
theorem cr_minK (h : X.K = K) (hc : X.calm = true) : CallR X (.builtin "min") (rMin K) := h ▸ cr_min hc
theorem call_isiK (h : X.K = K) : CallR X (.builtin "isinstance") (rIsi K) := h ▸ call_isi
def rTupleOf (K : PySem.W.Frag) : List V → Hp → VK → Prop := fun xs H Q => ∃ p ys, xs = [.ref p] ∧ ((SqL K H p ys ∧ ∀ l, H l = none → Q (.ref l) (upd H l (.tup ys))) ∨ (SqT K H p ys ∧ Q (.ref p) H))
theorem call_tupleK (h : X.K = K) : CallR X (.type "tuple") (rTupleOf K) := h ▸ call_tuple_of
def rListOf (K : PySem.W.Frag) : List V → Hp → VK → Prop := fun xs H Q => ∃ p ys, xs = [.ref p] ∧ (SqL K H p ys ∨ SqT K H p ys) ∧ ∀ l, H l = none → Q (.ref l) (upd H l (.lst ys))
theorem call_listK (h : X.K = K) : CallR X (.type "list") (rListOf K) := h ▸ call_list_of
theorem pe_fldK {e : Expr} {ta : TE} {f : Str} {pos : Pos} (h : X.K = K) (he : PE X e ta) (hb : attributeBase e f X.env (eval e X.env) = eval e X.env) : PE X (.Attribute e f pos) (tFld K ta f) := h ▸ pe_fld he hb
theorem pi_listK {tg l : Expr} {tl : TE} (h : X.K = K) (hl : PE X l tl) : PI X tg l (iList K tl) := h ▸ pi_list hl
theorem pi_tupK {tg l : Expr} {tl : TE} (h : X.K = K) (hl : PE X l tl) : PI X tg l (iTup K tl) := h ▸ pi_tup hl
def rRepr (K : PySem.W.Frag) : List V → Hp → VK → Prop := fun xs H Q => ∃ (x : V) (d : PyData), xs = [x] ∧ Dp K H x d ∧ Tx 16777216 60 d ∧ Q (.str d.shown) H
theorem call_reprK {k : Nat} (h : X.K = K) (hg : X.A.guards = some []) (hr : Room k X.A) : CallR X (.builtin "repr") (rRepr K) := h ▸ call_repr hg hr

/-- sum of a tuple of ints -/
def rSumT (K : PySem.W.Frag) : List V → Hp → VK → Prop := fun vs H Q => ∃ (a : Addr) (ns : List Int), vs = [V.ref a] ∧ SqT K H a (ns.map V.int) ∧ Q (.int ns.sum) H
theorem cr_sumT (hc : X.calm = true) : CallR X (.builtin "sum") (rSumT X.K) := by
  intro pins s σ H xs us Q I r q
  obtain ⟨a, ns, rfl, hq, q⟩ := q
  have eu := Vals.ref1 r
  subst eu
  obtain ⟨its, rv, it, _⟩ := I.tuple hq
  have hi := rv.ints
  obtain ⟨ys, ey⟩ := hi.allInts.items
  have it2 : s.heap.IsTuple a its.toArray := by
    obtain ⟨o, h1, h2, n, h3⟩ := it
    exact ⟨o, h1, h2, n, h3⟩
  have en : PySem.numsOf its.toArray.toList = ns := hi.numsOf
  rw [ey] at it2 en
  rw [PySem.nums_intItems] at en
  refine PySem.W.ktm_sumG (I.ok.hd hc) it2 fun h' tk t' hk => ?_
  rw [PySem.preSum_eq, List.take_of_length_le (by simp), en]
  exact ⟨.int _, H, I.kept hk, ⟨_, rfl⟩, q⟩
theorem cr_sumTK {K : PySem.W.Frag} (h : X.K = K) (hc : X.calm = true) : CallR X (.builtin "sum") (rSumT K) := h ▸ cr_sumT hc
end
end My

namespace My
open PySem PySem.Spec PyProof.Rows L2

/-! ### tuple * int, any small int -/
theorem mul_self (l : Addr) (its : Array Value) (n : Nat) (dd : Option Addr) (sl : Array (Option Value)) (u : Tok) :
    Meets (Builtin.«tuple.__mul__» ⟨[.ref l, .int 1 u], []⟩) (fun _ R s => s.heap.get? l = some { cls := .type "tuple", dict := dd, data := .seq its n, slots := sl } ∧ R (.ok (.ret (Value.ref l))) s) :=
  .of_wp fun prog w A R s h => by
    obtain ⟨hp, g, d, tk, os⟩ := s
    obtain ⟨hl, h⟩ := h
    have f1 := AutoSeq1.idx_int
    wp_walk using wpAny_loadPart' hl
    repeat (first
      | (refine wpAny_ite_false (by decide) ?_; wp_walk using wpAny_loadPart' hl)
      | (refine wpAny_ite_true (by simp) ?_; wp_walk using wpAny_loadPart' hl))
    exact ⟨_, rfl, h⟩
theorem mul_none (l : Addr) (its : Array Value) (n : Nat) (dd : Option Addr) (sl : Array (Option Value)) (x : Int) (u : Tok) (h0 : x ≤ 0) (h1 : -(2 ^ 63) ≤ x) (hne : its.isEmpty = false) :
    Meets (Builtin.«tuple.__mul__» ⟨[.ref l, .int x u], []⟩) (fun _ R s => s.heap.get? l = some { cls := .type "tuple", dict := dd, data := .seq its n, slots := sl } ∧
      R (.ok (.ret (Value.ref s.heap.objs.size))) { s with heap := s.heap.push { cls := Value.type "tuple", data := Data.seq #[] }, toks := s.toks }) :=
  .of_wp fun prog w A R s h => by
    obtain ⟨hp, g, d, tk, os⟩ := s
    obtain ⟨hl, h⟩ := h
    have f1 := AutoSeq1.idx_int
    have c0 : (decide (x < -(2 ^ 63)) || decide (x ≥ 2 ^ 63)) = false := by
      rw [decide_eq_false (by omega), decide_eq_false (by omega)] <;> rfl
    have c1 : (its.isEmpty || x == 1) = false := by
      rw [hne, Bool.false_or]
      exact beq_eq_false_iff_ne.mpr (by omega)
    have c2 : (decide (x ≤ 0) || its.isEmpty) = true := by rw [decide_eq_true h0]; rfl
    wp_walk using wpAny_loadPart' hl
    repeat (first
      | (refine wpAny_ite_false (decide_eq_false (by rw [c0]; decide)) ?_; wp_walk using wpAny_loadPart' hl)
      | (refine wpAny_ite_false (decide_eq_false (by rw [c1]; decide)) ?_; wp_walk using wpAny_loadPart' hl)
      | (refine wpAny_ite_true (decide_eq_true c2) ?_; wp_walk using wpAny_loadPart' hl))
    exact ⟨_, rfl, h⟩

/-- t * k for any k up to a thousand: a tuple with the items so many times (itself, if once) -/
def rRepA : R2 := fun x y H Q => ∃ a k xs, x = .ref a ∧ y = .int k ∧ H a = some (.tup xs) ∧ xs ≠ [] ∧ -(2 ^ 63) ≤ k ∧ k ≤ 1000 ∧ xs.length ≤ 1000 ∧
  ∀ p H', Same H H' → H' p = some (.tup (List.replicate k.toNat xs).flatten) → Q (.ref p) H'
theorem op_repA {X : Cx} : OpR X (binaryOp .Mult) rRepA := by
  intro pins s σ H x y v u Q I rx ry h
  obtain ⟨a, k, xs, rfl, rfl, ht, ne, k0, k1, lx, q⟩ := h
  by_cases h2 : 2 ≤ k
  · exact op_repT pins s σ H _ _ v u Q I rx ry ⟨a, k, xs, rfl, rfl, SqT.of ht, ne, h2, k1, lx, fun p hp => q p _ (same_new hp) upd_same⟩
  cases rx
  obtain ⟨tk, rfl⟩ := ry
  obtain ⟨zs, rz, ⟨⟨c1, c2, c3, c4⟩, g, e1, m, e2⟩, g2⟩ := I.tuple (SqT.of ht)
  simp only at e1 e2
  subst e1 e2
  have zl : zs.length = xs.length := rz.length.symm
  have zn : zs ≠ [] := fun e => by
    rw [e] at zl
    exact ne (List.length_eq_zero_iff.mp zl.symm)
  have ze : zs.toArray.isEmpty = false := by
    cases zs with
    | nil => exact absurd rfl zn
    | cons z r => rfl
  by_cases h1 : k = 1
  · subst h1
    refine wpAny_binaryOp_repeat_ref (T := "tuple") (U := "int") (by decide) ⟨_, g, rfl⟩ (fun z => typeIs_int z 1 tk) noFill_tuple_mul F.fills_int_mul F.slot_int_rmul repeat_tuple F.slot_int_index.lookup ?_
    refine call_meets F.slot_int_rmul (typeIs_int s 1 tk) F.entry_int_rmul (F.args_int_rmul_2 _ _) (int_rmul_tuple 1 tk a zs.toArray m c2 c4) ⟨g, rfl, ⟨_, g, rfl⟩, ?_⟩
    refine call_meets F.slot_tuple_mul ⟨_, g, rfl⟩ F.entry_tuple_mul (F.args_tuple_mul_2 _ _) (mul_self a zs.toArray m c2 c4 tk) ⟨g, ?_⟩
    exact ⟨.ref a, H, I, rfl, q a H (Same.refl H) (by simpa using ht)⟩
  · have hk0 : k ≤ 0 := by omega
    refine wpAny_binaryOp_repeat_ref (T := "tuple") (U := "int") (by decide) ⟨_, g, rfl⟩ (fun z => typeIs_int z k tk) noFill_tuple_mul F.fills_int_mul F.slot_int_rmul repeat_tuple F.slot_int_index.lookup ?_
    refine call_meets F.slot_int_rmul (typeIs_int s k tk) F.entry_int_rmul (F.args_int_rmul_2 _ _) (int_rmul_tuple k tk a zs.toArray m c2 c4) ⟨g, rfl, ⟨_, g, rfl⟩, ?_⟩
    refine call_meets F.slot_tuple_mul ⟨_, g, rfl⟩ F.entry_tuple_mul (F.args_tuple_mul_2 _ _) (mul_none a zs.toArray m c2 c4 k tk hk0 k0 ze) ⟨g, ?_⟩
    have kz : k.toNat = 0 := by omega
    rw [kz] at q
    exact ⟨.ref s.heap.objs.size, _, I.laid (t' := s.toks) (o := .tup []) (fun _ _ e => Heap.get?_push_of_some _ e) (Nat.le_refl _) ⟨Nat.zero_le _, [], .nil, IsTup.new _ _⟩, rfl, q _ _ (same_new (I.hok.fresh (Nat.le_refl _))) upd_same⟩
end My

namespace My
open PySem PySem.Spec PyProof.Rows L2

/-! ### what a value shows -/
def seqL (st : Store) : D → Option (List D)
  | .lst xs => some xs
  | .ref i => match st[i]? with
    | some (.lst xs) => some xs
    | _ => none
  | _ => none
def seqT : D → Option (List D)
  | .tup xs => some xs
  | _ => none
def seqA (st : Store) : D → Option (List D)
  | .tup xs => some xs
  | .tpf xs => some xs
  | .scr ns => some (ns.map .int)
  | d => seqL st d
def dicK (st : Store) : D → Option (List Key × List D)
  | .dk ks vs => some (ks, vs)
  | .ref i => match st[i]? with
    | some (.dk ks vs) => some (ks, vs)
    | _ => none
  | _ => none
def dicT (st : Store) : D → Option (List (List Key) × List D)
  | .dt ks vs => some (ks, vs)
  | .ref i => match st[i]? with
    | some (.dt ks vs) => some (ks, vs)
    | _ => none
  | _ => none
def insA (st : Store) : D → Option (Str × List Str × List D)
  | .ins n fs vs => some (n, fs, vs)
  | .ref i => match st[i]? with
    | some (.ins n fs vs) => some (n, fs, vs)
    | _ => none
  | _ => none
section
variable {W : Wd} {ι : Lay} {H : Hp} {st : Store} {d : D} {v : V}
theorem rep_ref {i : Nat} (r : RelH W ι H st) (h : Rep W ι H (.ref i) v) : ∃ a c, v = .ref a ∧ ι.c[i]? = some a ∧ st[i]? = some c ∧ CellOk W ι H a c := by
  simp only [Rep] at h
  obtain ⟨a, e, h⟩ := h
  obtain ⟨c, h1, h2⟩ := r.at h
  exact ⟨a, c, e, h, h1, h2⟩
theorem seqL_ok {xs : List D} (r : RelH W ι H st) (h : Rep W ι H d v) (e : seqL st d = some xs) : ∃ a vs, v = .ref a ∧ H a = some (.lst vs) ∧ Reps W ι H xs vs := by
  unfold seqL at e
  split at e
  · cases e
    simp only [Rep] at h
    obtain ⟨a, e, _, vs, h1, h2⟩ := h
    exact ⟨a, vs, e, h1, h2⟩
  · obtain ⟨a, c, e1, _, h1, h2⟩ := rep_ref r h
    rw [h1] at e
    split at e
    · rename_i q
      cases e
      cases q
      obtain ⟨vs, h3, h4⟩ := h2
      exact ⟨a, vs, e1, h3, h4⟩
    · cases e
  · cases e
theorem seqT_ok {xs : List D} (h : Rep W ι H d v) (e : seqT d = some xs) : ∃ a vs, v = .ref a ∧ H a = some (.tup vs) ∧ Reps W ι H xs vs := by
  unfold seqT at e
  split at e
  · cases e
    simp only [Rep] at h
    obtain ⟨a, e, vs, h1, h2⟩ := h
    exact ⟨a, vs, e, h1, h2⟩
  · cases e
theorem seqA_ok {xs : List D} (r : RelH W ι H st) (h : Rep W ι H d v) (e : seqA st d = some xs) : ∃ a vs, v = .ref a ∧ (SqL W.K H a vs ∨ SqT W.K H a vs) ∧ Reps W ι H xs vs := by
  unfold seqA at e
  split at e
  · cases e
    simp only [Rep] at h
    obtain ⟨a, e, vs, h1, h2⟩ := h
    exact ⟨a, vs, e, .inr (SqT.of h1), h2⟩
  · cases e
    simp only [Rep] at h
    obtain ⟨a, e, o, vs, _, h1, h2⟩ := h
    exact ⟨a, vs, e, .inr (.inl (.inr ⟨o, h1⟩)), h2⟩
  · cases e
    simp only [Rep] at h
    obtain ⟨a, e, h1⟩ := h
    exact ⟨a, _, e, .inl h1.sq, Reps.map fun x _ => by simp only [Rep]⟩
  · obtain ⟨a, vs, h1, h2, h3⟩ := seqL_ok r h e
    exact ⟨a, vs, h1, .inl (SqL.of h2), h3⟩
/-- a list as it is read: tracked or not -/
def isTpf : D → Bool
  | .tpf _ => true
  | _ => false
theorem tpf_ok {xs : List D} (h : Rep W ι H (.tpf xs) v) : ∃ a o vs, v = .ref a ∧ (o.cls = .type "tuple" ∧ o.dict = none) ∧ H a = some (.frz o (.tup vs)) ∧ SqT W.K H a vs ∧ Reps W ι H xs vs := by
  simp only [Rep] at h
  obtain ⟨a, e, o, vs, h0, h1, h2⟩ := h
  exact ⟨a, o, vs, e, h0, h1, .inl (.inr ⟨o, h1⟩), h2⟩
theorem seqA_list {xs : List D} (r : RelH W ι H st) (h : Rep W ι H d v) (e : seqA st d = some xs) (n : seqT d = none) (n2 : isTpf d = false) : ∃ a vs, v = .ref a ∧ SqL W.K H a vs ∧ Reps W ι H xs vs := by
  unfold seqA at e
  split at e
  · cases n
  · cases n2
  · cases e
    simp only [Rep] at h
    obtain ⟨a, e, h1⟩ := h
    exact ⟨a, _, e, h1.sq, Reps.map fun x _ => by simp only [Rep]⟩
  · obtain ⟨a, vs, h1, h2, h3⟩ := seqL_ok r h e
    exact ⟨a, vs, h1, SqL.of h2, h3⟩
theorem dicK_ok {ks : List Key} {ds : List D} (r : RelH W ι H st) (h : Rep W ι H d v) (e : dicK st d = some (ks, ds)) : ∃ a vs, v = .ref a ∧ H a = some (.dK (ks.zip vs)) ∧ ks.length = ds.length ∧ Reps W ι H ds vs := by
  unfold dicK at e
  split at e
  · cases e
    simp only [Rep] at h
    obtain ⟨a, e, _, vs, h1, h2⟩ := h
    exact ⟨a, vs, e, h1, h2⟩
  · obtain ⟨a, c, e1, _, h1, h2⟩ := rep_ref r h
    rw [h1] at e
    split at e
    · rename_i q
      cases e
      cases q
      obtain ⟨vs, h3, h4⟩ := h2
      exact ⟨a, vs, e1, h3, h4⟩
    · cases e
  · cases e
theorem dicT_ok {ks : List (List Key)} {ds : List D} (r : RelH W ι H st) (h : Rep W ι H d v) (e : dicT st d = some (ks, ds)) : ∃ a vs, v = .ref a ∧ H a = some (.dT (ks.zip vs)) ∧ ks.length = ds.length ∧ Reps W ι H ds vs := by
  unfold dicT at e
  split at e
  · cases e
    simp only [Rep] at h
    obtain ⟨a, e, _, vs, h1, h2⟩ := h
    exact ⟨a, vs, e, h1, h2⟩
  · obtain ⟨a, c, e1, _, h1, h2⟩ := rep_ref r h
    rw [h1] at e
    split at e
    · rename_i q
      cases e
      cases q
      obtain ⟨vs, h3, h4⟩ := h2
      exact ⟨a, vs, e1, h3, h4⟩
    · cases e
  · cases e
theorem insA_ok {n : Str} {fs : List Str} {ds : List D} (r : RelH W ι H st) (h : Rep W ι H d v) (e : insA st d = some (n, fs, ds)) : ∃ a dx vs, v = .ref a ∧ H a = some (.ins (W.cl n) dx (fs.zip vs)) ∧ fs.length = ds.length ∧ Reps W ι H ds vs := by
  unfold insA at e
  split at e
  · cases e
    simp only [Rep] at h
    obtain ⟨a, e, _, dx, vs, h1, h2⟩ := h
    exact ⟨a, dx, vs, e, h1, h2⟩
  · obtain ⟨a, c, e1, _, h1, h2⟩ := rep_ref r h
    rw [h1] at e
    split at e
    · rename_i q
      cases e
      cases q
      obtain ⟨dx, vs, h3, h4⟩ := h2
      exact ⟨a, dx, vs, e1, h3, h4⟩
    · cases e
  · cases e
end

/-! ### data without cells -/
mutual
def fz (lk : Nat → Option D) : D → Option D
  | .tup ds => (fzs lk ds).map .tup
  | .tpf ds => (fzs lk ds).map .tpf
  | .lst ds => (fzs lk ds).map .lst
  | .dk ks ds => (fzs lk ds).map (.dk ks)
  | .dt ks ds => (fzs lk ds).map (.dt ks)
  | .ins n fs ds => (fzs lk ds).map (.ins n fs)
  | .ref i => lk i
  | d => some d
def fzs (lk : Nat → Option D) : List D → Option (List D)
  | [] => some []
  | d :: ds => match fz lk d with
    | some d' => (fzs lk ds).map (d' :: ·)
    | none => none
end
/-- a cell's number below n stays; the others are told by their content -/
def lkc (st : Store) (n : Nat) : Nat → Nat → Option D
  | 0, i => if i < n then some (.ref i) else none
  | k + 1, i => if i < n then some (.ref i) else match st[i]? with
    | some (.lst ds) => (fzs (lkc st n k) ds).map .lst
    | some (.dk ks ds) => (fzs (lkc st n k) ds).map (.dk ks)
    | some (.dt ks ds) => (fzs (lkc st n k) ds).map (.dt ks)
    | some (.set ns) => some (.set ns)
    | some (.ins m fs ds) => (fzs (lkc st n k) ds).map (.ins m fs)
    | _ => none
/-- as a tree -/
def view (st : Store) (d : D) : Option D := fz (lkc st 0 4) d
section
variable {W : Wd} {ι ι' : Lay} {H : Hp} {st : Store}
mutual
theorem fz_ok {lk : Nat → Option D} (hs : ∀ a, ι'.has a → ι.has a) (hl : ∀ i a d', ι.c[i]? = some a → lk i = some d' → Rep W ι' H d' (.ref a)) : ∀ (d d' : D) (v : V), fz lk d = some d' → Rep W ι H d v → Rep W ι' H d' v
  | .non, _, _, e, h => by simp only [fz] at e; cases e; simpa only [Rep] using h
  | .bl _, _, _, e, h => by simp only [fz] at e; cases e; simpa only [Rep] using h
  | .int _, _, _, e, h => by simp only [fz] at e; cases e; simpa only [Rep] using h
  | .str _, _, _, e, h => by simp only [fz] at e; cases e; simpa only [Rep] using h
  | .ty _, _, _, e, h => by simp only [fz] at e; cases e; simpa only [Rep] using h
  | .cls _, _, _, e, h => by simp only [fz] at e; cases e; simpa only [Rep] using h
  | .scr _, _, _, e, h => by simp only [fz] at e; cases e; simpa only [Rep] using h
  | .set _, _, _, e, h => by
    simp only [fz] at e
    cases e
    simp only [Rep] at h ⊢
    obtain ⟨a, e, n, h1⟩ := h
    exact ⟨a, e, fun m => n (hs a m), h1⟩
  | .ref i, _, _, e, h => by
    simp only [fz] at e
    simp only [Rep] at h
    obtain ⟨a, rfl, h1⟩ := h
    exact hl i a _ h1 e
  | .tup ds, _, _, e, h => by
    simp only [fz, Option.map_eq_some_iff] at e
    obtain ⟨es, e1, rfl⟩ := e
    simp only [Rep] at h ⊢
    obtain ⟨a, e, vs, h1, h2⟩ := h
    exact ⟨a, e, vs, h1, fzs_ok hs hl ds es vs e1 h2⟩
  | .tpf ds, _, _, e, h => by
    simp only [fz, Option.map_eq_some_iff] at e
    obtain ⟨es, e1, rfl⟩ := e
    simp only [Rep] at h ⊢
    obtain ⟨a, e, o, vs, h0, h1, h2⟩ := h
    exact ⟨a, e, o, vs, h0, h1, fzs_ok hs hl ds es vs e1 h2⟩
  | .lst ds, _, _, e, h => by
    simp only [fz, Option.map_eq_some_iff] at e
    obtain ⟨es, e1, rfl⟩ := e
    simp only [Rep] at h ⊢
    obtain ⟨a, e, n, vs, h1, h2⟩ := h
    exact ⟨a, e, fun m => n (hs a m), vs, h1, fzs_ok hs hl ds es vs e1 h2⟩
  | .dk ks ds, _, _, e, h => by
    simp only [fz, Option.map_eq_some_iff] at e
    obtain ⟨es, e1, rfl⟩ := e
    simp only [Rep] at h ⊢
    obtain ⟨a, e, n, vs, h1, l, h2⟩ := h
    have h3 := fzs_ok hs hl ds es vs e1 h2
    exact ⟨a, e, fun m => n (hs a m), vs, h1, by rw [l, h2.length, h3.length], h3⟩
  | .dt ks ds, _, _, e, h => by
    simp only [fz, Option.map_eq_some_iff] at e
    obtain ⟨es, e1, rfl⟩ := e
    simp only [Rep] at h ⊢
    obtain ⟨a, e, n, vs, h1, l, h2⟩ := h
    have h3 := fzs_ok hs hl ds es vs e1 h2
    exact ⟨a, e, fun m => n (hs a m), vs, h1, by rw [l, h2.length, h3.length], h3⟩
  | .ins m fs ds, _, _, e, h => by
    simp only [fz, Option.map_eq_some_iff] at e
    obtain ⟨es, e1, rfl⟩ := e
    simp only [Rep] at h ⊢
    obtain ⟨a, e, n, dx, vs, h1, l, h2⟩ := h
    have h3 := fzs_ok hs hl ds es vs e1 h2
    exact ⟨a, e, fun m => n (hs a m), dx, vs, h1, by rw [l, h2.length, h3.length], h3⟩
theorem fzs_ok {lk : Nat → Option D} (hs : ∀ a, ι'.has a → ι.has a) (hl : ∀ i a d', ι.c[i]? = some a → lk i = some d' → Rep W ι' H d' (.ref a)) : ∀ (ds es : List D) (vs : List V), fzs lk ds = some es → Reps W ι H ds vs → Reps W ι' H es vs
  | [], _, _, e, h => by simp only [fzs] at e; cases e; rw [h.nil_of]; exact Reps.nil
  | d :: ds, _, _, e, h => by
    obtain ⟨v, r, rfl, h1, h2⟩ := h.uncons
    simp only [fzs] at e
    split at e
    · rename_i d' q
      rw [Option.map_eq_some_iff] at e
      obtain ⟨es, e1, rfl⟩ := e
      exact Reps.cons (fz_ok hs hl d d' v q h1) (fzs_ok hs hl ds es r e1 h2)
    · cases e
end
theorem take_get {ι : List Addr} (n : Nat) {i : Nat} (h : i < n) : (ι.take n)[i]? = ι[i]? := by rw [List.getElem?_take, if_pos h]
theorem nodup_take_notin {ι : List Addr} (nd : ι.Nodup) {n i : Nat} {a : Addr} (h : ι[i]? = some a) (hi : ¬ i < n) : a ∉ ι.take n := fun m => by
  obtain ⟨j, hj, e⟩ := List.mem_iff_getElem.mp m
  rw [List.getElem_take] at e
  obtain ⟨l, e2⟩ := List.getElem?_eq_some_iff.mp h
  have := (List.getElem_inj nd).mp (e.trans e2.symm)
  rw [List.length_take] at hj
  omega
theorem lkc_ok (r : RelH W ι H st) (n : Nat) : ∀ (k i : Nat) (a : Addr) (d' : D), ι.c[i]? = some a → lkc st n k i = some d' → Rep W (ι.cut n) H d' (.ref a)
  | 0, i, a, d', h, e => by
    unfold lkc at e
    split at e
    · rename_i hi
      cases e
      simp only [Rep]
      exact ⟨a, rfl, by show (ι.c.take n)[i]? = _; rw [take_get n hi]; exact h⟩
    · cases e
  | k + 1, i, a, d', h, e => by
    unfold lkc at e
    split at e
    · rename_i hi
      cases e
      simp only [Rep]
      exact ⟨a, rfl, by show (ι.c.take n)[i]? = _; rw [take_get n hi]; exact h⟩
    · rename_i hi
      have na : ¬ (ι.cut n).has a := fun m => m.elim (nodup_take_notin r.nd h hi) (r.dis a (List.mem_of_getElem? h))
      obtain ⟨c, hc, ok⟩ := r.at h
      have hs : ∀ a, (ι.cut n).has a → ι.has a := fun a m => m.imp List.mem_of_mem_take id
      have ih := fun i a d' => lkc_ok r n k i a d'
      split at e
      · rename_i ds q
        rw [hc] at q
        cases q
        rw [Option.map_eq_some_iff] at e
        obtain ⟨es, e1, rfl⟩ := e
        obtain ⟨vs, h1, h2⟩ := ok
        simp only [Rep]
        exact ⟨a, rfl, na, vs, h1, fzs_ok hs ih _ _ _ e1 h2⟩
      · rename_i ks ds q
        rw [hc] at q
        cases q
        rw [Option.map_eq_some_iff] at e
        obtain ⟨es, e1, rfl⟩ := e
        obtain ⟨vs, h1, l, h2⟩ := ok
        have h3 := fzs_ok hs ih _ _ _ e1 h2
        simp only [Rep]
        exact ⟨a, rfl, na, vs, h1, by rw [l, h2.length, h3.length], h3⟩
      · rename_i ks ds q
        rw [hc] at q
        cases q
        rw [Option.map_eq_some_iff] at e
        obtain ⟨es, e1, rfl⟩ := e
        obtain ⟨vs, h1, l, h2⟩ := ok
        have h3 := fzs_ok hs ih _ _ _ e1 h2
        simp only [Rep]
        exact ⟨a, rfl, na, vs, h1, by rw [l, h2.length, h3.length], h3⟩
      · rename_i ns q
        rw [hc] at q
        cases q
        cases e
        simp only [Rep]
        exact ⟨a, rfl, na, ok⟩
      · rename_i m fs ds q
        rw [hc] at q
        cases q
        rw [Option.map_eq_some_iff] at e
        obtain ⟨es, e1, rfl⟩ := e
        obtain ⟨dx, vs, h1, l, h2⟩ := ok
        have h3 := fzs_ok hs ih _ _ _ e1 h2
        simp only [Rep]
        exact ⟨a, rfl, na, dx, vs, h1, by rw [l, h2.length, h3.length], h3⟩
      · cases e
theorem fzn_ok (r : RelH W ι H st) (n k : Nat) {d d' : D} {v : V} (e : fz (lkc st n k) d = some d') (h : Rep W ι H d v) : Rep W (ι.cut n) H d' v :=
  fz_ok (fun a (m : (ι.cut n).has a) => (show ι.has a from Or.imp (List.mem_of_mem_take (i := n)) id m)) (fun i a d' => lkc_ok r n k i a d') d d' v e h
end

mutual
def D.py : D → Option PyData
  | .non => some .none
  | .bl b => some (.bool b)
  | .int i => some (.int i)
  | .str x => some (.str x)
  | .tup ds => (D.pys ds).map .tuple
  | .tpf ds => (D.pys ds).map .tuple
  | .lst ds => (D.pys ds).map .list
  | .scr ns => some (.list (ns.map .int))
  | _ => none
def D.pys : List D → Option (List PyData)
  | [] => some []
  | d :: ds => match D.py d with
    | some p => (D.pys ds).map (p :: ·)
    | none => none
end
def pyOf (st : Store) (d : D) : Option PyData := (view st d).bind D.py
section
variable {W : Wd} {ι : Lay} {H : Hp} {st : Store}
mutual
theorem py_ok : ∀ (d : D) (p : PyData) (v : V), d.py = some p → Rep W ι H d v → Dp W.K H v p
  | .non, _, _, e, h => by simp only [D.py] at e; cases e; simp only [Rep] at h; subst h; exact .non
  | .bl b, _, _, e, h => by simp only [D.py] at e; cases e; simp only [Rep] at h; subst h; exact .bl b
  | .int b, _, _, e, h => by simp only [D.py] at e; cases e; simp only [Rep] at h; subst h; exact .int b
  | .str b, _, _, e, h => by simp only [D.py] at e; cases e; simp only [Rep] at h; subst h; exact .str b
  | .scr ns, _, _, e, h => by
    simp only [D.py] at e
    cases e
    simp only [Rep] at h
    obtain ⟨a, rfl, h1⟩ := h
    exact .lst h1.sq (dp_map fun n _ => .int n)
  | .tup ds, _, _, e, h => by
    simp only [D.py, Option.map_eq_some_iff] at e
    obtain ⟨es, e1, rfl⟩ := e
    simp only [Rep] at h
    obtain ⟨a, rfl, vs, h1, h2⟩ := h
    exact .tup (SqT.of h1) (pys_ok ds es vs e1 h2)
  | .tpf ds, _, _, e, h => by
    simp only [D.py, Option.map_eq_some_iff] at e
    obtain ⟨es, e1, rfl⟩ := e
    obtain ⟨a, o, vs, rfl, _, _, h1, h2⟩ := tpf_ok h
    exact .tup h1 (pys_ok ds es vs e1 h2)
  | .lst ds, _, _, e, h => by
    simp only [D.py, Option.map_eq_some_iff] at e
    obtain ⟨es, e1, rfl⟩ := e
    simp only [Rep] at h
    obtain ⟨a, rfl, _, vs, h1, h2⟩ := h
    exact .lst (SqL.of h1) (pys_ok ds es vs e1 h2)
  | .ty _, _, _, e, h => by simp [D.py] at e
  | .cls _, _, _, e, h => by simp [D.py] at e
  | .dk _ _, _, _, e, h => by simp [D.py] at e
  | .dt _ _, _, _, e, h => by simp [D.py] at e
  | .set _, _, _, e, h => by simp [D.py] at e
  | .ins _ _ _, _, _, e, h => by simp [D.py] at e
  | .ref _, _, _, e, h => by simp [D.py] at e
theorem pys_ok : ∀ (ds : List D) (ps : List PyData) (vs : List V), D.pys ds = some ps → Reps W ι H ds vs → DpAll W.K H vs ps
  | [], _, _, e, h => by simp only [D.pys] at e; cases e; rw [h.nil_of]; exact .nil
  | d :: ds, _, _, e, h => by
    obtain ⟨v, r, rfl, h1, h2⟩ := h.uncons
    simp only [D.pys] at e
    split at e
    · rename_i p q
      rw [Option.map_eq_some_iff] at e
      obtain ⟨es, e1, rfl⟩ := e
      exact .cons (py_ok d p v q h1) (pys_ok ds es r e1 h2)
    · cases e
end
theorem pyOf_ok (r : RelH W ι H st) {d : D} {p : PyData} {v : V} (e : pyOf st d = some p) (h : Rep W ι H d v) : Dp W.K H v p := by
  unfold pyOf at e
  rw [Option.bind_eq_some_iff] at e
  obtain ⟨d', e1, e2⟩ := e
  exact py_ok d' p v e2 (fzn_ok r 0 4 e1 h)
end

/-! ### readings by values -/
def M1 (W : Wd) (f : D → Store → Option D) : V → Hp → VK → Prop := fun x H Q => ∃ ι st a d, RelH W ι H st ∧ Rep W ι H a x ∧ f a st = some d ∧ OkE W ι H d st Q
def M2 (W : Wd) (f : D → D → Store → Option D) : R2 := fun x y H Q => ∃ ι st a b d, RelH W ι H st ∧ Rep W ι H a x ∧ Rep W ι H b y ∧ f a b st = some d ∧ OkE W ι H d st Q
def MA (W : Wd) (f : FM) : List V → Hp → VK → Prop := fun vs H Q => ∃ ι st as d st', RelH W ι H st ∧ Reps W ι H as vs ∧ f as st = some (d, st') ∧ OkE W ι H d st' Q
def ro (f : List D → Store → Option D) : FM := fun ds st => (f ds st).map (·, st)

/-! ### the mirrors of expressions -/
def eVar (i : Nat) : EM := fun env st => match env[i]? with
  | some (some d) => some (d, st)
  | _ => none
def eC (d : D) : EM := fun _ st => some (d, st)
def eUn (f : D → Store → Option D) (a : EM) : EM := fun env st => match a env st with
  | some (x, s1) => (f x s1).map (·, s1)
  | none => none
def eOp (f : D → D → Store → Option D) (a b : EM) : EM := fun env st => match a env st with
  | some (x, s1) => match b env s1 with
    | some (y, s2) => (f x y s2).map (·, s2)
    | none => none
  | none => none
def aNil : AM := fun _ st => some ([], st)
def aCons (a : EM) (r : AM) : AM := fun env st => match a env st with
  | some (x, s1) => match r env s1 with
    | some (xs, s2) => some (x :: xs, s2)
    | none => none
  | none => none
def eCall (f : FM) (a : AM) : EM := fun env st => match a env st with
  | some (xs, s1) => f xs s1
  | none => none
def eTup (a : AM) : EM := fun env st => match a env st with
  | some (xs, s1) => if xs.length ≤ sizeLine then some (.tup xs, s1) else none
  | none => none
def eLst (a : AM) : EM := fun env st => match a env st with
  | some (xs, s1) => if xs.length ≤ sizeLine then some (.lst xs, s1) else none
  | none => none
/-- a list that will be written -/
def eLstM (a : AM) : EM := fun env st => match a env st with
  | some (xs, s1) => if xs.length ≤ sizeLine then some (.ref s1.length, s1 ++ [.lst xs]) else none
  | none => none
def bE (a : EM) : TM := fun env st => match a env st with
  | some (.bl b, s1) => some (b, s1)
  | _ => none
def bAnd (a b : TM) : TM := fun env st => match a env st with
  | some (true, s1) => b env s1
  | r => r
def bOr (a b : TM) : TM := fun env st => match a env st with
  | some (false, s1) => b env s1
  | r => r
def bNot (a : TM) : TM := fun env st => match a env st with
  | some (b, s1) => some (!b, s1)
  | none => none
def eAnd (a b : EM) : EM := fun env st => match a env st with
  | some (.bl true, s1) => b env s1
  | some (.bl false, s1) => some (.bl false, s1)
  | _ => none
def eOr (a b : EM) : EM := fun env st => match a env st with
  | some (.bl false, s1) => b env s1
  | some (.bl true, s1) => some (.bl true, s1)
  | _ => none
def eNot (a : EM) : EM := fun env st => match a env st with
  | some (.bl b, s1) => some (.bl (!b), s1)
  | _ => none
def eIf (c : TM) (a b : EM) : EM := fun env st => match c env st with
  | some (true, s1) => a env s1
  | some (false, s1) => b env s1
  | none => none
/-- a < b < c -/
def eChain (f g : D → D → Store → Option D) (a b c : EM) : EM := fun env st => match a env st with
  | some (x, s1) => match b env s1 with
    | some (y, s2) => match f x y s2 with
      | some (.bl true) => match c env s2 with
        | some (z, s3) => (g y z s3).map (·, s3)
        | none => none
      | some (.bl false) => some (.bl false, s2)
      | _ => none
    | none => none
  | none => none

section
variable {X : Cx} {W : Wd} {a b c e : Expr} {es : List Expr} {rest : List Expr} {pos : Pos} {ma mb mc : EM} {ta tb tc : TM} {f g : D → D → Store → Option D}
/-! #### how a mirror's reading is used -/
theorem T.of {m : EM} {σ : L2.St} {H : Hp} {Q : VK} {ι : Lay} {st st' : Store} {env : Env} {d : D} (r : RelH W ι H st) (n : REnv W ι H env σ) (e : m env st = some (d, st')) (k : OkE W ι H d st' Q) : T W m σ H Q := ⟨ι, st, env, d, st', r, n, e, k⟩

theorem j_var {i : Nat} {x : Str} {pos : Pos} (hN : X.N[i]? = some x) (hv : Vis X.env.scope x) (hd : (x == ("__debug__" : Str)) = false := by decide) (hcd : (x == ("__classdict__" : Str)) = false := by decide) : PE X (.Name x pos) (T W (eVar i)) :=
  (pe_var hN hv hd hcd).imp fun σ H Q ⟨ι, st, env, d, st', r, n, e, k⟩ => by
    unfold eVar at e
    split at e
    · rename_i d' q
      cases e
      obtain ⟨v, h1, h2⟩ := n.get i _ q
      exact ⟨v, h1, k.now r h2⟩
    · cases e
theorem tC_of {d : D} {v : V} (h : ∀ ι H, Rep W ι H d v) (he : PE X e (tC v)) : PE X e (T W (eC d)) :=
  he.imp fun σ H Q ⟨ι, st, env, d', st', r, n, e, k⟩ => by
    cases e
    exact k.now r (h _ _)
theorem j_int {i : Int} {j pos} : PE X (.Constant (.int i) j pos) (T W (eC (.int i))) := tC_of (fun _ _ => by simp only [Rep]) pe_int
theorem j_bl {b : Bool} {j pos} : PE X (.Constant (.bool b) j pos) (T W (eC (.bl b))) := tC_of (fun _ _ => by simp only [Rep]) pe_bl
theorem j_non {j pos} : PE X (.Constant .none j pos) (T W (eC .non)) := tC_of (fun _ _ => by simp only [Rep]) pe_non
theorem j_str {x : Str} {j pos} : PE X (.Constant (.str x) j pos) (T W (eC (.str x))) := tC_of (fun _ _ => by simp only [Rep]) pe_str

theorem tOp_of {σ : L2.St} {H : Hp} {Q : VK} (h : T W (eOp f ma mb) σ H Q) : tOp (M2 W f) (T W ma) (T W mb) σ H Q := by
  obtain ⟨ι, st, env, d, st', r, n, e, k⟩ := h
  unfold eOp at e
  split at e
  · rename_i x s1 e1
    split at e
    · rename_i y s2 e2
      rw [Option.map_eq_some_iff] at e
      obtain ⟨z, e3, q⟩ := e
      cases q
      exact T.of r n e1 fun v ι1 H1 g1 r1 p1 => T.of r1 (n.grow g1) e2 fun u ι2 H2 g2 r2 p2 => ⟨ι2, _, x, y, _, r2, Rep.grow g2 _ _ p1, p2, e3, k.go (g1.trans g2)⟩
    · cases e
  · cases e
theorem tUn_of {f : D → Store → Option D} {σ : L2.St} {H : Hp} {Q : VK} (h : T W (eUn f ma) σ H Q) : tUn (M1 W f) (T W ma) σ H Q := by
  obtain ⟨ι, st, env, d, st', r, n, e, k⟩ := h
  unfold eUn at e
  split at e
  · rename_i x s1 e1
    rw [Option.map_eq_some_iff] at e
    obtain ⟨z, e3, q⟩ := e
    cases q
    exact T.of r n e1 fun v ι1 H1 g1 r1 p1 => ⟨ι1, _, x, _, r1, p1, e3, k.go g1⟩
  · cases e
theorem j_op {op : Operator} (ho : OpR X (binaryOp op) (M2 W f)) (ha : PE X a (T W ma)) (hb : PE X b (T W mb)) : PE X (.BinOp a op b pos) (T W (eOp f ma mb)) := (pe_op ho ha hb).imp fun _ _ _ => tOp_of
theorem j_un {op : UnaryOp} {f : D → Store → Option D} (ho : UnR X (unaryOp op) (M1 W f)) (ha : PE X a (T W ma)) : PE X (.UnaryOp op a pos) (T W (eUn f ma)) := (pe_un ho ha).imp fun _ _ _ => tUn_of
theorem j_cmp {op : CmpOp} (ho : OpR X (compareOp op) (M2 W f)) (ha : PE X a (T W ma)) (hb : PE X b (T W mb)) (hm : behindInMarks op b = false) : PE X (.Compare a [op] [b] pos) (T W (eOp f ma mb)) := (pe_cmpR ho ha hb hm).imp fun _ _ _ => tOp_of
theorem j_ix (hr : IxR X (M2 W f)) (ha : PE X a (T W ma)) (hb : PE X b (T W mb)) (hs : PlainIx b) : PE X (.Subscript a b pos) (T W (eOp f ma mb)) := (pe_ix hr ha hb hs).imp fun _ _ _ => tOp_of
theorem TB_bE {σ : L2.St} {H : Hp} {Q : Bool → Hp → Prop} (h : TB W (bE ma) σ H Q) : T W ma σ H fun x H' => ∃ k, x = .bl k ∧ Q k H' := by
  obtain ⟨ι, st, env, d, st', r, n, e, k⟩ := h
  unfold bE at e
  split at e
  · rename_i b' s1 e1
    cases e
    exact T.of r n e1 fun v ι1 H1 g1 r1 p1 => ⟨_, by simpa only [Rep] using p1, k _ _ g1 r1⟩
  · cases e
theorem jt_cmp {op : CmpOp} (ho : OpR X (compareOp op) (M2 W f)) (ha : PE X a (T W ma)) (hb : PE X b (T W mb)) (hm : behindInMarks op b = false) : PT X (.Compare a [op] [b] pos) (TB W (bE (eOp f ma mb))) :=
  (pt_cmpR ho ha hb hm).imp fun σ H Q h => tOp_of (TB_bE h)
theorem jt_val (h : PE X e (T W ma)) (he : ∀ whole, isTrue e X.env whole = (do let v ← whole; standAt e.pos; holding [v] (truthy v)) := by intro _; rfl) : PT X e (TB W (bE ma)) :=
  (pt_val h he).imp fun σ H Q h => TB_bE h
theorem TB.of {m : TM} {σ : L2.St} {H : Hp} {Q : Bool → Hp → Prop} {ι : Lay} {st st' : Store} {env : Env} {d : Bool} (r : RelH W ι H st) (n : REnv W ι H env σ) (e : m env st = some (d, st')) (k : OkB W ι H d st' Q) : TB W m σ H Q := ⟨ι, st, env, d, st', r, n, e, k⟩
theorem tAnd_of {σ : L2.St} {H : Hp} {Q : Bool → Hp → Prop} (h : TB W (bAnd ta tb) σ H Q) : tAnd (TB W ta) (TB W tb) σ H Q := by
  obtain ⟨ι, st, env, d, st', r, n, e, k⟩ := h
  unfold bAnd at e
  split at e
  · rename_i s1 e1
    exact TB.of r n e1 fun ι1 H1 g1 r1 => (if_pos rfl).mpr (TB.of r1 (n.grow g1) e (k.go g1))
  · rename_i hne
    rcases hh : ta env st with _ | ⟨b1, s1⟩
    · rw [hh] at e; cases e
    · cases b1 with
      | true => exact absurd hh (hne s1)
      | false =>
        rw [hh] at e
        cases e
        exact TB.of r n hh fun ι1 H1 g1 r1 => (if_neg Bool.false_ne_true).mpr (k _ _ g1 r1)
theorem tOr_of {σ : L2.St} {H : Hp} {Q : Bool → Hp → Prop} (h : TB W (bOr ta tb) σ H Q) : tOr (TB W ta) (TB W tb) σ H Q := by
  obtain ⟨ι, st, env, d, st', r, n, e, k⟩ := h
  unfold bOr at e
  split at e
  · rename_i s1 e1
    exact TB.of r n e1 fun ι1 H1 g1 r1 => (if_neg Bool.false_ne_true).mpr (TB.of r1 (n.grow g1) e (k.go g1))
  · rename_i hne
    rcases hh : ta env st with _ | ⟨b1, s1⟩
    · rw [hh] at e; cases e
    · cases b1 with
      | false => exact absurd hh (hne s1)
      | true =>
        rw [hh] at e
        cases e
        exact TB.of r n hh fun ι1 H1 g1 r1 => (if_pos rfl).mpr (k _ _ g1 r1)
theorem jw_and1 (ha : PT X a (TB W ta)) : PW X (.BoolOp .And [a] pos) (TB W ta) := pw_and1 ha
theorem jw_or1 (ha : PT X a (TB W ta)) : PW X (.BoolOp .Or [a] pos) (TB W ta) := pw_or1 ha
theorem jw_and (ha : PT X a (TB W ta)) (hb : PW X (.BoolOp .And (b :: rest) pos) (TB W tb)) : PW X (.BoolOp .And (a :: b :: rest) pos) (TB W (bAnd ta tb)) := (pw_and ha hb).imp fun _ _ _ => tAnd_of
theorem jw_or (ha : PT X a (TB W ta)) (hb : PW X (.BoolOp .Or (b :: rest) pos) (TB W tb)) : PW X (.BoolOp .Or (a :: b :: rest) pos) (TB W (bOr ta tb)) := (pw_or ha hb).imp fun _ _ _ => tOr_of
theorem jt_not (ha : PT X a (TB W ta)) : PT X (.UnaryOp .Not a pos) (TB W (bNot ta)) := (pt_not ha).imp fun σ H Q ⟨ι, st, env, d, st', r, n, e, k⟩ => by
  unfold bNot at e
  split at e
  · rename_i b1 s1 e1
    cases e
    exact TB.of r n e1 k
  · cases e
theorem j_one {op} (h : PE X a (T W ma)) : PE X (.BoolOp op [a] pos) (T W ma) := pe_one h
theorem j_and (ha : PE X a (T W ma)) (hb : PE X (.BoolOp .And (b :: rest) pos) (T W mb)) : PE X (.BoolOp .And (a :: b :: rest) pos) (T W (eAnd ma mb)) := (pe_and ha hb).imp fun σ H Q ⟨ι, st, env, d, st', r, n, e, k⟩ => by
  unfold eAnd at e
  split at e
  · rename_i s1 e1
    exact T.of r n e1 fun v ι1 H1 g1 r1 p1 => ⟨true, by simpa only [Rep] using p1, (if_pos rfl).mpr (T.of r1 (n.grow g1) e (k.go g1))⟩
  · rename_i s1 e1
    cases e
    exact T.of r n e1 fun v ι1 H1 g1 r1 p1 => ⟨false, by simpa only [Rep] using p1, (if_neg Bool.false_ne_true).mpr (k _ _ _ g1 r1 (by simp only [Rep]))⟩
  · cases e
theorem j_or (ha : PE X a (T W ma)) (hb : PE X (.BoolOp .Or (b :: rest) pos) (T W mb)) : PE X (.BoolOp .Or (a :: b :: rest) pos) (T W (eOr ma mb)) := (pe_or ha hb).imp fun σ H Q ⟨ι, st, env, d, st', r, n, e, k⟩ => by
  unfold eOr at e
  split at e
  · rename_i s1 e1
    exact T.of r n e1 fun v ι1 H1 g1 r1 p1 => ⟨false, by simpa only [Rep] using p1, (if_neg Bool.false_ne_true).mpr (T.of r1 (n.grow g1) e (k.go g1))⟩
  · rename_i s1 e1
    cases e
    exact T.of r n e1 fun v ι1 H1 g1 r1 p1 => ⟨true, by simpa only [Rep] using p1, (if_pos rfl).mpr (k _ _ _ g1 r1 (by simp only [Rep]))⟩
  · cases e
theorem j_not (ha : PE X a (T W ma)) : PE X (.UnaryOp .Not a pos) (T W (eNot ma)) := (pe_not ha).imp fun σ H Q ⟨ι, st, env, d, st', r, n, e, k⟩ => by
  unfold eNot at e
  split at e
  · rename_i b1 s1 e1
    cases e
    exact T.of r n e1 fun v ι1 H1 g1 r1 p1 => ⟨b1, by simpa only [Rep] using p1, k _ _ _ g1 r1 (by simp only [Rep])⟩
  · cases e
theorem j_if (hc : PT X c (TB W tc)) (ha : PE X a (T W ma)) (hb : PE X b (T W mb)) : PE X (.IfExp c a b pos) (T W (eIf tc ma mb)) := (pe_ifExp hc ha hb).imp fun σ H Q ⟨ι, st, env, d, st', r, n, e, k⟩ => by
  unfold eIf at e
  split at e
  · rename_i s1 e1
    exact TB.of r n e1 fun ι1 H1 g1 r1 => (if_pos rfl).mpr (T.of r1 (n.grow g1) e (k.go g1))
  · rename_i s1 e1
    exact TB.of r n e1 fun ι1 H1 g1 r1 => (if_neg Bool.false_ne_true).mpr (T.of r1 (n.grow g1) e (k.go g1))
  · cases e
theorem chain_of {σ : L2.St} {H : Hp} {Q : VK} (h : T W (eChain f g ma mb mc) σ H Q) : tChain (M2 W f) (M2 W g) (T W ma) (T W mb) (T W mc) σ H Q := by
  obtain ⟨ι, st, env, d, st', r, n, e, k⟩ := h
  unfold eChain at e
  split at e
  · rename_i x s1 e1
    split at e
    · rename_i y s2 e2
      refine T.of r n e1 fun v ι1 H1 g1 r1 p1 => T.of r1 (n.grow g1) e2 fun u ι2 H2 g2 r2 p2 => ?_
      split at e
      · rename_i e3
        refine ⟨ι2, s2, x, y, .bl true, r2, Rep.grow g2 _ _ p1, p2, e3, fun z ι3 H3 g3 r3 p3 => ⟨true, by simpa only [Rep] using p3, (if_pos rfl).mpr ?_⟩⟩
        split at e
        · rename_i z s3 e4
          rw [Option.map_eq_some_iff] at e
          obtain ⟨q, e5, e6⟩ := e
          cases e6
          exact T.of r3 (((n.grow g1).grow g2).grow g3) e4 fun w' ι4 H4 g4 r4 p4 => ⟨ι4, _, y, z, _, r4, Rep.grow g4 _ _ (Rep.grow g3 _ _ p2), p4, e5, k.go (((g1.trans g2).trans g3).trans g4)⟩
        · cases e
      · rename_i e3
        cases e
        refine ⟨ι2, _, x, y, .bl false, r2, Rep.grow g2 _ _ p1, p2, e3, fun z ι3 H3 g3 r3 p3 => ⟨false, by simpa only [Rep] using p3, (if_neg Bool.false_ne_true).mpr ?_⟩⟩
        exact k _ _ _ ((g1.trans g2).trans g3) r3 (by simp only [Rep])
      · cases e
    · cases e
  · cases e
theorem j_chain {op op' : CmpOp} (ho : OpR X (compareOp op) (M2 W f)) (ho' : OpR X (compareOp op') (M2 W g)) (ha : PE X a (T W ma)) (hb : PE X b (T W mb)) (hc : PE X c (T W mc))
    (hm : lastMarks [op, op'] [b, c] = false := by with_unfolding_all rfl) : PE X (.Compare a [op, op'] [b, c] pos) (T W (eChain f g ma mb mc)) := (pe_chain ho ho' ha hb hc hm).imp fun _ _ _ => chain_of
theorem jt_chain {op op' : CmpOp} (ho : OpR X (compareOp op) (M2 W f)) (ho' : OpR X (compareOp op') (M2 W g)) (ha : PE X a (T W ma)) (hb : PE X b (T W mb)) (hc : PE X c (T W mc))
    (hm : lastMarks [op, op'] [b, c] = false := by with_unfolding_all rfl) : PT X (.Compare a [op, op'] [b, c] pos) (TB W (bE (eChain f g ma mb mc))) := (pt_chain ho ho' ha hb hc hm).imp fun _ _ _ h => chain_of (TB_bE h)

/-! #### argument lists, displays, calls -/
theorem TA.of {m : AM} {σ : L2.St} {H : Hp} {Q : List V → Hp → Prop} {ι : Lay} {st st' : Store} {env : Env} {d : List D} (r : RelH W ι H st) (n : REnv W ι H env σ) (e : m env st = some (d, st')) (k : OkA W ι H d st' Q) : TAs W m σ H Q := ⟨ι, st, env, d, st', r, n, e, k⟩
theorem ja_nil : PA X [] (TAs W aNil) := pa_nil.imp fun σ H Q ⟨ι, st, env, d, st', r, n, e, k⟩ => by
  cases e
  exact k _ _ _ Grow.refl r Reps.nil
theorem ja_cons {mr : AM} (ha : PE X e (T W ma)) (hr : PA X es (TAs W mr)) (hs : starEach (e :: es) X.env = (false, eval e X.env) :: starEach es X.env := by rfl) : PA X (e :: es) (TAs W (aCons ma mr)) := (pa_cons ha hr hs).imp fun σ H Q ⟨ι, st, env, d, st', r, n, e, k⟩ => by
  unfold aCons at e
  split at e
  · rename_i x s1 e1
    split at e
    · rename_i xs s2 e2
      cases e
      exact T.of r n e1 fun v ι1 H1 g1 r1 p1 => TA.of r1 (n.grow g1) e2 fun vs ι2 H2 g2 r2 p2 => k _ _ _ (g1.trans g2) r2 (Reps.cons (Rep.grow g2 _ _ p1) p2)
    · cases e
  · cases e
theorem j_tup {x1} {mr : AM} (h : PA X es (TAs W mr)) : PE X (.Tuple es x1 pos) (T W (eTup mr)) := (pe_tup h).imp fun σ H Q ⟨ι, st, env, d, st', r, n, e, k⟩ => by
  unfold eTup at e
  split at e
  · rename_i xs s1 e1
    split at e
    · rename_i hz
      cases e
      exact TA.of r n e1 fun vs ι1 H1 g1 r1 p1 => ⟨by rw [← p1.length]; exact hz, fun p hp => (k.go g1).tup r1 p1 hp⟩
    · cases e
  · cases e
theorem j_lst {mr : AM} (h : PA X es (TAs W mr)) : PE X (.List es pos) (T W (eLst mr)) := (pe_lst h).imp fun σ H Q ⟨ι, st, env, d, st', r, n, e, k⟩ => by
  unfold eLst at e
  split at e
  · rename_i xs s1 e1
    split at e
    · rename_i hz
      cases e
      exact TA.of r n e1 fun vs ι1 H1 g1 r1 p1 => ⟨by rw [← p1.length]; exact hz, fun p hp => (k.go g1).lst r1 p1 hp⟩
    · cases e
  · cases e
theorem j_lstM {mr : AM} (h : PA X es (TAs W mr)) : PE X (.List es pos) (T W (eLstM mr)) := (pe_lst h).imp fun σ H Q ⟨ι, st, env, d, st', r, n, e, k⟩ => by
  unfold eLstM at e
  split at e
  · rename_i xs s1 e1
    split at e
    · rename_i hz
      cases e
      exact TA.of r n e1 fun vs ι1 H1 g1 r1 p1 => ⟨by rw [← p1.length]; exact hz, fun p hp => (k.go g1).lstM r1 p1 hp⟩
    · cases e
  · cases e
theorem tCB_of {F : FM} {mr : AM} {σ : L2.St} {H : Hp} {Q : VK} (h : T W (eCall F mr) σ H Q) : tCB (MA W F) (TAs W mr) σ H Q := by
  obtain ⟨ι, st, env, d, st', r, n, e, k⟩ := h
  unfold eCall at e
  split at e
  · rename_i xs s1 e1
    exact TA.of r n e1 fun vs ι1 H1 g1 r1 p1 => ⟨ι1, s1, xs, d, st', r1, p1, e, k.go g1⟩
  · cases e
theorem j_callB {x : Str} {id : String} {p : Pos} {F : FM} {mr : AM} (hc : CallR X (.builtin id) (MA W F)) (hg : Gl X x) (hm : X.mg x = none) (hv : bootBuiltins x = some (.builtin id)) (ha : PA X (e :: es) (TAs W mr)) (hn : x ≠ "__name__" := by decide) (hdb : (x == ("__debug__" : Str)) = false := by decide)
    (he : starEach (e :: es) X.env = (false, eval e X.env) :: starEach es X.env := by rfl) (hpl : (backTo pos (starEach es X.env)).any (·.1) = false := by rfl) : PE X (.Call (.Name x p) (e :: es) [] pos) (T W (eCall F mr)) := (pe_callB hc hg hm hv ha hn hdb he hpl).imp fun _ _ _ => tCB_of
theorem j_callTy {x : Str} {id : String} {p : Pos} {F : FM} {mr : AM} (hc : CallR X (.type id) (MA W F)) (hg : Gl X x) (hm : X.mg x = none) (hv : bootBuiltins x = some (.type id)) (ha : PA X (e :: es) (TAs W mr)) (hn : x ≠ "__name__" := by decide) (hdb : (x == ("__debug__" : Str)) = false := by decide)
    (he : starEach (e :: es) X.env = (false, eval e X.env) :: starEach es X.env := by rfl) (hpl : (backTo pos (starEach es X.env)).any (·.1) = false := by rfl) : PE X (.Call (.Name x p) (e :: es) [] pos) (T W (eCall F mr)) := (pe_callTy hc hg hm hv ha hn hdb he hpl).imp fun _ _ _ => tCB_of
end
end My

namespace My
open PySem PySem.Spec PyProof.Rows L2

/-! ### targets -/
abbrev GM := D → Env → Option Env
abbrev GMs := List D → Env → Option Env
def gNm (i : Nat) : GM := fun d env => some (env.set i (some d))
def gsNil : GMs := fun ds env => match ds with
  | [] => some env
  | _ => none
def gsCons (g : GM) (gs : GMs) : GMs := fun ds env => match ds with
  | d :: ds => match g d env with
    | some e => gs ds e
    | none => none
  | [] => none
def gTp (n : Nat) (gs : GMs) : GM := fun d env => match d with
  | .tup xs => if xs.length = n then gs xs env else none
  | _ => none
def TGm (W : Wd) (g : GM) (vs : List Nat) : TG := fun v σ H Q => ∃ ι st env d env', RelH W ι H st ∧ REnv W ι H env σ ∧ Rep W ι H d v ∧ g d env = some env' ∧
  ∀ σ', REnv W ι H env' σ' → L2.wipe σ' vs = L2.wipe σ vs → Q σ' H
def TGsm (W : Wd) (g : GMs) (vs : List Nat) : TGs := fun us σ H Q => ∃ ι st env ds env', RelH W ι H st ∧ REnv W ι H env σ ∧ Reps W ι H ds us ∧ g ds env = some env' ∧
  ∀ σ', REnv W ι H env' σ' → L2.wipe σ' vs = L2.wipe σ vs → Q σ' H
theorem wipe_set (σ : L2.St) (i : Nat) (x : Option V) : ∀ vs : List Nat, (i ∈ vs → L2.wipe (σ.set i x) vs = L2.wipe σ vs) ∧ (i ∉ vs → L2.wipe (σ.set i x) vs = (L2.wipe σ vs).set i x)
  | [] => ⟨fun h => by simp at h, fun _ => rfl⟩
  | v :: vs => by
    obtain ⟨h1, h2⟩ := wipe_set σ i x vs
    constructor
    · intro h
      show (L2.wipe (σ.set i x) vs).set v none = (L2.wipe σ vs).set v none
      by_cases hi : i ∈ vs
      · rw [h1 hi]
      · have : i = v := by simpa [hi] using h
        subst this
        rw [h2 hi, List.set_set]
    · intro h
      simp only [List.mem_cons, not_or] at h
      show (L2.wipe (σ.set i x) vs).set v none = ((L2.wipe σ vs).set v none).set i x
      rw [h2 h.2, List.set_comm _ _ h.1]

section
variable {X : Cx} {W : Wd} {pos : Pos}
theorem _root_.L2.PG.imp' {X : Cx} {tg : Expr} {t t' : TG} (h : PG X tg t) (k : ∀ v σ H Q, t' v σ H Q → t v σ H Q) : PG X tg t' := ⟨fun p s σ H v u Q I r q => h.run p s σ H v u Q I r (k _ _ _ _ q)⟩
theorem _root_.L2.PGs.imp {X : Cx} {tg : List Expr} {t t' : TGs} (h : PGs X tg t) (k : ∀ v σ H Q, t' v σ H Q → t v σ H Q) : PGs X tg t' := ⟨fun p s σ H v u Q I r q => h.run p s σ H v u Q I r (k _ _ _ _ q)⟩
theorem jg_name {i : Nat} {x : Str} {vs : List Nat} (hN : X.N.Nodup) (hi : X.N[i]? = some x) (hx : Loc X.env.scope x) (hv : i ∈ vs := by decide) (hf : X.fn x = true ∨ X.env.scope.names.lookup x = some .local := by first | exact .inl rfl | exact .inr rfl | assumption) : PG X (.Name x pos) (TGm W (gNm i) vs) :=
  (pg_name hN hi hx hf).imp' fun v σ H Q ⟨ι, st, env, d, env', r, n, h, e, k⟩ => by
    cases e
    exact k _ (n.set i h) ((wipe_set σ i (some v) vs).1 hv)
theorem jgs_nil {vs : List Nat} : PGs X [] (TGsm W gsNil vs) := pgs_nil.imp fun us σ H Q ⟨ι, st, env, d, env', r, n, h, e, k⟩ => by
  cases d with
  | nil =>
    cases e
    exact ⟨h.nil_of, k _ n rfl⟩
  | cons _ _ => cases e
theorem jgs_cons {e : Expr} {es : List Expr} {g : GM} {gs : GMs} {vs : List Nat} (h1 : PG X e (TGm W g vs)) (h2 : PGs X es (TGsm W gs vs))
    (hs : (assignEach (e :: es) X.env).map (·.2) = assign e X.env :: (assignEach es X.env).map (·.2) := by rfl) : PGs X (e :: es) (TGsm W (gsCons g gs) vs) := (pgs_cons h1 h2 hs).imp fun us σ H Q ⟨ι, st, env, d, env', r, n, h, e, k⟩ => by
  cases d with
  | nil => cases e
  | cons d ds =>
    unfold gsCons at e
    dsimp only at e
    split at e
    · rename_i e1 q
      obtain ⟨v, u, rfl, h1, h2⟩ := h.uncons
      exact ⟨v, u, rfl, ι, st, env, d, e1, r, n, h1, q, fun σ1 n1 w1 => ⟨ι, st, e1, ds, env', r, n1, h2, e, fun σ2 n2 w2 => k _ n2 (w2.trans w1)⟩⟩
    · cases e
theorem jg_tup {es : List Expr} {kk : Nat} {gs : GMs} {n : Nat} {vs : List Nat} (hK : X.K = W.K) (hc : X.calm = true) (h : PGs X es (TGsm W gs vs))
    (hn : (assignEach es X.env).length = n := by rfl) (hst : (assignEach es X.env).findIdx? (·.1) = none := by rfl) : PG X (.Tuple es kk pos) (TGm W (gTp n gs) vs) := (pg_tup hc h hn hst).imp' fun v σ H Q ⟨ι, st, env, d, env', r, n', h, e, k⟩ => by
  unfold gTp at e
  split at e
  · rename_i xs
    split at e
    · rename_i hl
      obtain ⟨a, us, rfl, h1, h2⟩ := seqT_ok h (xs := xs) rfl
      exact ⟨a, us, rfl, SqT.of h1, by rw [← h2.length]; exact hl, ι, st, env, xs, env', r, n', h2, e, k⟩
    · cases e
  · cases e

/-! ### what is walked -/
abbrev IM := Env → Store → Option (List D × (Store → Prop) × Store)
structure ItOk (W : Wd) (J : It) (ι0 : Lay) (H0 : Hp) (ds : List D) (gd : Store → Prop) : Prop where
  go : ∀ (i : Nat) (ι : Lay) (H : Hp) (st : Store) (d : D), Gro ι0 H0 ι H → RelH W ι H st → gd st → ds[i]? = some d → J.go i H ∧ ∀ x H', J.yld i H x H' → Grow ι H ι H' ∧ RelH W ι H' st ∧ Rep W ι H' d x
  stop : ∀ (ι : Lay) (H : Hp) (st : Store), Gro ι0 H0 ι H → RelH W ι H st → gd st → J.stop ds.length H
def TIm (W : Wd) (im : IM) : TI := fun σ H R => ∃ ι st env ds gd st', RelH W ι H st ∧ REnv W ι H env σ ∧ im env st = some (ds, gd, st') ∧
  ∀ J ι' H', Grow ι H ι' H' → RelH W ι' H' st' → ItOk W J ι' H' ds gd → R J H'
def always : Store → Prop := fun _ => True
def iSeq (m : EM) : IM := fun env st => match m env st with
  | some (.tup xs, s1) => some (xs, always, s1)
  | some (.tpf xs, s1) => some (xs, always, s1)
  | some (.lst xs, s1) => some (xs, always, s1)
  | some (.scr ns, s1) => some (ns.map .int, always, s1)
  | some (.ref i, s1) => match s1[i]? with
    | some (.lst xs) => some (xs, fun s => s[i]? = some (.lst xs), s1)
    | _ => none
  | _ => none
theorem itOk_list {a : Addr} {ι0 : Lay} {H0 : Hp} {ds : List D} {gd : Store → Prop} (h : ∀ ι H st, Gro ι0 H0 ι H → RelH W ι H st → gd st → ∃ vs, SqL W.K H a vs ∧ Reps W ι H ds vs) : ItOk W (Itl W.K a) ι0 H0 ds gd where
  go := fun i ι H st d g r k e => by
    obtain ⟨vs, h1, h2⟩ := h ι H st g r k
    obtain ⟨v, h3, h4⟩ := h2.get e
    refine ⟨⟨vs, v, h1, h3⟩, fun x H' ⟨e1, e2⟩ => ?_⟩
    subst e1
    have := e2 _ h1
    rw [h3] at this
    cases this
    exact ⟨Grow.refl, r, h4⟩
  stop := fun ι H st g r k => by
    obtain ⟨vs, h1, h2⟩ := h ι H st g r k
    exact ⟨vs, h1, by rw [h2.length]; exact Nat.le_refl _⟩
theorem itOk_tup {a : Addr} {ι0 : Lay} {H0 : Hp} {ds : List D} {gd : Store → Prop} (h : ∀ ι H st, Gro ι0 H0 ι H → RelH W ι H st → gd st → ∃ vs, SqT W.K H a vs ∧ Reps W ι H ds vs) : ItOk W (Itt W.K a) ι0 H0 ds gd where
  go := fun i ι H st d g r k e => by
    obtain ⟨vs, h1, h2⟩ := h ι H st g r k
    obtain ⟨v, h3, h4⟩ := h2.get e
    refine ⟨⟨vs, v, h1, h3⟩, fun x H' ⟨e1, e2⟩ => ?_⟩
    subst e1
    have := e2 _ h1
    rw [h3] at this
    cases this
    exact ⟨Grow.refl, r, h4⟩
  stop := fun ι H st g r k => by
    obtain ⟨vs, h1, h2⟩ := h ι H st g r k
    exact ⟨vs, h1, by rw [h2.length]; exact Nat.le_refl _⟩
theorem ji_seq {tg l : Expr} {m : EM} (hK : X.K = W.K) (hl : PE X l (T W m)) : PI X tg l (TIm W (iSeq m)) := by
  refine ⟨fun pins s σ H R I h => ?_⟩
  obtain ⟨ι, st, env, ds, gd, st', r, n, e, k⟩ := h
  unfold iSeq at e
  split at e
  · rename_i xs s1 e1
    cases e
    refine (pi_tup hl).run pins s σ H R I (T.of r n e1 fun v ι1 H1 g1 r1 p1 => ?_)
    obtain ⟨a, vs, rfl, h1, h2⟩ := seqT_ok p1 (xs := ds) rfl
    rw [hK]
    exact ⟨a, rfl, ⟨vs, SqT.of h1⟩, k _ ι1 H1 g1 r1 (itOk_tup fun ι2 H2 s2 g2 _ _ => ⟨vs, SqT.of (g2.keep _ _ (.inr fun z => z) h1), Reps.gro g2 _ _ h2⟩)⟩
  · rename_i xs s1 e1
    cases e
    refine (pi_tup hl).run pins s σ H R I (T.of r n e1 fun v ι1 H1 g1 r1 p1 => ?_)
    obtain ⟨a, o, vs, rfl, _, h0, h1, h2⟩ := tpf_ok p1
    rw [hK]
    exact ⟨a, rfl, ⟨vs, h1⟩, k _ ι1 H1 g1 r1 (itOk_tup fun ι2 H2 s2 g2 _ _ => ⟨vs, .inl (.inr ⟨o, g2.keep _ _ (.inr fun z => z) h0⟩), Reps.gro g2 _ _ h2⟩)⟩
  · rename_i xs s1 e1
    cases e
    refine (pi_list hl).run pins s σ H R I (T.of r n e1 fun v ι1 H1 g1 r1 p1 => ?_)
    simp only [Rep] at p1
    obtain ⟨a, rfl, na, vs, h1, h2⟩ := p1
    rw [hK]
    exact ⟨a, rfl, ⟨vs, SqL.of h1⟩, k _ ι1 H1 g1 r1 (itOk_list fun ι2 H2 s2 g2 _ _ => ⟨vs, SqL.of (g2.keep _ _ (.inl na) h1), Reps.gro g2 _ _ h2⟩)⟩
  · rename_i ns s1 e1
    cases e
    refine (pi_list hl).run pins s σ H R I (T.of r n e1 fun v ι1 H1 g1 r1 p1 => ?_)
    simp only [Rep] at p1
    obtain ⟨a, rfl, h1⟩ := p1
    rw [hK]
    exact ⟨a, rfl, ⟨_, h1.sq⟩, k _ ι1 H1 g1 r1 (itOk_list fun ι2 H2 s2 g2 _ _ => ⟨_, (g2.fzL h1).sq, Reps.map fun x _ => by simp only [Rep]⟩)⟩
  · rename_i i s1 e1
    split at e
    · rename_i xs q
      cases e
      refine (pi_list hl).run pins s σ H R I (T.of r n e1 fun v ι1 H1 g1 r1 p1 => ?_)
      simp only [Rep] at p1
      obtain ⟨a, rfl, h1⟩ := p1
      obtain ⟨c, hc, ok⟩ := r1.at h1
      rw [q] at hc
      cases hc
      obtain ⟨vs, h2, h3⟩ := ok
      rw [hK]
      refine ⟨a, rfl, ⟨vs, SqL.of h2⟩, k _ ι1 H1 g1 r1 (itOk_list fun ι2 H2 s2 g2 r2 gd2 => ?_)⟩
      obtain ⟨c, hc, ok⟩ := r2.at (g2.pre _ _ h1)
      rw [gd2] at hc
      cases hc
      obtain ⟨us, h4, h5⟩ := ok
      exact ⟨us, SqL.of h4, h5⟩
    · cases e
  · cases e
def intsTo (lo : Int) (n : Nat) : List D := (List.range n).map fun i => .int (lo + (i : Nat))
def iRange1 (a : EM) : IM := fun env st => match a env st with
  | some (.int j, s1) => if -(2 ^ 62) ≤ j ∧ j < 2 ^ 62 then some (intsTo 0 j.toNat, always, s1) else none
  | _ => none
def iRange2 (a b : EM) : IM := fun env st => match a env st with
  | some (.int i, s1) => match b env s1 with
    | some (.int j, s2) => if (-(2 ^ 62) ≤ i ∧ i < 2 ^ 62) ∧ (-(2 ^ 62) ≤ j ∧ j < 2 ^ 62) then some (intsTo i (j - i).toNat, always, s2) else none
    | _ => none
  | _ => none
theorem intsTo_get {lo : Int} {n i : Nat} {d : D} (h : (intsTo lo n)[i]? = some d) : i < n ∧ d = .int (lo + (i : Nat)) := by
  unfold intsTo at h
  rw [List.getElem?_map] at h
  by_cases hi : i < n
  · rw [List.getElem?_range hi] at h
    cases h
    exact ⟨hi, rfl⟩
  · rw [List.getElem?_eq_none (by simpa using hi)] at h
    cases h
theorem intsTo_len {lo : Int} {n : Nat} : (intsTo lo n).length = n := by simp [intsTo]
theorem itOk_range {lo : Int} {n : Nat} {ι0 : Lay} {H0 : Hp} : ItOk W (Itr lo n) ι0 H0 (intsTo lo n) always where
  go := fun i ι H st d g r k e => by
    obtain ⟨h1, rfl⟩ := intsTo_get e
    refine ⟨h1, fun x H' ⟨e1, e2⟩ => ?_⟩
    subst e1
    subst e2
    exact ⟨Grow.refl, r, by simp only [Rep]⟩
  stop := fun ι H st g r k => by
    rw [intsTo_len]
    exact Nat.le_refl n
theorem ji_range1 {tg a : Expr} {m : EM} {p : Pos} (hg : Gl X "range") (hm : X.mg "range" = none) (ha : PE X a (T W m)) (hs : starEach [a] X.env = [(false, eval a X.env)] := by rfl) : PI X tg (.Call (.Name "range" p) [a] [] pos) (TIm W (iRange1 m)) :=
  (pi_range1 hg hm (ja_cons ha ja_nil hs) hs).imp fun σ H R ⟨ι, st, env, ds, gd, st', r, n, e, k⟩ => by
    unfold iRange1 at e
    split at e
    · rename_i j s1 e1
      split at e
      · rename_i hz
        cases e
        refine TA.of r n (d := [.int j]) (st' := st') (by unfold aCons; rw [e1]; rfl) fun vs ι1 H1 g1 r1 p1 => ?_
        obtain ⟨v, u, rfl, h1, h2⟩ := p1.uncons
        have e3 := h2.nil_of
        subst e3
        simp only [Rep] at h1
        subst h1
        exact ⟨j, rfl, hz.1, hz.2, k _ ι1 H1 g1 r1 itOk_range⟩
      · cases e
    · cases e
theorem ji_range2 {tg a b : Expr} {m m2 : EM} {p : Pos} (hg : Gl X "range") (hm : X.mg "range" = none) (ha : PE X a (T W m)) (hb : PE X b (T W m2)) (hs : starEach [a, b] X.env = [(false, eval a X.env), (false, eval b X.env)] := by rfl) (hs2 : starEach [b] X.env = [(false, eval b X.env)] := by rfl) : PI X tg (.Call (.Name "range" p) [a, b] [] pos) (TIm W (iRange2 m m2)) :=
  (pi_range2 hg hm (ja_cons ha (ja_cons hb ja_nil hs2) (by rw [hs, hs2])) hs hs2).imp fun σ H R ⟨ι, st, env, ds, gd, st', r, n, e, k⟩ => by
    unfold iRange2 at e
    split at e
    · rename_i i s1 e1
      split at e
      · rename_i j s2 e2
        split at e
        · rename_i hz
          cases e
          refine TA.of r n (d := [.int i, .int j]) (st' := st') (by unfold aCons; rw [e1]; dsimp only; rw [e2]; rfl) fun vs ι1 H1 g1 r1 p1 => ?_
          obtain ⟨v, u, rfl, h1, h2⟩ := p1.uncons
          obtain ⟨v2, u2, rfl, h3, h4⟩ := h2.uncons
          have e3 := h4.nil_of
          subst e3
          simp only [Rep] at h1 h3
          subst h1
          subst h3
          exact ⟨i, j, rfl, ⟨hz.1.1, hz.1.2, hz.2.1, hz.2.2⟩, k _ ι1 H1 g1 r1 itOk_range⟩
        · cases e
      · cases e
    · cases e

/-! ### comprehensions -/
open Classical in
noncomputable def lcGo (gd : Store → Prop) (g : GM) (tt : TM) (el : EM) (env : Env) : List D → Store → Option (List D × Store)
  | [], st => if gd st then some ([], st) else none
  | d :: ds, st => if gd st then match g d env with
      | some e2 => match tt e2 st with
        | some (true, s1) => match el e2 s1 with
          | some (y, s2) => match lcGo gd g tt el env ds s2 with
            | some (ys, s3) => some (y :: ys, s3)
            | none => none
          | none => none
        | some (false, s1) => lcGo gd g tt el env ds s1
        | none => none
      | none => none
    else none
noncomputable def eLc (im : IM) (g : GM) (tt : TM) (el : EM) (vs : List Nat) : EM := fun env st => match im env st with
  | some (ds, gd, s1) => match lcGo gd g tt el (wipeE env vs) ds s1 with
    | some (ys, s2) => if ys.length ≤ sizeLine then some (.lst ys, s2) else none
    | none => none
  | none => none
def bYes : TM := fun _ st => some (true, st)
theorem lc_of {im : IM} {g : GM} {tt : TM} {el : EM} {vs : List Nat} {σ : L2.St} {H : Hp} {Q : VK} (h : T W (eLc im g tt el vs) σ H Q) : tLc (TIm W im) (TGm W g vs) (TB W tt) (T W el) vs σ H Q := by
  obtain ⟨ι, st, env, d, st', r, n, e, k⟩ := h
  unfold eLc at e
  split at e
  · rename_i ds gd s1 e1
    split at e
    · rename_i ys s2 e2
      split at e
      · rename_i hz
        cases e
        refine ⟨ι, st, env, ds, gd, s1, r, n, e1, fun J ι1 H1 g1 r1 ok L hL => ?_⟩
        have n1 := n.grow g1
        refine ⟨fun i m H => i + m = ds.length ∧ ∃ ι2 s acc rest vacc, Grow ι1 H1 ι2 H ∧ Gro ι1 H1 (ι2.hide L) H ∧ RelH W (ι2.hide L) H s ∧ H L = some (.lst vacc) ∧ Reps W (ι2.hide L) H acc vacc ∧ lcGo gd g tt el (wipeE env vs) (ds.drop i) s = some (rest, st') ∧ ys = acc ++ rest, ⟨ds.length, by omega, ι1, s1, [], ys, [], Grow.laid hL, Gro.hide hL, r1.hide hL, upd_same, Reps.nil, e2, rfl⟩, ?_⟩
        rintro i m H2 ⟨hm, ι2, s, acc, rest, vacc, g2, gg2, r2, hL2, hacc, hgo, hys⟩
        by_cases hi : i < ds.length
        · right
          have hd : ds.drop i = ds[i] :: ds.drop (i + 1) := List.drop_eq_getElem_cons hi
          rw [hd] at hgo
          unfold lcGo at hgo
          split at hgo
          · rename_i hgd
            obtain ⟨j1, j2⟩ := ok.go i _ H2 s _ gg2 r2 hgd (List.getElem?_eq_getElem hi)
            refine ⟨j1, fun H' => ∃ ι2 s acc rest vacc, Grow ι1 H1 ι2 H' ∧ Gro ι1 H1 (ι2.hide L) H' ∧ RelH W (ι2.hide L) H' s ∧ H' L = some (.lst vacc) ∧ Reps W (ι2.hide L) H' acc vacc ∧ lcGo gd g tt el (wipeE env vs) (ds.drop (i + 1)) s = some (rest, st') ∧ ys = acc ++ rest, fun H' nx => ⟨m - 1, by omega, by omega, nx⟩, fun x H3 hy => ?_⟩
            obtain ⟨g3, r3, p3⟩ := j2 x H3 hy
            split at hgo
            · rename_i e3 q3
              have n3 : REnv W (ι2.hide L) H3 (wipeE env vs) (L2.wipe σ vs) := ((n1.wipe vs).gro gg2).grow g3
              refine ⟨_, s, _, _, e3, r3, n3, p3, q3, fun σ2 n4 w4 => ⟨w4.trans ?_, ?_⟩⟩
              · exact wipe_wipe σ vs
              have hLk : L ∈ (ι2.hide L).k := List.mem_cons_self
              have hLc : L ∉ (ι2.hide L).c := fun z => r2.dis L z hLk
              split at hgo
              · rename_i s4 q4
                refine TB.of r3 n4 q4 fun ι4 H4 g4 r4 => ?_
                rw [if_pos rfl]
                split at hgo
                · rename_i y s5 q5
                  split at hgo
                  · rename_i ys' s6 q6
                    cases hgo
                    refine T.of r4 (n4.grow g4) q5 fun v ι5 H5 g5 r5 p5 => ?_
                    have hk5 : ι5.k = L :: ι2.k := (g5.hid.trans g4.hid)
                    have e5 : ι5 = (Lay.hide ⟨ι5.c, ι2.k⟩ L) := by
                      cases ι5
                      simp only [Lay.hide]
                      exact congrArg _ hk5
                    have gg : Grow (ι2.hide L) H2 ι5 H5 := (g3.trans g4).trans g5
                    have hL5 : H5 L = some (.lst vacc) := gg.keep _ _ (.inl hLc) hL2
                    have hacc5 := Reps.append (Reps.grow gg _ _ hacc) (Reps.cons p5 Reps.nil)
                    rw [e5] at r5 hacc5 gg
                    have l5 : acc.length + 1 ≤ ys.length := by rw [hys]; simp
                    refine ⟨vacc, hL5, by rw [← hacc.length]; omega, ⟨ι5.c, ι2.k⟩, s5, acc ++ [y], ys', vacc ++ [v], ?_, ?_, r5.over List.mem_cons_self hL5 trivial, upd_same, Reps.gro (Gro.over List.mem_cons_self hL5 trivial) _ _ hacc5, q6, by rw [hys]; simp⟩
                    · refine ⟨fun i a h => gg.pre i a (g2.pre i a h), fun a o nn h => ?_, fun a m => ?_, g2.hid⟩
                      · have := ne_of_none h hL
                        exact kp_set this (gg.keep a o (nn.imp (fun nn z => by
                          rcases g2.new a z with q | q
                          · exact nn q
                          · rw [h] at q; cases q) id) (g2.keep a o nn h))
                      · rcases gg.new a m with q | q
                        · exact g2.new a q
                        · by_cases hc : a ∈ ι1.c
                          · exact .inl hc
                          · refine .inr ?_
                            cases e : H1 a with
                            | none => rfl
                            | some o => rw [g2.keep a o (.inl hc) e] at q; cases q
                    · refine ⟨fun i a h => gg.pre i a (gg2.pre i a h), fun a o nn h => ?_, fun a o nn h => ?_⟩
                      · have := ne_of_none h hL
                        exact kp_set this (gg.gro.keep a o (nn.imp (fun nn => gg2.notin a o nn h) id) (gg2.keep a o nn h))
                      · exact gg.gro.notin a o (gg2.notin a o nn h) (gg2.keep a o (.inl nn) h)
                  · cases hgo
                · cases hgo
              · rename_i s4 q4
                refine TB.of r3 n4 q4 fun ι4 H4 g4 r4 => ?_
                rw [if_neg Bool.false_ne_true]
                have hk5 : ι4.k = L :: ι2.k := g4.hid
                have e5 : ι4 = (Lay.hide ⟨ι4.c, ι2.k⟩ L) := by
                  cases ι4
                  simp only [Lay.hide]
                  exact congrArg _ hk5
                have gg : Grow (ι2.hide L) H2 ι4 H4 := g3.trans g4
                have hL5 : H4 L = some (.lst vacc) := gg.keep _ _ (.inl hLc) hL2
                have hacc5 := Reps.grow gg _ _ hacc
                rw [e5] at r4 hacc5 gg
                refine ⟨⟨ι4.c, ι2.k⟩, s4, acc, rest, vacc, ?_, ?_, r4, hL5, hacc5, hgo, hys⟩
                · refine ⟨fun i a h => gg.pre i a (g2.pre i a h), fun a o nn h => ?_, fun a m => ?_, g2.hid⟩
                  · exact gg.keep a o (nn.imp (fun nn z => by
                      rcases g2.new a z with q | q
                      · exact nn q
                      · rw [h] at q; cases q) id) (g2.keep a o nn h)
                  · rcases gg.new a m with q | q
                    · exact g2.new a q
                    · by_cases hc : a ∈ ι1.c
                      · exact .inl hc
                      · refine .inr ?_
                        cases e : H1 a with
                        | none => rfl
                        | some o => rw [g2.keep a o (.inl hc) e] at q; cases q
                · refine ⟨fun i a h => gg.pre i a (gg2.pre i a h), fun a o nn h => ?_, fun a o nn h => ?_⟩
                  · exact gg.gro.keep a o (nn.imp (fun nn => gg2.notin a o nn h) id) (gg2.keep a o nn h)
                  · exact gg.gro.notin a o (gg2.notin a o nn h) (gg2.keep a o (.inl nn) h)
              · cases hgo
            · cases hgo
          · cases hgo
        · left
          have hie : i = ds.length := by omega
          subst hie
          rw [List.drop_length] at hgo
          unfold lcGo at hgo
          split at hgo
          · rename_i hgd
            cases hgo
            refine ⟨ok.stop _ H2 _ gg2 r2 hgd, ?_⟩
            rw [List.append_nil] at hys
            subst hys
            refine k _ ι2 H2 (g1.trans g2) r2.show ?_
            simp only [Rep]
            refine ⟨L, rfl, fun z => ?_, vacc, hL2, Reps.gro Gro.show _ _ hacc⟩
            rcases z with z | z
            · exact r2.dis L z List.mem_cons_self
            · rw [g2.hid] at z
              exact r1.free hL (.inr z)
          · cases hgo
      · cases e
    · cases e
  · cases e
where
  wipe_wipe (σ : L2.St) (vs : List Nat) : L2.wipe (L2.wipe σ vs) vs = L2.wipe σ vs := by
    have h : ∀ (us : List Nat) (τ : L2.St), (∀ v ∈ us, v ∈ vs) → L2.wipe (L2.wipe τ us) vs = L2.wipe τ vs := by
      intro us
      induction us with
      | nil => intro τ _; rfl
      | cons u us ih =>
        intro τ hu
        show L2.wipe ((L2.wipe τ us).set u none) vs = _
        rw [(wipe_set _ u none vs).1 (hu u List.mem_cons_self)]
        exact ih τ fun v hv => hu v (List.mem_cons_of_mem _ hv)
    exact h vs σ fun _ h => h
theorem jts_nil : PTs X [] (TB W bYes) := ⟨fun pins s σ H Q I ⟨ι, st, env, d, st', r, n, e, k⟩ => by
  cases e
  exact pts_nil.run pins s σ H Q I (k _ _ Grow.refl r)⟩
theorem jts_one {c : Expr} {m : TM} (h : PT X c (TB W m)) : PTs X [c] (TB W m) := pts_one h
theorem j_lc {elt tg iter : Expr} {ifs : List Expr} {scope : Scope} {own : List (Str × Nat)} {im : IM} {g : GM} {tt : TM} {el : EM} (hc : X.calm = true) (hN : X.N.Nodup) (hi : PI X tg iter (TIm W im)) (ok : BlkOk X.N X.env.scope scope own)
    (hg : ∀ (s : Shared) (H : Hp) (C : Addr) (cl : List (Str × Addr)) (fp : List Addr), PG (X.blk s H scope (compEnvC scope cl C X.env) fp) tg (TGm W g (own.map (·.2)))) (ht : ∀ (s : Shared) (H : Hp) (C : Addr) (cl : List (Str × Addr)) (fp : List Addr), PTs (X.blk s H scope (compEnvC scope cl C X.env) fp) ifs (TB W tt))
    (he : ∀ (s : Shared) (H : Hp) (C : Addr) (cl : List (Str × Addr)) (fp : List Addr), PE (X.blk s H scope (compEnvC scope cl C X.env) fp) elt (T W el)) (hs : ∀ x, foldedSetIterable iter X.env x = pure x := by intro _; rfl) :
    PE X (.ListComp elt [⟨tg, iter, ifs, 0⟩] scope pos) (T W (eLc im g tt el (own.map (·.2)))) := (pe_lc hc hN hi ok hg ht he hs).imp fun _ _ _ => lc_of
end
end My

namespace My
open PySem PySem.Spec PyProof.Rows L2

/-! ### the mirrors of statements -/
def sSkip : SM := fun env st => some (.nx env, st)
def sSeq (a b : SM) : SM := fun env st => match a env st with
  | some (.nx e, s1) => b e s1
  | r => r
def sSet (i : Nat) (m : EM) : SM := fun env st => match m env st with
  | some (d, s1) => some (.nx (env.set i (some d)), s1)
  | none => none
def sAsg (m : EM) (g : GM) : SM := fun env st => match m env st with
  | some (d, s1) => match g d env with
    | some e => some (.nx e, s1)
    | none => none
  | none => none
def sPar (i j : Nat) (a : AM) : SM := fun env st => match a env st with
  | some ([x, y], s1) => some (.nx ((env.set i (some x)).set j (some y)), s1)
  | _ => none
def sPar3 (i j l : Nat) (a : AM) : SM := fun env st => match a env st with
  | some ([x, y, z], s1) => some (.nx (((env.set i (some x)).set j (some y)).set l (some z)), s1)
  | _ => none
def sRet (m : EM) : SM := fun env st => match m env st with
  | some (d, s1) => some (.rt d, s1)
  | none => none
def sDrop (m : EM) : SM := fun env st => match m env st with
  | some (_, s1) => some (.nx env, s1)
  | none => none
def sIf (c : TM) (a b : SM) : SM := fun env st => match c env st with
  | some (true, s1) => a env s1
  | some (false, s1) => b env s1
  | none => none
def sBrk : SM := fun env st => some (.bk env, st)
def sCnt : SM := fun env st => some (.ct env, st)
def sAug (i : Nat) (f : D → D → Store → Option D) (m : EM) : SM := fun env st => match env[i]? with
  | some (some x) => match m env st with
    | some (y, s1) => match f x y s1 with
      | some z => some (.nx (env.set i (some z)), s1)
      | none => none
    | none => none
  | _ => none
/-- o[i] = v: the value, the object, the index -/
def sSub (f : D → D → D → Store → Option Store) (mo mi mv : EM) : SM := fun env st => match mv env st with
  | some (v, s1) => match mo env s1 with
    | some (o, s2) => match mi env s2 with
      | some (i, s3) => match f o i v s3 with
        | some s4 => some (.nx env, s4)
        | none => none
      | none => none
    | none => none
  | none => none
open Classical in
noncomputable def forGo (gd : Store → Prop) (g : GM) (body : SM) : List D → Env → Store → Option (Out × Store)
  | [], env, st => if gd st then some (.nx env, st) else none
  | d :: ds, env, st => if gd st then match g d env with
      | some e1 => match body e1 st with
        | some (.nx e2, s2) => forGo gd g body ds e2 s2
        | some (.ct e2, s2) => forGo gd g body ds e2 s2
        | some (.bk e2, s2) => some (.nx e2, s2)
        | some (.rt d, s2) => some (.rt d, s2)
        | none => none
      | none => none
    else none
noncomputable def sFor (im : IM) (g : GM) (body : SM) : SM := fun env st => match im env st with
  | some (ds, gd, s1) => forGo gd g body ds env s1
  | none => none
def whileGo (c : TM) (body : SM) : Nat → Env → Store → Option (Out × Store)
  | 0, _, _ => none
  | n + 1, env, st => match c env st with
    | some (true, s1) => match body env s1 with
      | some (.nx e2, s2) => whileGo c body n e2 s2
      | some (.ct e2, s2) => whileGo c body n e2 s2
      | some (.bk e2, s2) => some (.nx e2, s2)
      | some (.rt d, s2) => some (.rt d, s2)
      | none => none
    | some (false, s1) => some (.nx env, s1)
    | none => none
def sWhile (fuel : Nat) (c : TM) (body : SM) : SM := whileGo c body fuel
def M3 (W : Wd) (f : D → D → D → Store → Option Store) : TSet := fun o i v H Q => ∃ ι st a b c st', RelH W ι H st ∧ Rep W ι H a o ∧ Rep W ι H b i ∧ Rep W ι H c v ∧ f a b c st = some st' ∧ ∀ ι' H', Grow ι H ι' H' → RelH W ι' H' st' → Q H'

section
variable {X : Cx} {W : Wd} {pos : Pos} {e : Expr} {m : EM} {a b : SM}
theorem TSt.of {m : SM} {σ : L2.St} {H : Hp} {D : Ends} {ι : Lay} {st st' : Store} {env : Env} {o : Out} (r : RelH W ι H st) (n : REnv W ι H env σ) (e : m env st = some (o, st')) (k : OkS W ι H o st' D) : TSt W m D σ H := ⟨ι, st, env, o, st', r, n, e, k⟩
theorem OkN.now {env : Env} {st : Store} {Q : L2.St → Hp → Prop} {ι : Lay} {H : Hp} {σ : L2.St} (k : OkN W ι H env st Q) (r : RelH W ι H st) (n : REnv W ι H env σ) : Q σ H := k σ ι H Grow.refl r n
theorem jb_nil : PSs X [] (TSt W sSkip) := pss_nil.imp fun D σ H ⟨ι, st, env, o, st', r, n, e, k⟩ => by
  cases e
  exact OkN.now (env := env) k r n
theorem seq_of {D : Ends} {σ : L2.St} {H : Hp} (h : TSt W (sSeq a b) D σ H) : tSeq (TSt W a) (TSt W b) D σ H := by
  obtain ⟨ι, st, env, o, st', r, n, e, k⟩ := h
  unfold sSeq at e
  rcases q : a env st with _ | ⟨o1, s1⟩
  · rw [q] at e; cases e
  · rw [q] at e
    cases o1 with
    | nx e1 => exact TSt.of r n q fun σ' ι' H' g r' n' => TSt.of r' n' e (OkS.go k g)
    | rt d => cases e; exact TSt.of r n q k
    | bk e1 => cases e; exact TSt.of r n q k
    | ct e1 => cases e; exact TSt.of r n q k
theorem jb_cons {st : Stmt} {rest : List Stmt} (h1 : PS X st (TSt W a)) (h2 : PSs X rest (TSt W b)) : PSs X (st :: rest) (TSt W (sSeq a b)) := (pss_cons h1 h2).imp fun _ _ _ => seq_of
theorem jb_one {st : Stmt} (h1 : PS X st (TSt W a)) : PSs X [st] (TSt W a) := pss_one h1
theorem js_doc {x j pos pos'} : PS X (.Expr (.Constant (.str x) j pos) pos') (TSt W sSkip) := ps_doc.imp fun D σ H ⟨ι, st, env, o, st', r, n, e, k⟩ => by
  cases e
  exact OkN.now (env := env) k r n
theorem js_pass : PS X (.Pass pos) (TSt W sSkip) := ps_pass.imp fun D σ H ⟨ι, st, env, o, st', r, n, e, k⟩ => by
  cases e
  exact OkN.now (env := env) k r n
theorem js_break : PS X (.Break pos) (TSt W sBrk) := ps_break.imp fun D σ H ⟨ι, st, env, o, st', r, n, e, k⟩ => by
  cases e
  exact OkN.now (env := env) k r n
theorem js_continue : PS X (.Continue pos) (TSt W sCnt) := ps_continue.imp fun D σ H ⟨ι, st, env, o, st', r, n, e, k⟩ => by
  cases e
  exact OkN.now (env := env) k r n
theorem set_of {i : Nat} {D : Ends} {σ : L2.St} {H : Hp} (h : TSt W (sSet i m) D σ H) : tAsg (T W m) (gName i) D σ H := by
  obtain ⟨ι, st, env, o, st', r, n, e, k⟩ := h
  unfold sSet at e
  split at e
  · rename_i d s1 q
    cases e
    exact T.of r n q fun v ι1 H1 g1 r1 p1 => k _ _ _ g1 r1 ((n.grow g1).set i p1)
  · cases e
theorem js_set {i : Nat} {x : Str} {e : Expr} {pos' : Pos} (hN : X.N.Nodup) (hi : X.N[i]? = some x) (hx : Loc X.env.scope x) (he : PE X e (T W m)) (hs : swapsWith e (some (.Name x pos')) pos.line X.env = pure false := by rfl) (hf : X.fn x = true ∨ X.env.scope.names.lookup x = some .local := by first | exact .inl rfl | exact .inr rfl | assumption) :
    PS X (.Assign [.Name x pos'] e pos) (TSt W (sSet i m)) := (ps_set hN hi hx he hs hf).imp fun _ _ _ => set_of
theorem js_setLc {i : Nat} {y : Str} {py : Pos} {elt tg iter : Expr} {ifs : List Expr} {scope : Scope} {own : List (Str × Nat)} {pos spos : Pos} {im : IM} {g : GM} {tt : TM} {el : EM} (hc : X.calm = true) (hN : X.N.Nodup) (hy : X.N[i]? = some y) (hyl : X.env.scope.names.lookup y = some .local)
    (hsw : swapsWith (.ListComp elt [⟨tg, iter, ifs, 0⟩] scope pos) (some (.Name y py)) spos.line X.env = pure true) (hi : PI X tg iter (TIm W im)) (ok : BlkOk X.N X.env.scope scope own)
    (hg : ∀ (s : Shared) (H : Hp) (C : Addr) (cl : List (Str × Addr)) (fp : List Addr), PG (X.blk s H scope (compEnvC scope cl C X.env) fp) tg (TGm W g (own.map (·.2)))) (ht : ∀ (s : Shared) (H : Hp) (C : Addr) (cl : List (Str × Addr)) (fp : List Addr), PTs (X.blk s H scope (compEnvC scope cl C X.env) fp) ifs (TB W tt))
    (he : ∀ (s : Shared) (H : Hp) (C : Addr) (cl : List (Str × Addr)) (fp : List Addr), PE (X.blk s H scope (compEnvC scope cl C X.env) fp) elt (T W el)) (hs : ∀ x, foldedSetIterable iter X.env x = pure x := by intro _; rfl) :
    PS X (.Assign [.Name y py] (.ListComp elt [⟨tg, iter, ifs, 0⟩] scope pos) spos) (TSt W (sSet i (eLc im g tt el (own.map (·.2))))) := (ps_setLc hc hN hy hyl hsw hi ok hg ht he hs).imp fun D σ H h => by
  have h2 : T W (eLc im g tt el (own.map (·.2))) σ H fun x H1 => gName i x σ H1 D.nx := set_of h
  exact lc_of h2
theorem js_asg {tg e : Expr} {g : GM} {vs : List Nat} (he : PE X e (T W m)) (hg : PG X tg (TGm W g vs)) (hs : swapsWithSole [tg] e pos.line X.env = pure false := by rfl) (hw : swappedStores [tg] e X.env = pure none := by rfl)
    (h1 : (assignEach [tg] X.env).map (·.2) = [assign tg X.env] := by rfl) : PS X (.Assign [tg] e pos) (TSt W (sAsg m g)) := (ps_asg he hg hs hw h1).imp fun D σ H ⟨ι, st, env, o, st', r, n, e, k⟩ => by
  unfold sAsg at e
  split at e
  · rename_i d s1 q
    split at e
    · rename_i e1 q1
      cases e
      exact T.of r n q fun v ι1 H1 g1 r1 p1 => ⟨ι1, _, env, d, e1, r1, n.grow g1, p1, q1, fun σ' n' _ => k _ _ _ g1 r1 n'⟩
    · cases e
  · cases e
theorem js_par {i j : Nat} {x y : Str} {a b : Expr} {ma : AM} {px py pt : Pos} {kt k2 pt2} (hc : X.calm = true) (hN : X.N.Nodup) (hi : X.N[i]? = some x) (hj : X.N[j]? = some y) (hij : i ≠ j)
    (hx : X.env.scope.names.lookup x = some .local) (hy : X.env.scope.names.lookup y = some .local) (ha : PA X [a, b] (TAs W ma))
    (hw : swappedStores [.Tuple [.Name x px, .Name y py] kt pt] (.Tuple [a, b] k2 pt2) X.env = pure (some [x, y]))
    (hs : swapsWithSole [.Tuple [.Name x px, .Name y py] kt pt] (.Tuple [a, b] k2 pt2) pos.line X.env = pure false := by rfl) :
    PS X (.Assign [.Tuple [.Name x px, .Name y py] kt pt] (.Tuple [a, b] k2 pt2) pos) (TSt W (sPar i j ma)) := (ps_par hc hN hi hj hij hx hy ha hw hs).imp fun D σ H ⟨ι, st, env, o, st', r, n, e, k⟩ => by
  unfold sPar at e
  split at e
  · rename_i u v s1 q
    cases e
    refine TA.of r n q fun vs ι1 H1 g1 r1 p1 => ?_
    obtain ⟨v1, u1, rfl, h1, h2⟩ := p1.uncons
    obtain ⟨v2, u2, rfl, h3, h4⟩ := h2.uncons
    have e3 := h4.nil_of
    subst e3
    exact ⟨v1, v2, rfl, k _ _ _ g1 r1 (((n.grow g1).set i h1).set j h3)⟩
  · cases e
theorem js_par3 {i j l : Nat} {x y z : Str} {a b c : Expr} {ma : AM} {px py pz pt pos : Pos} {kt k2 pt2} (hc : X.calm = true) (hN : X.N.Nodup) (hi : X.N[i]? = some x) (hj : X.N[j]? = some y) (hl : X.N[l]? = some z) (hij : i ≠ j) (hil : i ≠ l) (hjl : j ≠ l)
    (hx : X.env.scope.names.lookup x = some .local) (hy : X.env.scope.names.lookup y = some .local) (hz : X.env.scope.names.lookup z = some .local) (ha : PA X [a, b, c] (TAs W ma))
    (hw : swappedStores [.Tuple [.Name x px, .Name y py, .Name z pz] kt pt] (.Tuple [a, b, c] k2 pt2) X.env = pure (some [x, y, z]))
    (hs : swapsWithSole [.Tuple [.Name x px, .Name y py, .Name z pz] kt pt] (.Tuple [a, b, c] k2 pt2) pos.line X.env = pure false := by rfl) :
    PS X (.Assign [.Tuple [.Name x px, .Name y py, .Name z pz] kt pt] (.Tuple [a, b, c] k2 pt2) pos) (TSt W (sPar3 i j l ma)) := (ps_par3 hc hN hi hj hl hij hil hjl hx hy hz ha hw hs).imp fun D σ H ⟨ι, st, env, o, st', r, n, e, k⟩ => by
  unfold sPar3 at e
  split at e
  · rename_i u v w s1 q
    cases e
    refine TA.of r n q fun vs ι1 H1 g1 r1 p1 => ?_
    obtain ⟨v1, u1, rfl, h1, h2⟩ := p1.uncons
    obtain ⟨v2, u2, rfl, h3, h4⟩ := h2.uncons
    obtain ⟨v3, u3, rfl, h5, h6⟩ := h4.uncons
    have e3 := h6.nil_of
    subst e3
    exact ⟨v1, v2, v3, rfl, k _ _ _ g1 r1 ((((n.grow g1).set i h1).set j h3).set l h5)⟩
  · cases e
theorem js_ret (he : PE X e (T W m)) : PS X (.Return (some e) pos) (TSt W (sRet m)) := (ps_ret he).imp fun D σ H ⟨ι, st, env, o, st', r, n, e, k⟩ => by
  unfold sRet at e
  split at e
  · rename_i d s1 q
    cases e
    exact T.of r n q k
  · cases e
theorem js_retN : PS X (.Return none pos) (TSt W (sRet (eC .non))) := ps_retN.imp fun D σ H ⟨ι, st, env, o, st', r, n, e, k⟩ => by
  cases e
  exact OkE.now (d := .non) k r (by simp only [Rep])
theorem js_expr (he : PE X e (T W m)) (hs : swapsWith e none pos.line X.env = pure false := by rfl) : PS X (.Expr e pos) (TSt W (sDrop m)) := (ps_expr he hs).imp fun D σ H ⟨ι, st, env, o, st', r, n, e, k⟩ => by
  unfold sDrop at e
  split at e
  · rename_i d s1 q
    cases e
    exact T.of r n q fun v ι1 H1 g1 r1 p1 => k _ _ _ g1 r1 (n.grow g1)
  · cases e
theorem js_if {c : Expr} {ss1 ss2 : List Stmt} {tc : TM} (hc : PT X c (TB W tc)) (ha : PSs X ss1 (TSt W a)) (hb : PSs X ss2 (TSt W b)) : PS X (.If c ss1 ss2 pos) (TSt W (sIf tc a b)) := (ps_if hc ha hb).imp fun D σ H ⟨ι, st, env, o, st', r, n, e, k⟩ => by
  unfold sIf at e
  split at e
  · rename_i s1 q
    exact TB.of r n q fun ι1 H1 g1 r1 => (if_pos rfl).mpr (TSt.of r1 (n.grow g1) e (OkS.go k g1))
  · rename_i s1 q
    exact TB.of r n q fun ι1 H1 g1 r1 => (if_neg Bool.false_ne_true).mpr (TSt.of r1 (n.grow g1) e (OkS.go k g1))
  · cases e
theorem js_aug {i : Nat} {x : Str} {e : Expr} {op : Operator} {f : D → D → Store → Option D} {pos' : Pos} (hN : X.N.Nodup) (hi : X.N[i]? = some x) (hx : Loc X.env.scope x) (he : PE X e (T W m)) (ho : PIp X op (M2 W f)) (hf : X.fn x = true ∨ X.env.scope.names.lookup x = some .local := by first | exact .inl rfl | exact .inr rfl | assumption) :
    PS X (.AugAssign (.Name x pos') op e pos) (TSt W (sAug i f m)) := (ps_aug hN hi hx he ho hf).imp fun D σ H ⟨ι, st, env, o, st', r, n, e, k⟩ => by
  unfold sAug at e
  split at e
  · rename_i x q0
    split at e
    · rename_i y s1 q
      split at e
      · rename_i z q1
        cases e
        obtain ⟨v, h1, h2⟩ := n.get i x q0
        exact ⟨v, h1, T.of r n q fun u ι1 H1 g1 r1 p1 => ⟨ι1, _, x, y, z, r1, Rep.grow g1 _ _ h2, p1, q1, fun w ι2 H2 g2 r2 p2 => k _ _ _ (g1.trans g2) r2 ((n.grow (g1.trans g2)).set i p2)⟩⟩
      · cases e
    · cases e
  · cases e
theorem js_sub {o i value : Expr} {mo mi mv : EM} {f : D → D → D → Store → Option Store} {pos' : Pos} (hv : PE X value (T W mv)) (ho : PE X o (T W mo)) (hi : PE X i (T W mi)) (hs : PSet X (M3 W f))
    (ha : ∀ v, assign (.Subscript o i pos') X.env v = (do
      let ov ← holding [v] (eval o X.env)
      let iv ← holding [v, ov] (eval i X.env)
      standAt pos'
      holding [v, ov, iv] (setItem ov iv v)
      release [v, ov, iv] []) := by intro _; rfl)
    (h1 : swapsWithSole [.Subscript o i pos'] value pos.line X.env = pure false := by rfl) (hw : swappedStores [.Subscript o i pos'] value X.env = pure none := by rfl)
    (h2 : (assignEach [.Subscript o i pos'] X.env).map (·.2) = [assign (.Subscript o i pos') X.env] := by rfl) : PS X (.Assign [.Subscript o i pos'] value pos) (TSt W (sSub f mo mi mv)) :=
  (ps_asg hv (pg_sub ho hi hs ha) h1 hw h2).imp fun D σ H ⟨ι, st, env, o, st', r, n, e, k⟩ => by
  unfold sSub at e
  split at e
  · rename_i v s1 q1
    split at e
    · rename_i o s2 q2
      split at e
      · rename_i i s3 q3
        split at e
        · rename_i s4 q4
          cases e
          exact T.of r n q1 fun x1 ι1 H1 g1 r1 p1 => T.of r1 (n.grow g1) q2 fun x2 ι2 H2 g2 r2 p2 => T.of r2 ((n.grow g1).grow g2) q3 fun x3 ι3 H3 g3 r3 p3 =>
            ⟨ι3, s3, o, i, v, _, r3, Rep.grow g3 _ _ p2, p3, Rep.grow g3 _ _ (Rep.grow g2 _ _ p1), q4, fun ι4 H4 g4 r4 => k _ _ _ (((g1.trans g2).trans g3).trans g4) r4 ((((n.grow g1).grow g2).grow g3).grow g4)⟩
        · cases e
      · cases e
    · cases e
  · cases e

/-! ### loops -/
theorem js_for {tg iter : Expr} {body : List Stmt} {im : IM} {g : GM} {bm : SM} {vs : List Nat} (hp : PassesOwn (model X.prog X.w) X.A X.env X.xe) (hc : X.calm = true) (hi : PI X tg iter (TIm W im)) (hg : PG X tg (TGm W g vs)) (hb : PSs X body (TSt W bm)) (hs : ∀ x, foldedSetIterable iter X.env x = pure x := by intro _; rfl) : PS X (.For tg iter body [] pos) (TSt W (sFor im g bm)) :=
  (ps_for hp hc hi hg hb hs).imp fun D σ H ⟨ι, st, env, o, st', r, n, e, k⟩ => by
  unfold sFor at e
  split at e
  · rename_i ds gd s1 q
    refine ⟨ι, st, env, ds, gd, s1, r, n, q, fun J ι1 H1 g1 r1 ok => ?_⟩
    have k1 := OkS.go k g1
    refine ⟨fun i m σ H => i + m = ds.length ∧ ∃ ι2 s env2, Grow ι1 H1 ι2 H ∧ RelH W ι2 H s ∧ REnv W ι2 H env2 σ ∧ forGo gd g bm (ds.drop i) env2 s = some (o, st'), ⟨ds.length, by omega, ι1, s1, env, Grow.refl, r1, n.grow g1, e⟩, ?_⟩
    rintro i m σ2 H2 ⟨hm, ι2, s, env2, g2, r2, n2, hgo⟩
    by_cases hi : i < ds.length
    · right
      have hd : ds.drop i = ds[i] :: ds.drop (i + 1) := List.drop_eq_getElem_cons hi
      rw [hd] at hgo
      unfold forGo at hgo
      split at hgo
      · rename_i hgd
        obtain ⟨j1, j2⟩ := ok.go i _ H2 s _ g2.gro r2 hgd (List.getElem?_eq_getElem hi)
        refine ⟨j1, fun σ H => ∃ ι2 s env2, Grow ι1 H1 ι2 H ∧ RelH W ι2 H s ∧ REnv W ι2 H env2 σ ∧ forGo gd g bm (ds.drop (i + 1)) env2 s = some (o, st'), fun σ' H' nx => ⟨m - 1, by omega, by omega, nx⟩, fun x H3 hy => ?_⟩
        obtain ⟨g3, r3, p3⟩ := j2 x H3 hy
        split at hgo
        · rename_i e1 q1
          refine ⟨_, s, _, _, e1, r3, n2.grow g3, p3, q1, fun σ4 n4 _ => ?_⟩
          split at hgo
          · rename_i e2 s2 q2
            exact TSt.of r3 n4 q2 fun σ5 ι5 H5 g5 r5 n5 => ⟨ι5, s2, e2, (g2.trans g3).trans g5, r5, n5, hgo⟩
          · rename_i e2 s2 q2
            exact TSt.of r3 n4 q2 fun σ5 ι5 H5 g5 r5 n5 => ⟨ι5, s2, e2, (g2.trans g3).trans g5, r5, n5, hgo⟩
          · rename_i e2 s2 q2
            cases hgo
            exact TSt.of r3 n4 q2 fun σ5 ι5 H5 g5 r5 n5 => k1 _ _ _ ((g2.trans g3).trans g5) r5 n5
          · rename_i d s2 q2
            cases hgo
            exact TSt.of r3 n4 q2 fun v ι5 H5 g5 r5 n5 => k1 _ _ _ ((g2.trans g3).trans g5) r5 n5
          · cases hgo
        · cases hgo
      · cases hgo
    · left
      have hie : i = ds.length := by omega
      subst hie
      rw [List.drop_length] at hgo
      unfold forGo at hgo
      split at hgo
      · rename_i hgd
        cases hgo
        exact ⟨ok.stop _ H2 _ g2.gro r2 hgd, k1 _ _ _ g2 r2 n2⟩
      · cases hgo
  · cases e
theorem js_while {fuel : Nat} {c : Expr} {body : List Stmt} {tc : TM} {bm : SM} (hp : PassesOwn (model X.prog X.w) X.A X.env X.xe) (hc : PT X c (TB W tc)) (hb : PSs X body (TSt W bm)) : PS X (.While c body [] pos) (TSt W (sWhile fuel tc bm)) :=
  (ps_while hp hc hb).imp fun D σ H ⟨ι, st, env, o, st', r, n, e, k⟩ => by
  unfold sWhile at e
  refine ⟨fun m σ H2 => ∃ ι2 s env2, Grow ι H ι2 H2 ∧ RelH W ι2 H2 s ∧ REnv W ι2 H2 env2 σ ∧ whileGo tc bm m env2 s = some (o, st'), ⟨fuel, ι, st, env, Grow.refl, r, n, e⟩, ?_⟩
  rintro m σ2 H2 ⟨ι2, s, env2, g2, r2, n2, hgo⟩
  cases m with
  | zero => cases hgo
  | succ m =>
    unfold whileGo at hgo
    split at hgo
    · rename_i s1 q1
      refine TB.of r2 n2 q1 fun ι3 H3 g3 r3 => ?_
      rw [if_pos rfl]
      refine ⟨fun σ H4 => ∃ ι2 s env2, Grow ι H ι2 H4 ∧ RelH W ι2 H4 s ∧ REnv W ι2 H4 env2 σ ∧ whileGo tc bm m env2 s = some (o, st'), fun σ' H' nx => ⟨m, Nat.lt_succ_self m, nx⟩, ?_⟩
      have n3 := n2.grow g3
      split at hgo
      · rename_i e2 s2 q2
        exact TSt.of r3 n3 q2 fun σ5 ι5 H5 g5 r5 n5 => ⟨ι5, s2, e2, (g2.trans g3).trans g5, r5, n5, hgo⟩
      · rename_i e2 s2 q2
        exact TSt.of r3 n3 q2 fun σ5 ι5 H5 g5 r5 n5 => ⟨ι5, s2, e2, (g2.trans g3).trans g5, r5, n5, hgo⟩
      · rename_i e2 s2 q2
        cases hgo
        exact TSt.of r3 n3 q2 fun σ5 ι5 H5 g5 r5 n5 => k _ _ _ ((g2.trans g3).trans g5) r5 n5
      · rename_i d s2 q2
        cases hgo
        exact TSt.of r3 n3 q2 fun v ι5 H5 g5 r5 n5 => k _ _ _ ((g2.trans g3).trans g5) r5 n5
      · cases hgo
    · rename_i s1 q1
      cases hgo
      refine TB.of r2 n2 q1 fun ι3 H3 g3 r3 => ?_
      rw [if_neg Bool.false_ne_true]
      exact k _ _ _ (g2.trans g3) r3 (n2.grow g3)
    · cases hgo
end

/-! ### defs -/
mutual
def D.blw (n : Nat) : D → Bool
  | .tup ds => D.blws n ds
  | .tpf ds => D.blws n ds
  | .lst ds => D.blws n ds
  | .dk _ ds => D.blws n ds
  | .dt _ ds => D.blws n ds
  | .ins _ _ ds => D.blws n ds
  | .ref i => decide (i < n)
  | _ => true
def D.blws (n : Nat) : List D → Bool
  | [] => true
  | d :: ds => D.blw n d && D.blws n ds
end
section
variable {W : Wd} {ι : Lay} {H : Hp} {st : Store}
mutual
theorem fz_blw {lk : Nat → Option D} {n : Nat} (h : ∀ i, i < n → lk i = some (.ref i)) : ∀ d : D, d.blw n = true → fz lk d = some d
  | .non, _ => by simp only [fz]
  | .bl _, _ => by simp only [fz]
  | .int _, _ => by simp only [fz]
  | .str _, _ => by simp only [fz]
  | .ty _, _ => by simp only [fz]
  | .cls _, _ => by simp only [fz]
  | .scr _, _ => by simp only [fz]
  | .set _, _ => by simp only [fz]
  | .ref i, e => by simp only [D.blw, decide_eq_true_eq] at e; simp only [fz]; exact h i e
  | .tup ds, e => by simp only [D.blw] at e; simp only [fz, fzs_blw h ds e, Option.map_some]
  | .tpf ds, e => by simp only [D.blw] at e; simp only [fz, fzs_blw h ds e, Option.map_some]
  | .lst ds, e => by simp only [D.blw] at e; simp only [fz, fzs_blw h ds e, Option.map_some]
  | .dk _ ds, e => by simp only [D.blw] at e; simp only [fz, fzs_blw h ds e, Option.map_some]
  | .dt _ ds, e => by simp only [D.blw] at e; simp only [fz, fzs_blw h ds e, Option.map_some]
  | .ins _ _ ds, e => by simp only [D.blw] at e; simp only [fz, fzs_blw h ds e, Option.map_some]
theorem fzs_blw {lk : Nat → Option D} {n : Nat} (h : ∀ i, i < n → lk i = some (.ref i)) : ∀ ds : List D, D.blws n ds = true → fzs lk ds = some ds
  | [], _ => by simp only [fzs]
  | d :: ds, e => by
    simp only [D.blws, Bool.and_eq_true] at e
    simp only [fzs, fz_blw h d e.1, fzs_blw h ds e.2, Option.map_some]
end
theorem lkc_lt {n k i : Nat} (h : i < n) : lkc st n k i = some (.ref i) := by
  cases k with
  | zero => simp only [lkc, if_pos h]
  | succ k => simp only [lkc, if_pos h]
mutual
theorem blw_of : ∀ (d : D) (v : V), Rep W ι H d v → d.blw ι.c.length = true
  | .non, _, _ => by simp only [D.blw]
  | .bl _, _, _ => by simp only [D.blw]
  | .int _, _, _ => by simp only [D.blw]
  | .str _, _, _ => by simp only [D.blw]
  | .ty _, _, _ => by simp only [D.blw]
  | .cls _, _, _ => by simp only [D.blw]
  | .scr _, _, _ => by simp only [D.blw]
  | .set _, _, _ => by simp only [D.blw]
  | .ref i, _, h => by
    simp only [Rep] at h
    obtain ⟨a, _, h⟩ := h
    simp only [D.blw, decide_eq_true_eq]
    exact (List.getElem?_eq_some_iff.mp h).1
  | .tup ds, _, h => by simp only [Rep] at h; obtain ⟨a, _, vs, _, h⟩ := h; simp only [D.blw]; exact blws_of ds vs h
  | .tpf ds, _, h => by simp only [Rep] at h; obtain ⟨a, _, o, vs, _, _, h⟩ := h; simp only [D.blw]; exact blws_of ds vs h
  | .lst ds, _, h => by simp only [Rep] at h; obtain ⟨a, _, _, vs, _, h⟩ := h; simp only [D.blw]; exact blws_of ds vs h
  | .dk _ ds, _, h => by simp only [Rep] at h; obtain ⟨a, _, _, vs, _, _, h⟩ := h; simp only [D.blw]; exact blws_of ds vs h
  | .dt _ ds, _, h => by simp only [Rep] at h; obtain ⟨a, _, _, vs, _, _, h⟩ := h; simp only [D.blw]; exact blws_of ds vs h
  | .ins _ _ ds, _, h => by simp only [Rep] at h; obtain ⟨a, _, _, _, vs, _, _, h⟩ := h; simp only [D.blw]; exact blws_of ds vs h
theorem blws_of : ∀ (ds : List D) (vs : List V), Reps W ι H ds vs → D.blws ι.c.length ds = true
  | [], _, _ => by simp only [D.blws]
  | d :: ds, _, h => by
    obtain ⟨v, r, rfl, h1, h2⟩ := h.uncons
    simp only [D.blws, Bool.and_eq_true]
    exact ⟨blw_of d v h1, blws_of ds r h2⟩
end
/-- a cell's content with refs below n -/
def cellBlw (n : Nat) : D → Bool := D.blw n
theorem cell_blw {a : Addr} {c : D} (h : CellOk W ι H a c) : c.blw ι.c.length = true := by
  cases c with
  | lst ds => obtain ⟨vs, _, h⟩ := h; simp only [D.blw]; exact blws_of ds vs h
  | dk ks ds => obtain ⟨vs, _, _, h⟩ := h; simp only [D.blw]; exact blws_of ds vs h
  | dt ks ds => obtain ⟨vs, _, _, h⟩ := h; simp only [D.blw]; exact blws_of ds vs h
  | set ns => simp only [D.blw]
  | ins n fs ds => obtain ⟨dx, vs, _, _, h⟩ := h; simp only [D.blw]; exact blws_of ds vs h
  | _ => exact h.elim
theorem reps_cut (r : RelH W ι H st) (n : Nat) {ds : List D} {vs : List V} (h : Reps W ι H ds vs) (b : D.blws n ds = true) : Reps W (ι.cut n) H ds vs :=
  fzs_ok (fun a (m : (ι.cut n).has a) => (show ι.has a from Or.imp (List.mem_of_mem_take (i := n)) id m)) (fun i a d' => lkc_ok r n 0 i a d') ds ds vs (fzs_blw (fun i hi => lkc_lt hi) ds b) h
theorem cell_cut (r : RelH W ι H st) (n : Nat) {a : Addr} {c : D} (h : CellOk W ι H a c) (b : c.blw n = true) : CellOk W (ι.cut n) H a c := by
  cases c with
  | lst ds => obtain ⟨vs, e, h⟩ := h; simp only [D.blw] at b; exact ⟨vs, e, reps_cut r n h b⟩
  | dk ks ds => obtain ⟨vs, e, l, h⟩ := h; simp only [D.blw] at b; exact ⟨vs, e, l, reps_cut r n h b⟩
  | dt ks ds => obtain ⟨vs, e, l, h⟩ := h; simp only [D.blw] at b; exact ⟨vs, e, l, reps_cut r n h b⟩
  | set ns => exact h
  | ins n fs ds => obtain ⟨dx, vs, e, l, h⟩ := h; simp only [D.blw] at b; exact ⟨dx, vs, e, l, reps_cut r _ h b⟩
  | _ => exact h.elim
end
/-- the caller's cells: as they were, or without a number of the callee's -/
def closeOk (st st1 : Store) : Prop := ∀ i, i < st.length → ∃ c, st1[i]? = some c ∧ (st[i]? = some c ∨ c.blw st.length = true)
open Classical in
/-- the callee's own cells are dropped: what it hands back is told as a tree -/
noncomputable def fin (st : Store) (r : D) (s1 : Store) : Option (D × Store) := match fz (lkc s1 st.length 3) r with
  | some r' => if closeOk st s1 then some (r', s1.take st.length) else none
  | none => none
def enter (N : Nat) (ds : List D) : Env := ds.map some ++ List.replicate (N - ds.length) none
noncomputable def mkF (N : Nat) (body : SM) : FM := fun ds st => match body (enter N ds) st with
  | some (.rt r, s1) => fin st r s1
  | some (.nx _, s1) => fin st .non s1
  | _ => none
/-- the callee's own cells stay -/
def mkK (N : Nat) (body : SM) : FM := fun ds st => match body (enter N ds) st with
  | some (.rt r, s1) => some (r, s1)
  | some (.nx _, s1) => some (.non, s1)
  | _ => none
def spM (W : Wd) (n : Nat) (F : FM) : Sp := fun vs H Q _ => ∃ ι st ds d st', RelH W ι H st ∧ Reps W ι H ds vs ∧ ds.length = n ∧ F ds st = some (d, st') ∧ OkE W ι H d st' Q
section
variable {W : Wd} {ι ι1 : Lay} {H H1 : Hp} {st s1 : Store}
theorem close_ok (r : RelH W ι H st) (g : Grow ι H ι1 H1) (r1 : RelH W ι1 H1 s1) (c : closeOk st s1) : ι1.cut st.length = ι ∧ Grow ι H ι H1 ∧ RelH W ι H1 (s1.take st.length) := by
  have ec : ι1.c.take st.length = ι.c := by
    apply List.ext_getElem?
    intro i
    by_cases hi : i < st.length
    · rw [take_get _ hi]
      have hl : i < ι.c.length := by rw [r.len]; exact hi
      rw [List.getElem?_eq_getElem hl]
      exact g.pre i _ (List.getElem?_eq_getElem hl)
    · rw [List.getElem?_eq_none (by rw [List.length_take]; omega), List.getElem?_eq_none (by rw [r.len]; omega)]
  have e : ι1.cut st.length = ι := by
    cases ι
    simp only [Lay.cut]
    rw [ec, g.hid]
  refine ⟨e, ⟨fun _ _ h => h, g.keep, fun _ m => .inl m, rfl⟩, ?_, r.nd, r.dis, fun a m => r1.hidd a (by rw [g.hid]; exact m), fun i d h => ?_⟩
  · rw [List.length_take, r.len]
    have := r1.len
    have h2 : ι.c.length ≤ ι1.c.length := by rw [← ec, List.length_take]; omega
    rw [r.len] at h2
    omega
  · rw [List.getElem?_take] at h
    split at h
    · rename_i hi
      obtain ⟨c2, h2, h3⟩ := c i hi
      rw [h] at h2
      cases h2
      obtain ⟨a, h4, h5⟩ := r1.cell i d h
      have hb : d.blw st.length = true := by
        rcases h3 with h3 | h3
        · obtain ⟨b, _, h6⟩ := r.cell i d h3
          rw [← r.len]
          exact cell_blw h6
        · exact h3
      have h7 := cell_cut r1 st.length h5 hb
      rw [e] at h7
      refine ⟨a, ?_, h7⟩
      rw [← ec, take_get _ hi]
      exact h4
    · cases h
theorem fin_ok {d r0 : D} {st' : Store} {v : V} {Q : VK} (r : RelH W ι H st) (k : OkE W ι H d st' Q) (e : fin st r0 s1 = some (d, st')) (g : Grow ι H ι1 H1) (r1 : RelH W ι1 H1 s1) (p : Rep W ι1 H1 r0 v) : Q v H1 := by
  unfold fin at e
  split at e
  · rename_i r' q
    split at e
    · rename_i c
      cases e
      obtain ⟨e1, g2, r2⟩ := close_ok r g r1 c
      have p2 := fzn_ok r1 st.length 3 q p
      rw [e1] at p2
      exact k v ι H1 g2 r2 p2
    · cases e
  · cases e
theorem REnv.enter {N : List Str} {ds : List D} {vs : List V} (h : Reps W ι H ds vs) : REnv W ι H (enter N.length ds) (L2.start N vs) := by
  unfold My.enter L2.start
  refine ⟨by simp [h.length], fun i d e => ?_⟩
  by_cases hi : i < ds.length
  · rw [List.getElem?_append_left (by simpa using hi), List.getElem?_map, Option.map_eq_some_iff] at e
    obtain ⟨d', e1, e2⟩ := e
    cases e2
    obtain ⟨v, h1, h2⟩ := h.get e1
    exact ⟨v, by rw [List.getElem?_append_left (by rw [List.length_map, ← h.length]; exact hi), List.getElem?_map, h1]; rfl, h2⟩
  · rw [List.getElem?_append_right (by simpa using hi), List.getElem?_replicate] at e
    split at e <;> cases e
theorem mkF_ok {N : List Str} {n : Nat} {body : SM} {vs : List V} {Q : VK} {E : XK} (h : spM W n (mkF N.length body) vs H Q E) : TSt W body { nx := fun _ H' => Q .non H', rt := Q } (L2.start N vs) H := by
  obtain ⟨ι, st, ds, d, st', r, n, hl, e, k⟩ := h
  unfold mkF at e
  split at e
  · rename_i r0 s1 q
    exact TSt.of r (REnv.enter n) q fun v ι1 H1 g1 r1 p1 => fin_ok r k e g1 r1 p1
  · rename_i e1 s1 q
    exact TSt.of r (REnv.enter n) q fun v ι1 H1 g1 r1 _ => fin_ok r k e g1 r1 (by simp only [Rep])
  · cases e
theorem mkK_ok {N : List Str} {n : Nat} {body : SM} {vs : List V} {Q : VK} {E : XK} (h : spM W n (mkK N.length body) vs H Q E) : TSt W body { nx := fun _ H' => Q .non H', rt := Q } (L2.start N vs) H := by
  obtain ⟨ι, st, ds, d, st', r, n, hl, e, k⟩ := h
  unfold mkK at e
  split at e
  · rename_i r0 s1 q
    cases e
    exact TSt.of r (REnv.enter n) q k
  · rename_i e1 s1 q
    cases e
    exact TSt.of r (REnv.enter n) q fun v ι1 H1 g1 r1 _ => k _ _ _ g1 r1 (by simp only [Rep])
  · cases e
theorem spM_len {n : Nat} {F : FM} {vs : List V} {Q : VK} {E : XK} (h : spM W n F vs H Q E) : vs.length = n := by
  obtain ⟨ι, st, ds, d, st', r, q, hl, e, k⟩ := h
  rw [← q.length]; exact hl
end
section
variable {P : Program} {w : World} {K : PySem.W.Frag} {mg : Str → Option Value} {base : Heap} {W : Wd}
/-- a def by its mirror -/
theorem jd {nm qual : Str} {st : Stmt} {f : Addr} {fd : FuncData} {N ps : List Str} {k : Nat} {body : SM} (F : Fun K nm qual st f fd) (S : FnScope N ps (defScope st))
    (h : ∀ (cdv : Value) (A : Around) (out : List PySem.Env) (s : Shared) (H : Hp) (E : XK), Room k (A.deeper (envOfC qual (defScope st) s.heap.objs.size f cdv)) → PSs (cxOf CX0 P w K mg base N qual (defScope st) f cdv A out s H E).nox (defBody st) (TSt W body)) :
    FnOk P w K mg base CX0 (k + 1) f fd ps (spM W ps.length (mkF N.length body)) :=
  F.ok S (fun vs H Q E h => spM_len h) fun cdv A out s H vs Q E hr q => ⟨_, h cdv A out s H E hr, mkF_ok q⟩
theorem jdK {nm qual : Str} {st : Stmt} {f : Addr} {fd : FuncData} {N ps : List Str} {k : Nat} {body : SM} (F : Fun K nm qual st f fd) (S : FnScope N ps (defScope st))
    (h : ∀ (cdv : Value) (A : Around) (out : List PySem.Env) (s : Shared) (H : Hp) (E : XK), Room k (A.deeper (envOfC qual (defScope st) s.heap.objs.size f cdv)) → PSs (cxOf CX0 P w K mg base N qual (defScope st) f cdv A out s H E).nox (defBody st) (TSt W body)) :
    FnOk P w K mg base CX0 (k + 1) f fd ps (spM W ps.length (mkK N.length body)) :=
  F.ok S (fun vs H Q E h => spM_len h) fun cdv A out s H vs Q E hr q => ⟨_, h cdv A out s H E hr, mkK_ok q⟩
theorem jdG {nm qual : Str} {st : Stmt} {f : Addr} {fd : FuncData} {N ps : List Str} {k : Nat} {body : SM} (F : Fun K nm qual st f fd) (S : FnScope N ps (defScope st))
    (h : ∀ (cdv : Value) (A : Around) (out : List PySem.Env) (s : Shared) (H : Hp), (A.deeper (envOfC qual (defScope st) s.heap.objs.size f cdv)).guards = some [] → Room k (A.deeper (envOfC qual (defScope st) s.heap.objs.size f cdv)) → PSs (cxOf CX0 P w K mg base N qual (defScope st) f cdv A out s H E0).nox (defBody st) (TSt W body)) :
    FnG P w K mg base (k + 1) f fd ps (spM W ps.length (mkF N.length body)) :=
  g_ok F S (fun vs H Q h => spM_len h) fun cdv A out s H vs Q hg hr q => ⟨_, h cdv A out s H hg hr, mkF_ok q⟩
end
section
variable {X : Cx} {W : Wd} {k n : Nat} {f : Addr} {fd : FuncData} {ps ks : List Str} {x : Str} {p pos : Pos} {e : Expr} {es : List Expr} {F : FM} {am : AM} {dvs : List V} {ds : List Value} {dds : List D} {E : XK}
open Classical in
noncomputable def eCallD (n : Nat) (F : FM) (dds : List D) (a : AM) : EM := fun env st => match a env st with
  | some (xs, s1) => if (xs ++ dds).length = n then F (xs ++ dds) s1 else none
  | none => none
theorem tCall_of (hdv : ∀ ι H, Reps W ι H dds dvs) {σ : L2.St} {H : Hp} {Q : VK} (h : T W (eCallD n F dds am) σ H Q) : tCall (spM W n F) dvs E (TAs W am) σ H Q := by
  obtain ⟨ι, st, env, d, st', r, q, e, k⟩ := h
  unfold eCallD at e
  split at e
  · rename_i xs s1 e1
    split at e
    · rename_i hl
      exact TA.of r q e1 fun vs ι1 H1 g1 r1 p1 => ⟨ι1, s1, xs ++ dds, d, st', r1, p1.append (hdv _ _), hl, e, k.go g1⟩
    · cases e
  · cases e
theorem j_call (F0 : FnOk X.prog X.w X.K X.mg X.base CX0 k f fd ps (spM W n F)) (hr : Room k X.A) (hg : Gl X x) (hm : X.mg x = some (.ref f)) (hk : PySem.W.keepIn X.K (.ref f) = true) (hb : Binds X.K fd ps ds) (hd : Vals dvs ds) (hdv : ∀ ι H, Reps W ι H dds dvs) (hx : Passes CX0 X E)
    (ha : PA X (e :: es) (TAs W am)) (hdb : (x == ("__debug__" : Str)) = false := by decide) (he : starEach (e :: es) X.env = (false, eval e X.env) :: starEach es X.env := by rfl) (hpl : (backTo pos (starEach es X.env)).any (·.1) = false := by rfl) :
    PE X (.Call (.Name x p) (e :: es) [] pos) (T W (eCallD n F dds am)) := (pe_call F0 hr hg hm hk hb hd hx ha hdb he hpl).imp fun _ _ _ => tCall_of hdv
theorem j_callG (hgd : X.A.guards = some []) (F0 : FnG X.prog X.w X.K X.mg X.base k f fd ps (spM W n F)) (hr : Room k X.A) (hg : Gl X x) (hm : X.mg x = some (.ref f)) (hk : PySem.W.keepIn X.K (.ref f) = true) (hb : Binds X.K fd ps [])
    (ha : PA X (e :: es) (TAs W am)) (he : starEach (e :: es) X.env = (false, eval e X.env) :: starEach es X.env := by rfl) (hpl : (backTo pos (starEach es X.env)).any (·.1) = false := by rfl)
    (hdb : (x == ("__debug__" : Str)) = false := by decide) : PE X (.Call (.Name x p) (e :: es) [] pos) (T W (eCallD n F [] am)) := (pe_callG hgd F0 hr hg hm hk hb ha he hpl hdb).imp fun _ _ _ => tCall_of fun _ _ => Reps.nil
open Classical in
noncomputable def eCallN (n j m : Nat) (F : FM) (g : List D → List D → List D) (a b : AM) : EM := fun env st => match a env st with
  | some (xs, s1) => match b env s1 with
    | some (zs, s2) => if xs.length = j ∧ zs.length = m ∧ (g xs zs).length = n then F (g xs zs) s2 else none
    | none => none
  | none => none
theorem j_callN {j : Nat} {kws : List Keyword} {km : AM} {g : List Value → List Value → List Value} {gV : List V → List V → List V} {gD : List D → List D → List D} {m : Nat} (F0 : FnOk X.prog X.w X.K X.mg X.base CX0 k f fd ps (spM W n F)) (hr : Room k X.A) (hg : Gl X x) (hm : X.mg x = some (.ref f)) (hk : PySem.W.keepIn X.K (.ref f) = true) (hb : KBn X.K fd ps j ks g gV)
    (hgD : ∀ ι H (xs zs : List D) (vs us : List V), Reps W ι H xs vs → Reps W ι H zs us → Reps W ι H (gD xs zs) (gV vs us)) (hx : Passes CX0 X E)
    (ha : PA X (e :: es) (TAs W am)) (hkw : PK X kws (TAs W km)) (hall : (backToKw pos (keywordEach kws X.env)).all (·.1.isSome) = true := by rfl) (hks : (backToKw pos (keywordEach kws X.env)).filterMap (·.1) = ks := by rfl)
    (hdb : (x == ("__debug__" : Str)) = false := by decide) (he : starEach (e :: es) X.env = (false, eval e X.env) :: starEach es X.env := by rfl)
    (hpl : ((backTo pos (starEach (e :: es) X.env)).any (·.1) || (backToKw pos (keywordEach kws X.env)).any (·.1.isNone)) = false := by rfl) (hmk : ks.length = m := by rfl) :
    PE X (.Call (.Name x p) (e :: es) kws pos) (T W (eCallN n j m F gD am km)) := hmk ▸ (pe_callN F0 hr hg hm hk hb hx ha hkw hall hks hdb he hpl).imp fun σ H Q ⟨ι, st, env, d, st', r, q, e, k⟩ => by
  unfold eCallN at e
  split at e
  · rename_i xs s1 e1
    split at e
    · rename_i zs s2 e2
      split at e
      · rename_i hl
        exact TA.of r q e1 fun vs ι1 H1 g1 r1 p1 => TA.of r1 (q.grow g1) e2 fun us ι2 H2 g2 r2 p2 =>
          ⟨by rw [← p1.length]; exact hl.1, by rw [← p2.length]; exact hl.2.1, ι2, s2, gD xs zs, d, st', r2, hgD _ _ _ _ _ _ (Reps.grow g2 _ _ p1) p2, hl.2.2, e, k.go (g1.trans g2)⟩
      · cases e
    · cases e
  · cases e
theorem jk_nil : PK X [] (TAs W aNil) := ⟨fun pos pins s σ H Q I ⟨ι, st, env, d, st', r, n, e, k⟩ => by
  cases e
  exact pk_nil.run pos pins s σ H Q I (k _ _ _ Grow.refl r Reps.nil)⟩
theorem jk_cons {kws : List Keyword} {nm : Option Str} {kpos : Pos} {ma : EM} {mr : AM} (ha : PE X e (T W ma)) (hr : PK X kws (TAs W mr)) : PK X (⟨nm, e, kpos⟩ :: kws) (TAs W (aCons ma mr)) := ⟨fun pos pins s σ H Q I ⟨ι, st, env, d, st', r, n, e, k⟩ => by
  refine (pk_cons ha hr).run pos pins s σ H Q I ?_
  unfold aCons at e
  split at e
  · rename_i x s1 e1
    split at e
    · rename_i xs s2 e2
      cases e
      exact T.of r n e1 fun v ι1 H1 g1 r1 p1 => TA.of r1 (n.grow g1) e2 fun vs ι2 H2 g2 r2 p2 => k _ _ _ (g1.trans g2) r2 (Reps.cons (Rep.grow g2 _ _ p1) p2)
    · cases e
  · cases e⟩
end
end My

namespace My
open PySem PySem.Spec PyProof.Rows L2

/-! ### scalars, keys -/
def sc : D → Option V
  | .non => some .non
  | .bl b => some (.bl b)
  | .int i => some (.int i)
  | .str x => some (.str x)
  | _ => none
def scs : List D → Option (List V)
  | [] => some []
  | d :: ds => match sc d with
    | some v => (scs ds).map (v :: ·)
    | none => none
def intsOf : List D → Option (List Int)
  | [] => some []
  | .int i :: ds => (intsOf ds).map (i :: ·)
  | _ => none
def bolsOf : List D → Option (List Bool)
  | [] => some []
  | .bl i :: ds => (bolsOf ds).map (i :: ·)
  | _ => none
def keyOf : D → Option Key
  | .int i => some (.inl i)
  | .str x => some (.inr x)
  | _ => none
def keysOf : List D → Option (List Key)
  | [] => some []
  | d :: ds => match keyOf d with
    | some k => (keysOf ds).map (k :: ·)
    | none => none
def tkeyOf : D → Option (List Key)
  | .tup ds => keysOf ds
  | _ => none
theorem intsOf_map (ns : List Int) : intsOf (ns.map D.int) = some ns := by
  induction ns with
  | nil => rfl
  | cons n ns ih => simp only [List.map_cons, intsOf, ih, Option.map_some]
theorem bolsOf_map (ns : List Bool) : bolsOf (ns.map D.bl) = some ns := by
  induction ns with
  | nil => rfl
  | cons n ns ih => simp only [List.map_cons, bolsOf, ih, Option.map_some]
theorem intsOf_eq : ∀ {ds : List D} {ns : List Int}, intsOf ds = some ns → ds = ns.map D.int
  | [], _, h => by cases h; rfl
  | d :: ds, ns, h => by
    cases d with
    | int i =>
      simp only [intsOf, Option.map_eq_some_iff] at h
      obtain ⟨ms, h1, rfl⟩ := h
      rw [intsOf_eq h1]; rfl
    | _ => simp [intsOf] at h
theorem bolsOf_eq : ∀ {ds : List D} {ns : List Bool}, bolsOf ds = some ns → ds = ns.map D.bl
  | [], _, h => by cases h; rfl
  | d :: ds, ns, h => by
    cases d with
    | bl i =>
      simp only [bolsOf, Option.map_eq_some_iff] at h
      obtain ⟨ms, h1, rfl⟩ := h
      rw [bolsOf_eq h1]; rfl
    | _ => simp [bolsOf] at h
section
variable {W : Wd} {ι : Lay} {H : Hp} {st : Store} {d : D} {v : V}
theorem sc_ok {u : V} (e : sc d = some u) (h : Rep W ι H d v) : v = u := by
  cases d <;> simp only [sc] at e <;> cases e <;> simpa only [Rep] using h
theorem scs_ok : ∀ {ds : List D} {us vs : List V}, scs ds = some us → Reps W ι H ds vs → vs = us
  | [], _, _, e, h => by cases e; exact h.nil_of
  | d :: ds, _, _, e, h => by
    obtain ⟨v, r, rfl, h1, h2⟩ := h.uncons
    simp only [scs] at e
    split at e
    · rename_i u q
      rw [Option.map_eq_some_iff] at e
      obtain ⟨us, e1, rfl⟩ := e
      rw [sc_ok q h1, scs_ok e1 h2]
    · cases e
theorem flat_sc {u : V} (e : sc d = some u) : flatV u = true := by
  cases d <;> simp only [sc] at e <;> cases e <;> rfl
theorem flat_scs : ∀ {ds : List D} {us : List V}, scs ds = some us → us.all flatV = true
  | [], _, e => by cases e; rfl
  | d :: ds, _, e => by
    simp only [scs] at e
    split at e
    · rename_i u q
      rw [Option.map_eq_some_iff] at e
      obtain ⟨us, e1, rfl⟩ := e
      rw [List.all_cons, flat_sc q, flat_scs e1]; rfl
    · cases e
theorem keyOf_ok {k : Key} (e : keyOf d = some k) (h : Rep W ι H d v) : v = kV k := by
  cases d <;> simp only [keyOf] at e <;> cases e <;> (simp only [Rep] at h; exact h)
theorem keysOf_ok : ∀ {ds : List D} {ks : List Key} {vs : List V}, keysOf ds = some ks → Reps W ι H ds vs → vs = ks.map kV
  | [], _, _, e, h => by cases e; exact h.nil_of
  | d :: ds, _, _, e, h => by
    obtain ⟨v, r, rfl, h1, h2⟩ := h.uncons
    simp only [keysOf] at e
    split at e
    · rename_i u q
      rw [Option.map_eq_some_iff] at e
      obtain ⟨us, e1, rfl⟩ := e
      rw [keyOf_ok q h1, keysOf_ok e1 h2]; rfl
    · cases e
end

/-! ### dicts as two lists -/
section
variable {κ : Type} [DecidableEq κ]
def kGet (ks : List κ) (vs : List D) (k : κ) : Option D := ((ks.zip vs).find? fun kv => decide (kv.1 = k)).map (·.2)
def kRepl (ks : List κ) (vs : List D) (k : κ) (v : D) : List D := (ks.zip vs).map fun kv => if kv.1 = k then v else kv.2
def kHas (ks : List κ) (k : κ) : Bool := ks.any fun j => decide (j = k)
def kPutK (ks : List κ) (k : κ) : List κ := if kHas ks k = true then ks else ks ++ [k]
def kPutV (ks : List κ) (vs : List D) (k : κ) (v : D) : List D := if kHas ks k = true then kRepl ks vs k v else vs ++ [v]
variable {W : Wd} {ι : Lay} {H : Hp}
theorem kGet_ok {k : κ} : ∀ {ks : List κ} {ds : List D} {us : List V}, Reps W ι H ds us → (∀ d, kGet ks ds k = some d → ∃ u, valV (ks.zip us) k = some u ∧ Rep W ι H d u) ∧ (kGet ks ds k = none → valV (ks.zip us) k = none)
  | [], _, _, _ => ⟨fun d e => by simp [kGet] at e, fun _ => rfl⟩
  | j :: ks, [], us, h => by rw [h.nil_of]; exact ⟨fun d e => by simp [kGet] at e, fun _ => rfl⟩
  | j :: ks, d :: ds, us, h => by
    obtain ⟨u, r, rfl, h1, h2⟩ := h.uncons
    obtain ⟨i1, i2⟩ := kGet_ok (k := k) (ks := ks) h2
    by_cases e : j = k
    · constructor
      · intro x hx
        simp only [kGet, List.zip_cons_cons, List.find?_cons, e, decide_true] at hx
        cases hx
        exact ⟨u, by simp [valV, e], h1⟩
      · intro hx
        simp [kGet, e] at hx
    · have e1 : kGet (j :: ks) (d :: ds) k = kGet ks ds k := by simp [kGet, List.find?_cons, e]
      have e2 : valV ((j :: ks).zip (u :: r)) k = valV (ks.zip r) k := by simp [valV, List.find?_cons, e]
      rw [e1, e2]
      exact ⟨i1, i2⟩
theorem kHas_any {k : κ} : ∀ {ks : List κ} {us : List V}, ks.length = us.length → ((ks.zip us).any fun kv => decide (kv.1 = k)) = kHas ks k
  | [], _, _ => rfl
  | j :: ks, u :: us, h => by
    simp only [List.zip_cons_cons, List.any_cons, kHas]
    rw [kHas_any (ks := ks) (us := us) (by simpa using h)]; rfl
  | _ :: _, [], h => by simp at h
theorem kPut_ok {k : κ} {ks : List κ} {ds : List D} {us : List V} {d : D} {u : V} (h : Reps W ι H ds us) (hl : ks.length = ds.length) (hd : Rep W ι H d u) : ∃ us', putK (ks.zip us) k u = (kPutK ks k).zip us' ∧ (kPutK ks k).length = (kPutV ks ds k d).length ∧ Reps W ι H (kPutV ks ds k d) us' := by
  have hlu : ks.length = us.length := hl.trans h.length
  unfold putK kPutK kPutV
  rw [kHas_any hlu]
  by_cases q : kHas ks k = true
  · rw [if_pos q, if_pos q, if_pos q]
    have main : ∀ (ks : List κ) (ds : List D) (us : List V), Reps W ι H ds us → ks.length = ds.length → ∃ us', (ks.zip us).map (fun kv => if kv.1 = k then (kv.1, u) else kv) = ks.zip us' ∧ ks.length = (kRepl ks ds k d).length ∧ Reps W ι H (kRepl ks ds k d) us' := by
      intro ks
      induction ks with
      | nil =>
        intro ds us h hl
        cases ds with
        | nil => exact ⟨[], rfl, rfl, Reps.nil⟩
        | cons _ _ => simp at hl
      | cons j ks ih =>
        intro ds us h hl
        cases ds with
        | nil => simp at hl
        | cons x ds =>
          obtain ⟨v, r, rfl, h1, h2⟩ := h.uncons
          obtain ⟨us', e1, e2, e3⟩ := ih ds r h2 (by simpa using hl)
          by_cases e : j = k
          · refine ⟨u :: us', ?_, ?_, ?_⟩
            · simp only [List.zip_cons_cons, List.map_cons, e1, if_pos e]
            · simp only [kRepl, List.zip_cons_cons, List.map_cons, List.length_cons] at e2 ⊢; omega
            · simp only [kRepl, List.zip_cons_cons, List.map_cons, if_pos e]; exact Reps.cons hd e3
          · refine ⟨v :: us', ?_, ?_, ?_⟩
            · simp only [List.zip_cons_cons, List.map_cons, e1, if_neg e]
            · simp only [kRepl, List.zip_cons_cons, List.map_cons, List.length_cons] at e2 ⊢; omega
            · simp only [kRepl, List.zip_cons_cons, List.map_cons, if_neg e]; exact Reps.cons h1 e3
    exact main ks ds us h hl
  · rw [if_neg q, if_neg q, if_neg q]
    refine ⟨us ++ [u], ?_, by simp [hl], h.append (Reps.cons hd Reps.nil)⟩
    rw [List.zip_append hlu]; rfl
end

/-! ### operators -/
open Classical in
noncomputable def dAdd (a b : D) (st : Store) : Option D := match a, b with
  | .int i, .int j => some (.int (i + j))
  | .str x, .str y => if x.length + y.length ≤ sizeLine then some (.str (x ++ y)) else none
  | _, _ => match seqL st a, seqL st b with
    | some xs, some ys => if xs.length + ys.length ≤ sizeLine then some (.lst (xs ++ ys)) else none
    | _, _ => match seqT a, seqT b with
      | some xs, some ys => if xs.length + ys.length ≤ sizeLine then some (.tup (xs ++ ys)) else none
      | _, _ => none
def dSub (a b : D) (_ : Store) : Option D := match a, b with
  | .int i, .int j => some (.int (i - j))
  | _, _ => none
open Classical in
noncomputable def dMul (a b : D) (st : Store) : Option D := match a, b with
  | .int i, .int j => if CMulW i j then some (.int (i * j)) else none
  | .tup xs, .int k => if xs ≠ [] ∧ -(2 ^ 63) ≤ k ∧ k ≤ 1000 ∧ xs.length ≤ 1000 then some (.tup (List.replicate k.toNat xs).flatten) else none
  | _, .int k => match seqL st a with
    | some xs => if -(2 ^ 63) ≤ k ∧ k < 2 ^ 63 ∧ xs.length * k.toNat ≤ sizeLine then some (.lst (List.replicate k.toNat xs).flatten) else none
    | none => none
  | _, _ => none
open Classical in
noncomputable def dFdiv (a b : D) (_ : Store) : Option D := match a, b with
  | .int i, .int j => if CDivW i j then some (.int (i / j)) else none
  | _, _ => none
open Classical in
noncomputable def dMod (a b : D) (_ : Store) : Option D := match a, b with
  | .int i, .int j => if 0 < j then some (.int (i % j)) else none
  | _, _ => none
open Classical in
noncomputable def dPow (a b : D) (_ : Store) : Option D := match a, b with
  | .int i, .int j => if CPowW i j then some (.int (i ^ j.toNat)) else none
  | _, _ => none
def dNeg (a : D) (_ : Store) : Option D := match a with
  | .int i => some (.int (-i))
  | _ => none
def dLt (a b : D) (_ : Store) : Option D := match a, b with
  | .int i, .int j => some (.bl (decide (i < j)))
  | _, _ => none
def dLe (a b : D) (_ : Store) : Option D := match a, b with
  | .int i, .int j => some (.bl (decide (i ≤ j)))
  | _, _ => none
def dGt (a b : D) (_ : Store) : Option D := match a, b with
  | .int i, .int j => some (.bl (decide (j < i)))
  | _, _ => none
def dGe (a b : D) (_ : Store) : Option D := match a, b with
  | .int i, .int j => some (.bl (decide (j ≤ i)))
  | _, _ => none
/-- == as a Bool -/
def eqB (a b : D) (st : Store) : Option Bool := match a, b with
  | .int i, .int j => some (decide (i = j))
  | .str i, .str j => some (decide (i = j))
  | .bl i, .bl j => some (decide (i = j))
  | .non, .non => some true
  | .int _, .str _ => some false
  | .str _, .int _ => some false
  | .bl _, .str _ => some false
  | .str _, .bl _ => some false
  | .non, .int _ => some false
  | .int _, .non => some false
  | .non, .bl _ => some false
  | .bl _, .non => some false
  | .non, .str _ => some false
  | .str _, .non => some false
  | _, _ => match pyOf st a, pyOf st b with
    | some p, some q => if SeqAt.shaped p = true ∧ SeqAt.shaped q = true then some (PyData.eqv p q) else none
    | _, _ => none
def dEq (a b : D) (st : Store) : Option D := (eqB a b st).map .bl
def dNe (a b : D) (st : Store) : Option D := (eqB a b st).map fun c => .bl (!c)
def dIs (a b : D) (_ : Store) : Option D := match b with
  | .non => match a with
    | .non => some (.bl true)
    | _ => some (.bl false)
  | .bl j => match a with
    | .bl i => some (.bl (decide (i = j)))
    | _ => none
  | _ => none
def dIsNot (a b : D) (st : Store) : Option D := match dIs a b st with
  | some (.bl c) => some (.bl (!c))
  | _ => none
def inB (a b : D) (st : Store) : Option Bool := match seqA st b with
  | some ys => match sc a, scs ys with
    | some x, some us => some (inV x us)
    | _, _ => none
  | none => match dicK st b with
    | some (ks, vs) => match keyOf a with
      | some k => some (kGet ks vs k).isSome
      | none => none
    | none => match dicT st b with
      | some (ks, vs) => match tkeyOf a with
        | some k => some (kGet ks vs k).isSome
        | none => none
      | none => match a, b with
        | .str x, .str y => some (!(Builtin.Str.occurrences y x 0 y.length 1).isEmpty)
        | _, _ => none
def dIn (a b : D) (st : Store) : Option D := (inB a b st).map .bl
def dNotIn (a b : D) (st : Store) : Option D := (inB a b st).map fun c => .bl (!c)
open Classical in
noncomputable def dIx (a b : D) (st : Store) : Option D := match seqA st a with
  | some xs => match b with
    | .int i => atI xs i
    | _ => none
  | none => match dicK st a with
    | some (ks, vs) => match keyOf b with
      | some k => kGet ks vs k
      | none => none
    | none => match dicT st a with
      | some (ks, vs) => match tkeyOf b with
        | some k => kGet ks vs k
        | none => none
      | none => match a, b with
        | .str z, .int i => if z.length ≤ sizeLine then (atI z.cps.toList i).map fun c => .str ⟨#[c]⟩ else none
        | _, _ => none
section
variable {X : Cx} {W : Wd}
theorem rep_int {ι : Lay} {H : Hp} {i : Int} {v : V} (h : Rep W ι H (.int i) v) : v = .int i := by simpa only [Rep] using h
theorem rep_str {ι : Lay} {H : Hp} {i : Str} {v : V} (h : Rep W ι H (.str i) v) : v = .str i := by simpa only [Rep] using h
theorem rep_bl {ι : Lay} {H : Hp} {i : Bool} {v : V} (h : Rep W ι H (.bl i) v) : v = .bl i := by simpa only [Rep] using h
theorem rep_non {ι : Lay} {H : Hp} {v : V} (h : Rep W ι H .non v) : v = .non := by simpa only [Rep] using h
theorem int_rep {ι : Lay} {H : Hp} {i : Int} : Rep W ι H (.int i) (.int i) := by simp only [Rep]
theorem str_rep {ι : Lay} {H : Hp} {i : Str} : Rep W ι H (.str i) (.str i) := by simp only [Rep]
theorem bl_rep {ι : Lay} {H : Hp} {i : Bool} : Rep W ι H (.bl i) (.bl i) := by simp only [Rep]
theorem non_rep {ι : Lay} {H : Hp} : Rep W ι H .non .non := by simp only [Rep]
theorem jo_add (hK : X.K = W.K) : OpR X (binaryOp .Add) (M2 W dAdd) := by
  intro pins s σ H x y v u Q I rx ry ⟨ι, st, a, b, d, r, ha, hb, e, k⟩
  unfold dAdd at e
  split at e
  · cases e
    cases rep_int ha
    cases rep_int hb
    exact op_add pins s σ H _ _ v u Q I rx ry ⟨_, _, rfl, rfl, k.now r int_rep⟩
  · split at e
    · rename_i hz
      cases e
      cases rep_str ha
      cases rep_str hb
      exact op_add_str pins s σ H _ _ v u Q I rx ry ⟨_, _, rfl, rfl, hz, k.now r str_rep⟩
    · cases e
  · split at e
    · rename_i xs ys q1 q2
      split at e
      · rename_i hz
        cases e
        obtain ⟨p, us, rfl, h1, h2⟩ := seqL_ok r ha q1
        obtain ⟨p', us', rfl, h3, h4⟩ := seqL_ok r hb q2
        exact op_cat pins s σ H _ _ v u Q I rx ry ⟨p, p', us, us', rfl, rfl, h1, h3, by rw [← h2.length, ← h4.length]; exact hz, fun l hl => k.lst r (h2.append h4) hl⟩
      · cases e
    · split at e
      · rename_i xs ys q1 q2
        split at e
        · rename_i hz
          cases e
          obtain ⟨p, us, rfl, h1, h2⟩ := seqT_ok ha q1
          obtain ⟨p', us', rfl, h3, h4⟩ := seqT_ok hb q2
          refine op_catA pins s σ H _ _ v u Q I rx ry ⟨p, p', us, us', rfl, rfl, SqT.of h1, SqT.of h3, by rw [← h2.length, ← h4.length]; exact hz, fun z => ?_, fun _ z => ?_, fun _ _ l hl => k.tup r (h2.append h4) hl⟩
          · have e1 : xs = [] := List.length_eq_zero_iff.mp (by rw [h2.length, z]; rfl)
            refine k.now r ?_
            simp only [Rep, e1, List.nil_append]
            exact ⟨p', rfl, us', h3, h4⟩
          · have e1 : ys = [] := List.length_eq_zero_iff.mp (by rw [h4.length, z]; rfl)
            refine k.now r ?_
            simp only [Rep, e1, List.append_nil]
            exact ⟨p, rfl, us, h1, h2⟩
        · cases e
      · cases e
theorem jo_sub : OpR X (binaryOp .Sub) (M2 W dSub) := by
  intro pins s σ H x y v u Q I rx ry ⟨ι, st, a, b, d, r, ha, hb, e, k⟩
  unfold dSub at e
  split at e
  · cases e
    cases rep_int ha
    cases rep_int hb
    exact op_sub pins s σ H _ _ v u Q I rx ry ⟨_, _, rfl, rfl, k.now r int_rep⟩
  · cases e
theorem jo_mod : OpR X (binaryOp .Mod) (M2 W dMod) := by
  intro pins s σ H x y v u Q I rx ry ⟨ι, st, a, b, d, r, ha, hb, e, k⟩
  unfold dMod at e
  split at e
  · split at e
    · rename_i h
      cases e
      cases rep_int ha
      cases rep_int hb
      exact op_mod pins s σ H _ _ v u Q I rx ry ⟨_, _, rfl, rfl, h, k.now r int_rep⟩
    · cases e
  · cases e
theorem jo_fdiv : OpR X (binaryOp .FloorDiv) (M2 W dFdiv) := by
  intro pins s σ H x y v u Q I rx ry ⟨ι, st, a, b, d, r, ha, hb, e, k⟩
  unfold dFdiv at e
  split at e
  · split at e
    · rename_i h
      cases e
      cases rep_int ha
      cases rep_int hb
      exact op_fdivW pins s σ H _ _ v u Q I rx ry ⟨_, _, rfl, rfl, h, k.now r int_rep⟩
    · cases e
  · cases e
theorem jo_pow : OpR X (binaryOp .Pow) (M2 W dPow) := by
  intro pins s σ H x y v u Q I rx ry ⟨ι, st, a, b, d, r, ha, hb, e, k⟩
  unfold dPow at e
  split at e
  · split at e
    · rename_i h
      cases e
      cases rep_int ha
      cases rep_int hb
      exact op_powW pins s σ H _ _ v u Q I rx ry ⟨_, _, rfl, rfl, h, k.now r int_rep⟩
    · cases e
  · cases e
theorem jo_neg : UnR X (unaryOp .USub) (M1 W dNeg) := by
  intro pins s σ H x v Q I rx ⟨ι, st, a, d, r, ha, e, k⟩
  unfold dNeg at e
  split at e
  · cases e
    cases rep_int ha
    exact un_neg pins s σ H _ v Q I rx ⟨_, rfl, k.now r int_rep⟩
  · cases e
theorem jo_lt : OpR X (compareOp .Lt) (M2 W dLt) := by
  intro pins s σ H x y v u Q I rx ry ⟨ι, st, a, b, d, r, ha, hb, e, k⟩
  unfold dLt at e
  split at e
  · cases e
    cases rep_int ha
    cases rep_int hb
    exact op_lt pins s σ H _ _ v u Q I rx ry ⟨_, _, rfl, rfl, k.now r bl_rep⟩
  · cases e
theorem jo_le : OpR X (compareOp .LtE) (M2 W dLe) := by
  intro pins s σ H x y v u Q I rx ry ⟨ι, st, a, b, d, r, ha, hb, e, k⟩
  unfold dLe at e
  split at e
  · cases e
    cases rep_int ha
    cases rep_int hb
    exact op_le pins s σ H _ _ v u Q I rx ry ⟨_, _, rfl, rfl, k.now r bl_rep⟩
  · cases e
theorem jo_gt : OpR X (compareOp .Gt) (M2 W dGt) := by
  intro pins s σ H x y v u Q I rx ry ⟨ι, st, a, b, d, r, ha, hb, e, k⟩
  unfold dGt at e
  split at e
  · cases e
    cases rep_int ha
    cases rep_int hb
    exact op_gt pins s σ H _ _ v u Q I rx ry ⟨_, _, rfl, rfl, k.now r bl_rep⟩
  · cases e
theorem jo_ge : OpR X (compareOp .GtE) (M2 W dGe) := by
  intro pins s σ H x y v u Q I rx ry ⟨ι, st, a, b, d, r, ha, hb, e, k⟩
  unfold dGe at e
  split at e
  · cases e
    cases rep_int ha
    cases rep_int hb
    exact op_ge pins s σ H _ _ v u Q I rx ry ⟨_, _, rfl, rfl, k.now r bl_rep⟩
  · cases e
/-- what == of two values asks -/
theorem eqB_ok {ι : Lay} {H : Hp} {st : Store} {a b : D} {c : Bool} {x y : V} (r : RelH W ι H st) (ha : Rep W ι H a x) (hb : Rep W ι H b y) (e : eqB a b st = some c) :
    (scal x y = true ∧ decide (x = y) = c) ∨ ∃ p q, Dp W.K H x p ∧ Dp W.K H y q ∧ SeqAt.shaped p = true ∧ SeqAt.shaped q = true ∧ PyData.eqv p q = c := by
  unfold eqB at e
  split at e
  all_goals first
    | (cases e; left; cases rep_int ha; cases rep_int hb; exact ⟨rfl, by simp⟩)
    | (cases e; left; cases rep_str ha; cases rep_str hb; exact ⟨rfl, by simp⟩)
    | (cases e; left; cases rep_bl ha; cases rep_bl hb; exact ⟨rfl, by simp⟩)
    | (cases e; left; cases rep_non ha; cases rep_non hb; exact ⟨rfl, by simp⟩)
    | (cases e; left; cases rep_int ha; cases rep_str hb; exact ⟨rfl, by simp⟩)
    | (cases e; left; cases rep_str ha; cases rep_int hb; exact ⟨rfl, by simp⟩)
    | (cases e; left; cases rep_bl ha; cases rep_str hb; exact ⟨rfl, by simp⟩)
    | (cases e; left; cases rep_str ha; cases rep_bl hb; exact ⟨rfl, by simp⟩)
    | (cases e; left; cases rep_non ha; cases rep_int hb; exact ⟨rfl, by simp⟩)
    | (cases e; left; cases rep_int ha; cases rep_non hb; exact ⟨rfl, by simp⟩)
    | (cases e; left; cases rep_non ha; cases rep_bl hb; exact ⟨rfl, by simp⟩)
    | (cases e; left; cases rep_bl ha; cases rep_non hb; exact ⟨rfl, by simp⟩)
    | (cases e; left; cases rep_non ha; cases rep_str hb; exact ⟨rfl, by simp⟩)
    | (cases e; left; cases rep_str ha; cases rep_non hb; exact ⟨rfl, by simp⟩)
    | skip
  split at e
  · rename_i p q e1 e2
    split at e
    · rename_i hs
      cases e
      exact .inr ⟨p, q, pyOf_ok r e1 ha, pyOf_ok r e2 hb, hs.1, hs.2, rfl⟩
    · cases e
  · cases e
theorem jo_eq (hK : X.K = W.K) (hu : X.A.units + 64 < cLine) : OpR X (compareOp .Eq) (M2 W dEq) := by
  intro pins s σ H x y v u Q I rx ry ⟨ι, st, a, b, d, r, ha, hb, e, k⟩
  unfold dEq at e
  rw [Option.map_eq_some_iff] at e
  obtain ⟨c, e, rfl⟩ := e
  rcases eqB_ok r ha hb e with ⟨h1, h2⟩ | ⟨p, q, h1, h2, h3, h4, h5⟩
  · refine op_eq pins s σ H x y v u Q I rx ry ⟨h1, ?_⟩
    rw [h2]; exact k.now r bl_rep
  · rw [← hK] at h1 h2
    refine op_eqD hu pins s σ H x y v u Q I rx ry ⟨p, q, h1, h2, h3, h4, ?_⟩
    rw [h5]; exact k.now r bl_rep
theorem jo_ne (hK : X.K = W.K) (hu : X.A.units + 64 < cLine) : OpR X (compareOp .NotEq) (M2 W dNe) := by
  intro pins s σ H x y v u Q I rx ry ⟨ι, st, a, b, d, r, ha, hb, e, k⟩
  unfold dNe at e
  rw [Option.map_eq_some_iff] at e
  obtain ⟨c, e, rfl⟩ := e
  rcases eqB_ok r ha hb e with ⟨h1, h2⟩ | ⟨p, q, h1, h2, h3, h4, h5⟩
  · refine op_ne pins s σ H x y v u Q I rx ry ⟨h1, ?_⟩
    rw [h2]; exact k.now r bl_rep
  · rw [← hK] at h1 h2
    refine op_neD hu pins s σ H x y v u Q I rx ry ⟨p, q, h1, h2, h3, h4, ?_⟩
    rw [h5]; exact k.now r bl_rep
theorem rep_nn {ι : Lay} {H : Hp} {a : D} {x : V} (ha : Rep W ι H a x) (h : a ≠ .non) : decide (x = .non) = false := by
  refine decide_eq_false fun z => ?_
  subst z
  cases a with
  | non => exact h rfl
  | _ => simp [Rep] at ha
theorem jo_is : OpR X (compareOp .Is) (M2 W dIs) := by
  intro pins s σ H x y v u Q I rx ry ⟨ι, st, a, b, d, r, ha, hb, e, k⟩
  unfold dIs at e
  split at e
  · cases rep_non hb
    refine op_isN pins s σ H _ _ v u Q I rx ry ⟨rfl, ?_⟩
    split at e
    · cases e
      cases rep_non ha
      exact k.now r bl_rep
    · rename_i hn
      cases e
      rw [rep_nn ha hn]
      exact k.now r bl_rep
  · split at e
    · cases e
      cases rep_bl ha
      cases rep_bl hb
      exact op_isBl pins s σ H _ _ v u Q I rx ry ⟨_, _, rfl, rfl, k.now r bl_rep⟩
    · cases e
  · cases e
theorem jo_isnot : OpR X (compareOp .IsNot) (M2 W dIsNot) := by
  intro pins s σ H x y v u Q I rx ry ⟨ι, st, a, b, d, r, ha, hb, e, k⟩
  unfold dIsNot dIs at e
  split at e
  · rename_i c q
    cases e
    split at q
    · cases rep_non hb
      refine op_notN pins s σ H _ _ v u Q I rx ry ⟨rfl, ?_⟩
      split at q
      · cases q
        cases rep_non ha
        exact k.now r bl_rep
      · rename_i hn
        cases q
        rw [rep_nn ha hn]
        exact k.now r bl_rep
    · split at q
      · cases q
        cases rep_bl ha
        cases rep_bl hb
        exact op_notBl pins s σ H _ _ v u Q I rx ry ⟨_, _, rfl, rfl, k.now r bl_rep⟩
      · cases q
    · cases q
  · cases e
theorem SqE {K K' : PySem.W.Frag} (h : K = K') {H : Hp} {p : Addr} {xs : List V} (q : SqL K' H p xs ∨ SqT K' H p xs) : SqL K H p xs ∨ SqT K H p xs := by subst h; exact q
theorem atI_rep {ι : Lay} {H : Hp} {ds : List D} {vs : List V} {i : Int} {d : D} (h : Reps W ι H ds vs) (e : atI ds i = some d) : ∃ v, atI vs i = some v ∧ Rep W ι H d v := by
  unfold atI at e ⊢
  rw [← h.length]
  rw [Option.bind_eq_some_iff] at e
  obtain ⟨j, h1, h2⟩ := e
  obtain ⟨v, h3, h4⟩ := h.get h2
  exact ⟨v, by rw [h1]; exact h3, h4⟩
/-- d[k] of a dict, by values -/
theorem ix_dget (hu : X.A.units + 1 < cLine) : IxR X (fun x y H Q => ∃ a v, x = .ref a ∧ DGet H a y (some v) ∧ Q v H) := by
  intro value slice pins s σ H x y v u Q I rx ry ⟨a, z, e, g, q⟩ hs
  subst e
  cases rx
  refine tail_any (ops := [.ref a, u]) (dict_typeIs I g) PySem.F.slot_dict_getitem.lookup (d_getItem hu I g ry fun w' s3 I3 rw' => ⟨z, H, I3, rw', q⟩) hs
theorem ji_ix (hK : X.K = W.K) (hu : X.A.units + 1 < cLine) : IxR X (M2 W dIx) := by
  intro value slice pins s σ H x y v u Q I rx ry ⟨ι, st, a, b, d, r, ha, hb, e, k⟩ hs
  unfold dIx at e
  split at e
  · rename_i xs q
    obtain ⟨p, us, rfl, h1, h2⟩ := seqA_ok r ha q
    split at e
    · rename_i i
      cases rep_int hb
      obtain ⟨z, h3, h4⟩ := atI_rep h2 e
      rcases SqE hK h1 with h1 | h1
      · exact ix_list value slice pins s σ H _ _ v u Q I rx ry ⟨p, us, i, z, rfl, rfl, h1, h3, k.now r h4⟩ hs
      · exact ix_tup value slice pins s σ H _ _ v u Q I rx ry ⟨p, us, i, z, rfl, rfl, h1, h3, k.now r h4⟩ hs
    · cases e
  · split at e
    · rename_i ks vs q
      obtain ⟨p, us, rfl, h1, h2, h3⟩ := dicK_ok r ha q
      split at e
      · rename_i kk q2
        obtain ⟨z, h4, h5⟩ := (kGet_ok h3).1 d e
        cases keyOf_ok q2 hb
        have g := DGet.k (k := kk) h1
        rw [h4] at g
        exact ix_dget hu value slice pins s σ H _ _ v u Q I rx ry ⟨p, z, rfl, g, k.now r h5⟩ hs
      · cases e
    · split at e
      · rename_i ks vs q
        obtain ⟨p, us, rfl, h1, h2, h3⟩ := dicT_ok r ha q
        split at e
        · rename_i kk q2
          obtain ⟨z, h4, h5⟩ := (kGet_ok h3).1 d e
          unfold tkeyOf at q2
          split at q2
          · rename_i ds
            obtain ⟨b', ws, rfl, h6, h7⟩ := seqT_ok hb (xs := ds) rfl
            have e7 := keysOf_ok q2 h7
            subst e7
            have g := DGet.t (k := kk) h1 h6
            rw [h4] at g
            exact ix_dget hu value slice pins s σ H _ _ v u Q I rx ry ⟨p, z, rfl, g, k.now r h5⟩ hs
          · cases q2
        · cases e
      · split at e
        · rename_i z i _ _ _
          split at e
          · rename_i hz
            rw [Option.map_eq_some_iff] at e
            obtain ⟨c, e1, rfl⟩ := e
            cases rep_str ha
            cases rep_int hb
            exact ix_str value slice pins s σ H _ _ v u Q I rx ry ⟨z, i, c, rfl, rfl, hz, e1, k.now r str_rep⟩ hs
          · cases e
        · cases e
end
end My

namespace My
open PySem PySem.Spec PyProof.Rows L2

theorem Reps.rep {W : Wd} {ι : Lay} {H : Hp} {ds : List D} {vs : List V} (h : Reps W ι H ds vs) : ∀ k : Nat, Reps W ι H (List.replicate k ds).flatten (List.replicate k vs).flatten
  | 0 => by simpa using Reps.nil
  | k + 1 => by
    rw [List.replicate_succ, List.replicate_succ, List.flatten_cons, List.flatten_cons]
    exact Reps.append h (Reps.rep h k)
section
variable {X : Cx} {W : Wd}
theorem Grow.same {ι : Lay} {H H' : Hp} (s : Same H H') : Grow ι H ι H' := ⟨fun _ _ h => h, fun a o _ h => s a o h, fun _ m => .inl m, rfl⟩
theorem RelH.same {ι : Lay} {H H' : Hp} {st : Store} (r : RelH W ι H st) (s : Same H H') : RelH W ι H' st :=
  ⟨r.len, r.nd, r.dis, fun a m => by
    obtain ⟨o, e⟩ := r.hidd a m
    exact ⟨o, s _ _ e⟩, fun i c e => by
    obtain ⟨a, h1, h2⟩ := r.cell i c e
    exact ⟨a, h1, h2.move (Grow.same s).gro fun o q => s _ _ q⟩⟩
theorem jo_mul (hK : X.K = W.K) : OpR X (binaryOp .Mult) (M2 W dMul) := by
  intro pins s σ H x y v u Q I rx ry ⟨ι, st, a, b, d, r, ha, hb, e, k⟩
  unfold dMul at e
  split at e
  · split at e
    · rename_i h
      cases e
      cases rep_int ha
      cases rep_int hb
      exact op_mulW pins s σ H _ _ v u Q I rx ry ⟨_, _, rfl, rfl, h, k.now r int_rep⟩
    · cases e
  · split at e
    · rename_i xs n h
      cases e
      cases rep_int hb
      obtain ⟨p, us, rfl, h1, h2⟩ := seqT_ok ha (xs := xs) rfl
      refine op_repA pins s σ H _ _ v u Q I rx ry ⟨p, n, us, rfl, rfl, h1, fun z => h.1 (List.length_eq_zero_iff.mp (by rw [h2.length, z]; rfl)), h.2.1, h.2.2.1, by rw [← h2.length]; exact h.2.2.2, fun q H' sm hq => ?_⟩
      refine k _ ι H' (Grow.same sm) (r.same sm) ?_
      simp only [Rep]
      exact ⟨q, rfl, _, hq, Reps.grow (Grow.same sm) _ _ (h2.rep _)⟩
    · cases e
  · split at e
    · rename_i xs q
      split at e
      · rename_i h
        cases e
        cases rep_int hb
        obtain ⟨p, us, rfl, h1, h2⟩ := seqL_ok r ha q
        exact op_rep pins s σ H _ _ v u Q I rx ry ⟨p, _, us, rfl, rfl, h1, h.1, h.2.1, by rw [← h2.length]; exact h.2.2, fun l hl => k.lst r (h2.rep _) hl⟩
      · cases e
    · cases e
  · cases e
theorem d_inR (hu : X.A.units + 1 < cLine) : OpR X (compareOp .In) (fun x y H Q => ∃ a o, y = .ref a ∧ DGet H a x o ∧ Q (.bl o.isSome) H) := by
  intro pins s σ H x y v u Q I rx ry ⟨a, o, e, g, q⟩
  subst e
  cases ry
  exact d_in hu I g rx fun s3 I3 => ⟨.bl o.isSome, H, I3, rfl, q⟩
theorem d_notInR (hu : X.A.units + 1 < cLine) : OpR X (compareOp .NotIn) (fun x y H Q => ∃ a o, y = .ref a ∧ DGet H a x o ∧ Q (.bl (!o.isSome)) H) := by
  intro pins s σ H x y v u Q I rx ry ⟨a, o, e, g, q⟩
  subst e
  cases ry
  exact d_notIn hu I g rx fun s3 I3 => ⟨.bl (!o.isSome), H, I3, rfl, q⟩
theorem inB_ok {ι : Lay} {H : Hp} {st : Store} {a b : D} {c : Bool} {x y : V} (r : RelH W ι H st) (ha : Rep W ι H a x) (hb : Rep W ι H b y) (e : inB a b st = some c) :
    (∃ p xs, y = .ref p ∧ (SqL W.K H p xs ∨ SqT W.K H p xs) ∧ flatV x = true ∧ xs.all flatV = true ∧ inV x xs = c) ∨ (∃ p o, y = .ref p ∧ DGet H p x o ∧ o.isSome = c) ∨
      ∃ i j, x = .str i ∧ y = .str j ∧ (!(Builtin.Str.occurrences j i 0 j.length 1).isEmpty) = c := by
  unfold inB at e
  split at e
  · rename_i ys q
    obtain ⟨p, us, rfl, h1, h2⟩ := seqA_ok r hb q
    split at e
    · rename_i x' us' q1 q2
      cases e
      cases sc_ok q1 ha
      cases scs_ok q2 h2
      exact .inl ⟨p, _, rfl, h1, flat_sc q1, flat_scs q2, rfl⟩
    · cases e
  · split at e
    · rename_i ks vs q
      obtain ⟨p, us, rfl, h1, h2, h3⟩ := dicK_ok r hb q
      split at e
      · rename_i kk q2
        cases e
        cases keyOf_ok q2 ha
        refine .inr (.inl ⟨p, _, rfl, DGet.k (k := kk) h1, ?_⟩)
        cases hq : kGet ks vs kk with
        | none => rw [(kGet_ok h3).2 hq]; rfl
        | some d =>
          obtain ⟨z, h4, _⟩ := (kGet_ok h3).1 d hq
          rw [h4]; rfl
      · cases e
    · split at e
      · rename_i ks vs q
        obtain ⟨p, us, rfl, h1, h2, h3⟩ := dicT_ok r hb q
        split at e
        · rename_i kk q2
          cases e
          unfold tkeyOf at q2
          split at q2
          · rename_i ds
            obtain ⟨b', ws, rfl, h6, h7⟩ := seqT_ok ha (xs := ds) rfl
            have e7 := keysOf_ok q2 h7
            subst e7
            refine .inr (.inl ⟨p, _, rfl, DGet.t (k := kk) h1 h6, ?_⟩)
            cases hq : kGet ks vs kk with
            | none => rw [(kGet_ok h3).2 hq]; rfl
            | some d =>
              obtain ⟨z, h4, _⟩ := (kGet_ok h3).1 d hq
              rw [h4]; rfl
          · cases q2
        · cases e
      · split at e
        · cases e
          cases rep_str ha
          cases rep_str hb
          exact .inr (.inr ⟨_, _, rfl, rfl, rfl⟩)
        · cases e
theorem jo_in (hK : X.K = W.K) (hu : X.A.units + 1 < cLine) : OpR X (compareOp .In) (M2 W dIn) := by
  intro pins s σ H x y v u Q I rx ry ⟨ι, st, a, b, d, r, ha, hb, e, k⟩
  unfold dIn at e
  rw [Option.map_eq_some_iff] at e
  obtain ⟨c, e, rfl⟩ := e
  rcases inB_ok r ha hb e with ⟨p, xs, rfl, h1, h2, h3, rfl⟩ | ⟨p, o, rfl, h1, rfl⟩ | ⟨i, j, rfl, rfl, rfl⟩
  · exact op_in_seq pins s σ H _ _ v u Q I rx ry ⟨p, xs, rfl, SqE hK h1, h2, h3, k.now r bl_rep⟩
  · exact d_inR hu pins s σ H _ _ v u Q I rx ry ⟨p, o, rfl, h1, k.now r bl_rep⟩
  · exact op_in_str pins s σ H _ _ v u Q I rx ry ⟨i, j, rfl, rfl, k.now r bl_rep⟩
theorem jo_notin (hK : X.K = W.K) (hu : X.A.units + 1 < cLine) : OpR X (compareOp .NotIn) (M2 W dNotIn) := by
  intro pins s σ H x y v u Q I rx ry ⟨ι, st, a, b, d, r, ha, hb, e, k⟩
  unfold dNotIn at e
  rw [Option.map_eq_some_iff] at e
  obtain ⟨c, e, rfl⟩ := e
  rcases inB_ok r ha hb e with ⟨p, xs, rfl, h1, h2, h3, rfl⟩ | ⟨p, o, rfl, h1, rfl⟩ | ⟨i, j, rfl, rfl, rfl⟩
  · exact op_notIn_seq pins s σ H _ _ v u Q I rx ry ⟨p, xs, rfl, SqE hK h1, h2, h3, k.now r bl_rep⟩
  · exact d_notInR hu pins s σ H _ _ v u Q I rx ry ⟨p, o, rfl, h1, k.now r bl_rep⟩
  · exact op_notIn_str pins s σ H _ _ v u Q I rx ry ⟨i, j, rfl, rfl, k.now r bl_rep⟩
def dAddI (a b : D) (_ : Store) : Option D := match a, b with
  | .int i, .int j => some (.int (i + j))
  | _, _ => none
theorem ji_add : PIp X .Add (M2 W dAddI) := by
  intro pins s σ H x y v u Q I rx ry ⟨ι, st, a, b, d, r, ha, hb, e, k⟩
  unfold dAddI at e
  split at e
  · cases e
    cases rep_int ha
    cases rep_int hb
    exact ip_add pins s σ H _ _ v u Q I rx ry ⟨_, _, rfl, rfl, k.now r int_rep⟩
  · cases e
theorem ji_sub : PIp X .Sub (M2 W dSub) := by
  intro pins s σ H x y v u Q I rx ry ⟨ι, st, a, b, d, r, ha, hb, e, k⟩
  unfold dSub at e
  split at e
  · cases e
    cases rep_int ha
    cases rep_int hb
    exact ip_sub pins s σ H _ _ v u Q I rx ry ⟨_, _, rfl, rfl, k.now r int_rep⟩
  · cases e

/-! ### slices -/
def cutD (xs : List D) (lo hi : Option Int) : List D := (xs.drop (HT.sIx xs.length 0 lo)).take (HT.sIx xs.length xs.length hi - HT.sIx xs.length 0 lo)
open Classical in
noncomputable def dSl (x : D) (lo hi : Option Int) (st : Store) : Option D := match x with
  | .tup xs => some (.tup (cutD xs lo hi))
  | .tpf xs => some (.tpf (cutD xs lo hi))
  | .str z => if z.length ≤ sizeLine then some (.str (cutS z lo hi)) else none
  | .scr ns => some (.lst (cutD (ns.map .int) lo hi))
  | _ => (seqL st x).map fun xs => .lst (cutD xs lo hi)
abbrev OM := Env → Store → Option (Option Int × Store)
def oNone : OM := fun _ st => some (none, st)
def oSome (m : EM) : OM := fun env st => match m env st with
  | some (.int i, s1) => some (some i, s1)
  | _ => none
noncomputable def eSl (mx : EM) (ml mh : OM) : EM := fun env st => match mx env st with
  | some (x, s1) => match ml env s1 with
    | some (lo, s2) => match mh env s2 with
      | some (hi, s3) => (dSl x lo hi s3).map (·, s3)
      | none => none
    | none => none
  | none => none
def TOm (W : Wd) (m : OM) : TO := fun σ H Q => ∃ ι st env o st', RelH W ι H st ∧ REnv W ι H env σ ∧ m env st = some (o, st') ∧ ∀ ι' H', Grow ι H ι' H' → RelH W ι' H' st' → Q o H'
def MSl (W : Wd) : V → Option Int → Option Int → Hp → VK → Prop := fun x lo hi H Q => ∃ ι st a d, RelH W ι H st ∧ Rep W ι H a x ∧ dSl a lo hi st = some d ∧ OkE W ι H d st Q
/-- a slice of a tuple: itself, or a new one that is known to the object -/
def rSlF (K : PySem.W.Frag) : V → Option Int → Option Int → Hp → VK → Prop := fun x lo hi H Q => ∃ a xs, x = .ref a ∧ SqT K H a xs ∧
  (HT.sIx xs.length 0 lo = 0 ∧ HT.sIx xs.length xs.length hi = xs.length → Q (.ref a) H) ∧
  (¬ (HT.sIx xs.length 0 lo = 0 ∧ HT.sIx xs.length xs.length hi = xs.length) → ∀ p, H p = none → ∀ o : Obj, o.cls = .type "tuple" ∧ o.dict = none → Q (.ref p) (upd H p (.frz o (.tup (cutV xs lo hi)))))
theorem sl_tpf {X : Cx} : SlR X (rSlF X.K) := by
  intro pins s σ H x v vl vu lo hi sl Q I rx hs pl pu h
  obtain ⟨a, xs, rfl, hx, q1, q2⟩ := h
  by_cases hw : HT.sIx xs.length 0 lo = 0 ∧ HT.sIx xs.length xs.length hi = xs.length
  · exact sl_tupA pins s σ H _ v vl vu lo hi sl Q I rx hs pl pu ⟨a, xs, rfl, hx, q1, fun n => absurd hw n⟩
  · cases rx
    obtain ⟨its, r, ht, hz⟩ := I.tuple hx
    have hlen : its.toArray.size = xs.length := by rw [List.size_toArray]; exact r.length.symm
    refine ⟨"tuple", _, PyProof.Rows.slot_tuple_getitem.lookup, ht.typeIs, ?_⟩
    refine HT.getItem_tuple_cut ht hs pl pu (by rw [hlen]; exact hw) ?_ (by rw [hlen]; exact hz)
    rw [hlen]
    refine ⟨.ref s.heap.objs.size, _, I.laid (t' := s.toks) (o := .frz { cls := .type "tuple", data := .seq ((its.toArray.toList.drop (HT.sIx xs.length 0 lo)).take (HT.sIx xs.length xs.length hi - HT.sIx xs.length 0 lo)).toArray } (.tup (cutV xs lo hi))) (fun b ob q => Heap.get?_push_of_some _ q) (Nat.le_refl _) ?_, rfl, q2 hw _ (I.hok.fresh (Nat.le_refl _)) _ ⟨rfl, rfl⟩⟩
    exact ⟨Heap.get?_push_size _ rfl, Nat.le_trans (cutV_length xs lo hi) hz, _, (r.drop (HT.sIx xs.length 0 lo)).take (HT.sIx xs.length xs.length hi - HT.sIx xs.length 0 lo), IsTup.new _ _⟩
theorem cutD_rep {ι : Lay} {H : Hp} {xs : List D} {vs : List V} (h : Reps W ι H xs vs) (lo hi : Option Int) : Reps W ι H (cutD xs lo hi) (cutV vs lo hi) := by
  unfold cutD cutV
  rw [h.length]
  exact (h.drop _).take _
theorem j_sl (hK : X.K = W.K) : SlR X (MSl W) := by
  intro pins s σ H x v vl vu lo hi sl Q I rx hs pl pu ⟨ι, st, a, d, r, ha, e, k⟩
  unfold dSl at e
  split at e
  · rename_i xs
    cases e
    obtain ⟨p, us, rfl, h1, h2⟩ := seqT_ok ha (xs := xs) rfl
    refine sl_tupA pins s σ H _ v vl vu lo hi sl Q I rx hs pl pu ⟨p, us, rfl, SqT.of h1, fun z => k.now r ?_, fun _ q hq => k.tup r (cutD_rep h2 lo hi) hq⟩
    have e1 : cutD xs lo hi = xs := by
      unfold cutD
      rw [h2.length, z.1, z.2, List.drop_zero, Nat.sub_zero, ← h2.length, List.take_length]
    simp only [Rep, e1]
    exact ⟨p, rfl, us, h1, h2⟩
  · rename_i xs
    cases e
    obtain ⟨p, o, us, rfl, h0, h1, hq, h2⟩ := tpf_ok ha
    refine sl_tpf pins s σ H _ v vl vu lo hi sl Q I rx hs pl pu ⟨p, us, rfl, hK ▸ hq, fun z => k.now r ?_, fun _ q hq o ho => k.tpf r (cutD_rep h2 lo hi) hq ho⟩
    have e1 : cutD xs lo hi = xs := by
      unfold cutD
      rw [h2.length, z.1, z.2, List.drop_zero, Nat.sub_zero, ← h2.length, List.take_length]
    simp only [Rep, e1]
    exact ⟨p, rfl, o, us, h0, h1, h2⟩
  · split at e
    · rename_i hz
      cases e
      cases rep_str ha
      exact sl_str pins s σ H _ v vl vu lo hi sl Q I rx hs pl pu ⟨_, rfl, hz, k.now r str_rep⟩
    · cases e
  · rename_i ns
    cases e
    simp only [Rep] at ha
    obtain ⟨p, rfl, h1⟩ := ha
    refine sl_list pins s σ H _ v vl vu lo hi sl Q I rx hs pl pu ⟨p, _, rfl, hK ▸ h1.sq, fun q hq => k.lst r (cutD_rep (Reps.map (g := V.int) fun x _ => int_rep) lo hi) hq⟩
  · rw [Option.map_eq_some_iff] at e
    obtain ⟨xs, e1, rfl⟩ := e
    obtain ⟨p, us, rfl, h1, h2⟩ := seqL_ok r ha e1
    exact sl_list pins s σ H _ v vl vu lo hi sl Q I rx hs pl pu ⟨p, us, rfl, SqL.of h1, fun q hq => k.lst r (cutD_rep h2 lo hi) hq⟩
theorem jp_none : PO X none (TOm W oNone) := ⟨fun pins s σ H Q I ⟨ι, st, env, o, st', r, n, e, k⟩ => by
  cases e
  exact po_none.run pins s σ H Q I (k _ _ Grow.refl r)⟩
theorem jp_some {e : Expr} {m : EM} (h : PE X e (T W m)) : PO X (some e) (TOm W (oSome m)) := ⟨fun pins s σ H Q I ⟨ι, st, env, o, st', r, n, e, k⟩ => by
  refine (po_some h).run pins s σ H Q I ?_
  unfold oSome at e
  split at e
  · rename_i i s1 q
    cases e
    exact T.of r n q fun v ι1 H1 g1 r1 p1 => ⟨i, rep_int p1, k _ _ g1 r1⟩
  · cases e⟩
theorem j_slice {e : Expr} {lo hi : Option Expr} {p2 pos : Pos} {m : EM} {ml mh : OM} (hK : X.K = W.K) (he : PE X e (T W m)) (hl : PO X lo (TOm W ml)) (hh : PO X hi (TOm W mh)) : PE X (.Subscript e (.Slice lo hi none p2) pos) (T W (eSl m ml mh)) :=
  (pe_slice (j_sl (W := W) hK) he hl hh).imp fun σ H Q ⟨ι, st, env, d, st', r, n, e, k⟩ => by
    unfold eSl at e
    split at e
    · rename_i x s1 q1
      split at e
      · rename_i o1 s2 q2
        split at e
        · rename_i o2 s3 q3
          rw [Option.map_eq_some_iff] at e
          obtain ⟨d', e1, e2⟩ := e
          cases e2
          exact T.of r n q1 fun v ι1 H1 g1 r1 p1 => ⟨ι1, s1, env, o1, s2, r1, n.grow g1, q2, fun ι2 H2 g2 r2 => ⟨ι2, s2, env, o2, _, r2, (n.grow g1).grow g2, q3, fun ι3 H3 g3 r3 => ⟨ι3, _, x, d, r3, Rep.grow g3 _ _ (Rep.grow g2 _ _ p1), e1, k.go ((g1.trans g2).trans g3)⟩⟩⟩
        · cases e
      · cases e
    · cases e

/-! ### o[i] = v -/
open Classical in
noncomputable def dPut (o i v : D) (st : Store) : Option Store := match o with
  | .ref n => match st[n]? with
    | some (.lst xs) => match i with
      | .int k => match ixN xs.length k with
        | some j => some (st.set n (.lst (xs.set j v)))
        | none => none
      | _ => none
    | some (.dk ks vs) => match keyOf i with
      | some k => if ks.length < sizeLine then some (st.set n (.dk (kPutK ks k) (kPutV ks vs k v))) else none
      | none => match ks, vs, tkeyOf i with
        | [], [], some k => none
        | _, _, _ => none
    | some (.dt ks vs) => match tkeyOf i with
      | some k => if ks.length < sizeLine then some (st.set n (.dt (kPutK ks k) (kPutV ks vs k v))) else none
      | none => none
    | _ => none
  | _ => none
theorem set_dict (hu : X.A.units + 1 < cLine) : PSet X (fun o i v H Q => ∃ a H', o = .ref a ∧ DPut H a i v H' ∧ Q H') := by
  intro pins s σ H o i v ov iv u Q I ro ri rv ⟨a, H', e, g, q⟩
  subst e
  cases ro
  exact d_setItem hu I g ri rv fun s' I' => ⟨H', I', q⟩
theorem jp_set (hu : X.A.units + 1 < cLine) : PSet X (M3 W dPut) := by
  intro pins s σ H o i v ov iv u Q I ro ri rv ⟨ι, st, a, b, c, st', r, ha, hb, hc, e, k⟩
  unfold dPut at e
  split at e
  · rename_i n
    obtain ⟨p, cc, rfl, h1, h2, h3⟩ := rep_ref r ha
    rw [h2] at e
    obtain ⟨w, hw, mw⟩ := h3.there
    have g : ∀ o', Grow ι H ι (upd H p o') := fun o' => Grow.put h1 hw mw
    split at e
    · rename_i xs q
      cases q
      obtain ⟨us, h4, h5⟩ := h3
      split at e
      · rename_i kk
        split at e
        · rename_i j q
          cases e
          cases rep_int hb
          refine set_list pins s σ H _ _ _ ov iv u Q I ro ri rv ⟨p, us, kk, j, rfl, rfl, h4, by rw [← h5.length]; exact q, ?_⟩
          exact k _ _ (g _) (r.put h1 ⟨_, upd_same, Reps.grow (g _) _ _ (h5.set hc j)⟩)
        · cases e
      · cases e
    · rename_i ks vs q
      cases q
      obtain ⟨us, h4, h5, h6⟩ := h3
      split at e
      · rename_i kk q
        split at e
        · rename_i hz
          cases e
          cases keyOf_ok q hb
          obtain ⟨us', e1, e2, e3⟩ := kPut_ok (k := kk) h6 h5 hc
          refine set_dict hu pins s σ H _ _ _ ov iv u Q I ro ri rv ⟨p, _, rfl, DPut.k (k := kk) h4 (by rw [List.length_zip, ← h6.length, ← h5]; omega), ?_⟩
          rw [e1]
          exact k _ _ (g _) (r.put h1 ⟨us', upd_same, e2, Reps.grow (g _) _ _ e3⟩)
        · cases e
      · split at e <;> cases e
    · rename_i ks vs q
      cases q
      obtain ⟨us, h4, h5, h6⟩ := h3
      split at e
      · rename_i kk q
        split at e
        · rename_i hz
          cases e
          unfold tkeyOf at q
          split at q
          · rename_i ds
            obtain ⟨b', ws, rfl, h7, h8⟩ := seqT_ok hb (xs := ds) rfl
            have e7 := keysOf_ok q h8
            subst e7
            obtain ⟨us', e1, e2, e3⟩ := kPut_ok (k := kk) h6 h5 hc
            refine set_dict hu pins s σ H _ _ _ ov iv u Q I ro ri rv ⟨p, _, rfl, DPut.t (k := kk) h4 h7 (by rw [List.length_zip, ← h6.length, ← h5]; omega), ?_⟩
            rw [e1]
            exact k _ _ (g _) (r.put h1 ⟨us', upd_same, e2, Reps.grow (g _) _ _ e3⟩)
          · cases q
        · cases e
      · cases e
    · cases e
  · cases e
/-- {} that will be written -/
def eDkM : EM := fun _ st => some (.ref st.length, st ++ [.dk [] []])
def eDtM : EM := fun _ st => some (.ref st.length, st ++ [.dt [] []])
theorem OkE.cellM {ι : Lay} {H : Hp} {c : D} {o : HO} {st : Store} {Q : VK} {p : Addr} (k : OkE W ι H (.ref st.length) (st ++ [c]) Q) (r : RelH W ι H st) (hp : H p = none) (ok : CellOk W (ι.add p) (upd H p o) p c) : Q (.ref p) (upd H p o) :=
  k _ (ι.add p) _ (Grow.cell hp) (r.new hp ok) (by simp only [Rep]; exact ⟨p, rfl, by rw [← r.len]; show (ι.c ++ [p])[_]? = _; simp⟩)
theorem j_dkM {pos : Pos} : PE X (.Dict [] [] pos) (T W eDkM) := pe_dnewK.imp fun σ H Q ⟨ι, st, env, d, st', r, n, e, k⟩ => by
  cases e
  exact fun p hp => k.cellM r hp ⟨[], upd_same, rfl, Reps.nil⟩
theorem j_dtM {pos : Pos} : PE X (.Dict [] [] pos) (T W eDtM) := pe_dnewT.imp fun σ H Q ⟨ι, st, env, d, st', r, n, e, k⟩ => by
  cases e
  exact fun p hp => k.cellM r hp ⟨[], upd_same, rfl, Reps.nil⟩
end

/-! ### builtin functions -/
open Classical in
noncomputable def fLen : FM := ro fun ds st => match ds with
  | [d] => match seqA st d with
    | some xs => some (.int xs.length)
    | none => match dicK st d with
      | some (ks, _) => some (.int ks.length)
      | none => match dicT st d with
        | some (ks, _) => some (.int ks.length)
        | none => match d with
          | .str z => if z.length ≤ sizeLine then some (.int z.length) else none
          | _ => none
  | _ => none
def fAbs : FM := ro fun ds _ => match ds with
  | [.int i] => some (.int (if i < 0 then -i else i))
  | _ => none
def fInt : FM := ro fun ds _ => match ds with
  | [.int i] => some (.int i)
  | [.bl b] => some (.int (if b then 1 else 0))
  | _ => none
def fMax : FM := ro fun ds st => match ds with
  | [.int i, .int j] => some (.int (if j > i then j else i))
  | [d] => match seqL st d with
    | some xs => match intsOf xs with
      | some ns => ns.max?.map .int
      | none => none
    | none => none
  | _ => none
def fMin : FM := ro fun ds st => match ds with
  | [.int i, .int j] => some (.int (if j < i then j else i))
  | [d] => match seqL st d with
    | some xs => match intsOf xs with
      | some ns => ns.min?.map .int
      | none => none
    | none => none
  | _ => none
def fSum : FM := ro fun ds st => match ds with
  | [.tup xs] => (intsOf xs).map fun ns => .int ns.sum
  | [d] => match seqL st d with
    | some xs => (intsOf xs).map fun ns => .int ns.sum
    | none => none
  | _ => none
def fAll : FM := ro fun ds st => match ds with
  | [d] => match seqL st d with
    | some xs => (bolsOf xs).map fun ns => .bl (ns.all id)
    | none => none
  | _ => none
def fAny : FM := ro fun ds st => match ds with
  | [d] => match seqL st d with
    | some xs => (bolsOf xs).map fun ns => .bl (ns.any id)
    | none => none
  | _ => none
def isort (ns : List Int) : List Int := ns.mergeSort fun a b => decide (a ≤ b)
def fSortedL : FM := ro fun ds st => match ds with
  | [d] => match seqL st d with
    | some xs => (intsOf xs).map fun ns => .lst ((isort ns).map .int)
    | none => none
  | _ => none
/-- sorted of a dict of ints -/
def lKeys : List Key → Option (List Int)
  | [] => some []
  | .inl i :: ks => (lKeys ks).map (i :: ·)
  | _ => none
open Classical in
noncomputable def fSortedD : FM := ro fun ds st => match ds with
  | [d] => match dicK st d with
    | some (ks, _) => match lKeys ks with
      | some ns => if ns.length < 64 then some (.lst ((isort ns).map .int)) else none
      | none => none
    | none => none
  | _ => none
def fTuple : FM := ro fun ds st => match ds with
  | [.tpf xs] => some (.tpf xs)
  | [d] => (seqA st d).map .tup
  | _ => none
def fList : FM := ro fun ds st => match ds with
  | [d] => (seqA st d).map .lst
  | _ => none
/-- list(xs) that will be written -/
def fListM : FM := fun ds st => match ds with
  | [d] => match seqA st d with
    | some xs => some (.ref st.length, st ++ [.lst xs])
    | none => none
  | _ => none
open Classical in
noncomputable def fRepr : FM := ro fun ds st => match ds with
  | [d] => match pyOf st d with
    | some p => if Tx 16777216 60 p then some (.str p.shown) else none
    | none => none
  | _ => none
def tyName : D → Option String
  | .non => some "NoneType"
  | .bl _ => some "bool"
  | .int _ => some "int"
  | .str _ => some "str"
  | .tup _ => some "tuple"
  | .tpf _ => some "tuple"
  | .lst _ => some "list"
  | .dk _ _ => some "dict"
  | .dt _ _ => some "dict"
  | _ => none
def tyNameS (st : Store) : D → Option String
  | .ref i => match st[i]? with
    | some (.lst _) => some "list"
    | some (.dk _ _) => some "dict"
    | some (.dt _ _) => some "dict"
    | _ => none
  | d => tyName d
def fIsi : FM := ro fun ds st => match ds with
  | [d, .ty n] => match tyNameS st d with
    | some m => (kitB m n).map .bl
    | none => none
  | _ => none
open Classical in
noncomputable def fStr : FM := ro fun ds _ => match ds with
  | [.int i] => if i.natAbs.log2 < 1920 then some (.str (toString i)) else none
  | [.str z] => some (.str z)
  | _ => none
section
variable {X : Cx} {W : Wd}
theorem ro_ok {f : List D → Store → Option D} {ds : List D} {st st' : Store} {d : D} (h : ro f ds st = some (d, st')) : f ds st = some d ∧ st' = st := by
  unfold ro at h
  rw [Option.map_eq_some_iff] at h
  obtain ⟨x, h1, h2⟩ := h
  cases h2
  exact ⟨h1, rfl⟩
theorem reps1 {ι : Lay} {H : Hp} {d : D} {vs : List V} (h : Reps W ι H [d] vs) : ∃ v, vs = [v] ∧ Rep W ι H d v := by
  obtain ⟨v, r, rfl, h1, h2⟩ := h.uncons
  rw [h2.nil_of]
  exact ⟨v, rfl, h1⟩
theorem reps2 {ι : Lay} {H : Hp} {d e : D} {vs : List V} (h : Reps W ι H [d, e] vs) : ∃ v u, vs = [v, u] ∧ Rep W ι H d v ∧ Rep W ι H e u := by
  obtain ⟨v, r, rfl, h1, h2⟩ := h.uncons
  obtain ⟨u, rfl, h3⟩ := reps1 h2
  exact ⟨v, u, rfl, h1, h3⟩
theorem jc_len (hK : X.K = W.K) : CallR X (.builtin "len") (MA W fLen) := by
  intro pins s σ H xs us Q I rx ⟨ι, st, ds, d, st', r, h, e, k⟩
  replace e := ro_ok e
  obtain ⟨e, rfl⟩ := e
  split at e
  · rename_i x
    obtain ⟨v, rfl, hv⟩ := reps1 h
    split at e
    · rename_i ys q
      cases e
      obtain ⟨p, ws, rfl, h1, h2⟩ := seqA_ok r hv q
      refine call_len_seq pins s σ H _ us Q I rx ⟨p, ws, rfl, SqE hK h1, ?_⟩
      rw [← h2.length]
      exact k.now r int_rep
    · split at e
      · rename_i ks vs q
        cases e
        obtain ⟨p, ws, rfl, h1, h2, h3⟩ := dicK_ok r hv q
        refine call_lenD pins s σ H _ us Q I rx ⟨p, _, rfl, h1, ?_⟩
        have e1 : (ks.zip ws).length = ks.length := by rw [List.length_zip, ← h3.length, ← h2]; omega
        rw [e1]
        exact k.now r int_rep
      · split at e
        · rename_i ks vs q
          cases e
          obtain ⟨p, ws, rfl, h1, h2, h3⟩ := dicT_ok r hv q
          refine call_len_dT pins s σ H _ us Q I rx ⟨p, _, rfl, h1, ?_⟩
          have e1 : (ks.zip ws).length = ks.length := by rw [List.length_zip, ← h3.length, ← h2]; omega
          rw [e1]
          exact k.now r int_rep
        · split at e
          · split at e
            · rename_i hz
              cases e
              cases rep_str hv
              exact call_len_str pins s σ H _ us Q I rx ⟨_, rfl, hz, k.now r int_rep⟩
            · cases e
          · cases e
  · cases e
theorem jc_abs : CallR X (.builtin "abs") (MA W fAbs) := by
  intro pins s σ H xs us Q I rx ⟨ι, st, ds, d, st', r, h, e, k⟩
  replace e := ro_ok e
  obtain ⟨e, rfl⟩ := e
  split at e
  · cases e
    obtain ⟨v, rfl, hv⟩ := reps1 h
    cases rep_int hv
    exact call_abs pins s σ H _ us Q I rx ⟨_, rfl, k.now r int_rep⟩
  · cases e
theorem jc_int : CallR X (.type "int") (MA W fInt) := by
  intro pins s σ H xs us Q I rx ⟨ι, st, ds, d, st', r, h, e, k⟩
  replace e := ro_ok e
  obtain ⟨e, rfl⟩ := e
  split at e
  · cases e
    obtain ⟨v, rfl, hv⟩ := reps1 h
    cases rep_int hv
    exact call_int1 pins s σ H _ us Q I rx (.inl ⟨_, rfl, k.now r int_rep⟩)
  · cases e
    obtain ⟨v, rfl, hv⟩ := reps1 h
    cases rep_bl hv
    exact call_int1 pins s σ H _ us Q I rx (.inr ⟨_, rfl, k.now r int_rep⟩)
  · cases e
theorem list_ints {ι : Lay} {H : Hp} {st : Store} {d : D} {v : V} {ys : List D} {ns : List Int} (r : RelH W ι H st) (h : Rep W ι H d v) (e : seqL st d = some ys) (e2 : intsOf ys = some ns) : ∃ p, v = .ref p ∧ SqL W.K H p (ns.map V.int) := by
  obtain ⟨p, ws, rfl, h1, h2⟩ := seqL_ok r h e
  rw [intsOf_eq e2] at h2
  rw [h2.ints] at h1
  exact ⟨p, rfl, SqL.of h1⟩
theorem list_bols {ι : Lay} {H : Hp} {st : Store} {d : D} {v : V} {ys : List D} {ns : List Bool} (r : RelH W ι H st) (h : Rep W ι H d v) (e : seqL st d = some ys) (e2 : bolsOf ys = some ns) : ∃ p, v = .ref p ∧ SqL W.K H p (ns.map V.bl) := by
  obtain ⟨p, ws, rfl, h1, h2⟩ := seqL_ok r h e
  rw [bolsOf_eq e2] at h2
  have : ws = ns.map V.bl := by
    clear h1 e e2
    induction ns generalizing ws with
    | nil => exact h2.nil_of
    | cons n ns ih =>
      obtain ⟨u, q, rfl, h3, h4⟩ := h2.uncons
      rw [rep_bl h3, ih _ h4]; rfl
  rw [this] at h1
  exact ⟨p, rfl, SqL.of h1⟩
theorem jc_max (hK : X.K = W.K) (hc : X.calm = true) : CallR X (.builtin "max") (MA W fMax) := by
  intro pins s σ H xs us Q I rx ⟨ι, st, ds, d, st', r, h, e, k⟩
  replace e := ro_ok e
  obtain ⟨e, rfl⟩ := e
  split at e
  · cases e
    obtain ⟨v, u, rfl, hv, hu⟩ := reps2 h
    cases rep_int hv
    cases rep_int hu
    exact call_max2 hc pins s σ H _ us Q I rx ⟨_, _, rfl, k.now r int_rep⟩
  · obtain ⟨v, rfl, hv⟩ := reps1 h
    split at e
    · rename_i ys q
      split at e
      · rename_i ns q2
        rw [Option.map_eq_some_iff] at e
        obtain ⟨m, e1, rfl⟩ := e
        obtain ⟨p, rfl, h1⟩ := list_ints r hv q q2
        rw [List.max?_eq_some_iff] at e1
        refine cr_max hc pins s σ H _ us Q I rx ⟨p, ns, rfl, hK ▸ h1, List.length_pos_of_mem e1.1, fun m' h2 h3 => ?_⟩
        have : m' = m := Int.le_antisymm (e1.2 m' h2) (h3 m e1.1)
        rw [this]
        exact k.now r int_rep
      · cases e
    · cases e
  · cases e
theorem jc_min (hK : X.K = W.K) (hc : X.calm = true) : CallR X (.builtin "min") (MA W fMin) := by
  intro pins s σ H xs us Q I rx ⟨ι, st, ds, d, st', r, h, e, k⟩
  replace e := ro_ok e
  obtain ⟨e, rfl⟩ := e
  split at e
  · cases e
    obtain ⟨v, u, rfl, hv, hu⟩ := reps2 h
    cases rep_int hv
    cases rep_int hu
    exact call_min2 hc pins s σ H _ us Q I rx ⟨_, _, rfl, k.now r int_rep⟩
  · obtain ⟨v, rfl, hv⟩ := reps1 h
    split at e
    · rename_i ys q
      split at e
      · rename_i ns q2
        rw [Option.map_eq_some_iff] at e
        obtain ⟨m, e1, rfl⟩ := e
        obtain ⟨p, rfl, h1⟩ := list_ints r hv q q2
        rw [List.min?_eq_some_iff] at e1
        refine cr_min hc pins s σ H _ us Q I rx ⟨p, ns, rfl, hK ▸ h1, List.length_pos_of_mem e1.1, fun m' h2 h3 => ?_⟩
        have : m' = m := Int.le_antisymm (h3 m e1.1) (e1.2 m' h2)
        rw [this]
        exact k.now r int_rep
      · cases e
    · cases e
  · cases e
theorem jc_sum (hK : X.K = W.K) (hc : X.calm = true) : CallR X (.builtin "sum") (MA W fSum) := by
  intro pins s σ H xs us Q I rx ⟨ι, st, ds, d, st', r, h, e, k⟩
  replace e := ro_ok e
  obtain ⟨e, rfl⟩ := e
  split at e
  · rename_i ys
    rw [Option.map_eq_some_iff] at e
    obtain ⟨ns, e1, rfl⟩ := e
    obtain ⟨v, rfl, hv⟩ := reps1 h
    obtain ⟨p, ws, rfl, h1, h2⟩ := seqT_ok hv (xs := ys) rfl
    rw [intsOf_eq e1] at h2
    rw [h2.ints] at h1
    exact cr_sumT hc pins s σ H _ us Q I rx ⟨p, ns, rfl, SqT.of h1, k.now r int_rep⟩
  · obtain ⟨v, rfl, hv⟩ := reps1 h
    split at e
    · rename_i ys q
      rw [Option.map_eq_some_iff] at e
      obtain ⟨ns, e1, rfl⟩ := e
      obtain ⟨p, rfl, h1⟩ := list_ints r hv q e1
      exact cr_sum hc pins s σ H _ us Q I rx ⟨p, ns, rfl, hK ▸ h1, k.now r int_rep⟩
    · cases e
  · cases e
theorem jc_all (hK : X.K = W.K) (hc : X.calm = true) : CallR X (.builtin "all") (MA W fAll) := by
  intro pins s σ H xs us Q I rx ⟨ι, st, ds, d, st', r, h, e, k⟩
  replace e := ro_ok e
  obtain ⟨e, rfl⟩ := e
  split at e
  · obtain ⟨v, rfl, hv⟩ := reps1 h
    split at e
    · rename_i ys q
      rw [Option.map_eq_some_iff] at e
      obtain ⟨ns, e1, rfl⟩ := e
      obtain ⟨p, rfl, h1⟩ := list_bols r hv q e1
      exact cr_all hc pins s σ H _ us Q I rx ⟨p, ns, rfl, hK ▸ h1, k.now r bl_rep⟩
    · cases e
  · cases e
theorem jc_any (hK : X.K = W.K) (hc : X.calm = true) : CallR X (.builtin "any") (MA W fAny) := by
  intro pins s σ H xs us Q I rx ⟨ι, st, ds, d, st', r, h, e, k⟩
  replace e := ro_ok e
  obtain ⟨e, rfl⟩ := e
  split at e
  · obtain ⟨v, rfl, hv⟩ := reps1 h
    split at e
    · rename_i ys q
      rw [Option.map_eq_some_iff] at e
      obtain ⟨ns, e1, rfl⟩ := e
      obtain ⟨p, rfl, h1⟩ := list_bols r hv q e1
      exact cr_any hc pins s σ H _ us Q I rx ⟨p, ns, rfl, hK ▸ h1, k.now r bl_rep⟩
    · cases e
  · cases e
theorem isort_eq {ns ms : List Int} (p : ms.Perm ns) (w : ms.Pairwise (· ≤ ·)) : ms = isort ns := by
  have p2 : (isort ns).Perm ns := List.mergeSort_perm _ _
  have w2 : (isort ns).Pairwise (· ≤ ·) := by
    have := List.pairwise_mergeSort (le := fun a b : Int => decide (a ≤ b)) (fun a b c h1 h2 => by simp at *; omega) (fun a b => by simp; omega) ns
    exact this.imp fun h => by simpa using h
  exact (p.trans p2.symm).eq_of_pairwise (fun a b _ _ h1 h2 => Int.le_antisymm h1 h2) w w2
theorem jc_sortedL (hK : X.K = W.K) : CallR X (.builtin "sorted") (MA W fSortedL) := by
  intro pins s σ H xs us Q I rx ⟨ι, st, ds, d, st', r, h, e, k⟩
  replace e := ro_ok e
  obtain ⟨e, rfl⟩ := e
  split at e
  · obtain ⟨v, rfl, hv⟩ := reps1 h
    split at e
    · rename_i ys q
      rw [Option.map_eq_some_iff] at e
      obtain ⟨ns, e1, rfl⟩ := e
      obtain ⟨p, rfl, h1⟩ := list_ints r hv q e1
      refine cr_sortedI pins s σ H _ us Q I rx ⟨p, ns, rfl, hK ▸ h1, fun ms l pm w hl => ?_⟩
      rw [isort_eq pm w]
      exact k.lst r (Reps.map fun x _ => int_rep) hl
    · cases e
  · cases e
theorem lKeys_eq : ∀ {ks : List Key} {ns : List Int}, lKeys ks = some ns → ks = ns.map Sum.inl
  | [], _, h => by cases h; rfl
  | k :: ks, ns, h => by
    cases k with
    | inl i =>
      simp only [lKeys, Option.map_eq_some_iff] at h
      obtain ⟨ms, h1, rfl⟩ := h
      rw [lKeys_eq h1]; rfl
    | inr x => simp [lKeys] at h
theorem jc_sortedD (hc : X.calm = true) : CallR X (.builtin "sorted") (MA W fSortedD) := by
  intro pins s σ H xs us Q I rx ⟨ι, st, ds, d, st', r, h, e, k⟩
  replace e := ro_ok e
  obtain ⟨e, rfl⟩ := e
  split at e
  · obtain ⟨v, rfl, hv⟩ := reps1 h
    split at e
    · rename_i ks vs q
      split at e
      · rename_i ns q2
        split at e
        · rename_i hz
          cases e
          obtain ⟨p, ws, rfl, h1, h2, h3⟩ := dicK_ok r hv q
          refine call_sortedDI hc pins s σ H _ us Q I rx ⟨p, _, ns, rfl, .inl h1, ?_, hz, fun ms l pm w hl => ?_⟩
          · rw [← lKeys_eq q2]
            exact List.map_fst_zip (by rw [← h3.length, ← h2]; exact Nat.le_refl _)
          · rw [isort_eq pm w]
            exact k.lst r (Reps.map fun x _ => int_rep) hl
        · cases e
      · cases e
    · cases e
  · cases e
noncomputable def fSorted : FM := fun ds st => match fSortedL ds st with
  | some r => some r
  | none => fSortedD ds st
theorem jc_sorted (hK : X.K = W.K) (hc : X.calm = true) : CallR X (.builtin "sorted") (MA W fSorted) := by
  intro pins s σ H xs us Q I rx ⟨ι, st, ds, d, st', r, h, e, k⟩
  unfold fSorted at e
  split at e
  · rename_i r2 q
    cases e
    exact jc_sortedL (W := W) hK pins s σ H xs us Q I rx ⟨ι, st, ds, d, st', r, h, q, k⟩
  · exact jc_sortedD (W := W) hc pins s σ H xs us Q I rx ⟨ι, st, ds, d, st', r, h, e, k⟩
theorem jc_tuple (hK : X.K = W.K) : CallR X (.type "tuple") (MA W fTuple) := by
  intro pins s σ H xs us Q I rx ⟨ι, st, ds, d, st', r, h, e, k⟩
  replace e := ro_ok e
  obtain ⟨e, rfl⟩ := e
  split at e
  · rename_i zs
    obtain ⟨v, rfl, hv⟩ := reps1 h
    cases e
    obtain ⟨p, o, ws, rfl, _, _, h1, h2⟩ := tpf_ok hv
    exact call_tuple_of pins s σ H _ us Q I rx ⟨p, ws, rfl, .inr ⟨hK ▸ h1, k.now r hv⟩⟩
  · rename_i x nx
    obtain ⟨v, rfl, hv⟩ := reps1 h
    rw [Option.map_eq_some_iff] at e
    obtain ⟨ys, e1, rfl⟩ := e
    cases hT : seqT x with
    | none =>
      cases hF : isTpf x with
      | true =>
        cases x <;> simp only [isTpf] at hF <;> first | exact (nx _ rfl).elim | cases hF
      | false =>
      obtain ⟨p, ws, rfl, h1, h2⟩ := seqA_list r hv e1 hT hF
      exact call_tuple_of pins s σ H _ us Q I rx ⟨p, ws, rfl, .inl ⟨hK ▸ h1, fun l hl => k.tup r h2 hl⟩⟩
    | some zs =>
      cases x with
      | tup as =>
        cases e1
        obtain ⟨p, ws, rfl, h1, h2⟩ := seqT_ok hv (xs := ys) rfl
        exact call_tuple_of pins s σ H _ us Q I rx ⟨p, ws, rfl, .inr ⟨SqT.of h1, k.now r hv⟩⟩
      | _ => cases hT
  · cases e
theorem jc_list (hK : X.K = W.K) : CallR X (.type "list") (MA W fList) := by
  intro pins s σ H xs us Q I rx ⟨ι, st, ds, d, st', r, h, e, k⟩
  replace e := ro_ok e
  obtain ⟨e, rfl⟩ := e
  split at e
  · obtain ⟨v, rfl, hv⟩ := reps1 h
    rw [Option.map_eq_some_iff] at e
    obtain ⟨ys, e1, rfl⟩ := e
    obtain ⟨p, ws, rfl, h1, h2⟩ := seqA_ok r hv e1
    exact call_list_of pins s σ H _ us Q I rx ⟨p, ws, rfl, SqE hK h1, fun l hl => k.lst r h2 hl⟩
  · cases e
theorem jc_listM (hK : X.K = W.K) : CallR X (.type "list") (MA W fListM) := by
  intro pins s σ H xs us Q I rx ⟨ι, st, ds, d, st', r, h, e, k⟩
  unfold fListM at e
  split at e
  · obtain ⟨v, rfl, hv⟩ := reps1 h
    split at e
    · rename_i ys q
      cases e
      obtain ⟨p, ws, rfl, h1, h2⟩ := seqA_ok r hv q
      exact call_list_of pins s σ H _ us Q I rx ⟨p, ws, rfl, SqE hK h1, fun l hl => k.lstM r h2 hl⟩
    · cases e
  · cases e
theorem jc_repr {n : Nat} (hK : X.K = W.K) (hg : X.A.guards = some []) (hr : Room n X.A) : CallR X (.builtin "repr") (MA W fRepr) := by
  intro pins s σ H xs us Q I rx ⟨ι, st, ds, d, st', r, h, e, k⟩
  replace e := ro_ok e
  obtain ⟨e, rfl⟩ := e
  split at e
  · obtain ⟨v, rfl, hv⟩ := reps1 h
    split at e
    · rename_i p q
      split at e
      · rename_i tx
        cases e
        exact call_repr hg hr pins s σ H _ us Q I rx ⟨v, p, rfl, hK ▸ pyOf_ok r q hv, tx, k.now r str_rep⟩
      · cases e
    · cases e
  · cases e
theorem tyName_ok {ι : Lay} {H : Hp} {st : Store} {d : D} {v : V} {m : String} (r : RelH W ι H st) (h : Rep W ι H d v) (e : tyNameS st d = some m) : TyX W.K H v (.type m) := by
  cases d with
  | non => cases e; cases rep_non h; exact .base .non
  | bl b => cases e; cases rep_bl h; exact .base (.bl b)
  | int b => cases e; cases rep_int h; exact .base (.int b)
  | str b => cases e; cases rep_str h; exact .base (.str b)
  | tup ds => cases e; simp only [Rep] at h; obtain ⟨a, rfl, vs, h1, _⟩ := h; exact .base (.tup h1)
  | tpf ds => cases e; obtain ⟨a, o, vs, rfl, _, h1, _⟩ := tpf_ok h; exact .fTuple h1
  | lst ds => cases e; simp only [Rep] at h; obtain ⟨a, rfl, _, vs, h1, _⟩ := h; exact .base (.lst h1)
  | dk ks ds => cases e; simp only [Rep] at h; obtain ⟨a, rfl, _, vs, h1, _⟩ := h; exact .base (.dK h1)
  | dt ks ds => cases e; simp only [Rep] at h; obtain ⟨a, rfl, _, vs, h1, _⟩ := h; exact .base (.dT h1)
  | ref i =>
    obtain ⟨a, c, rfl, _, h2, h3⟩ := rep_ref r h
    simp only [tyNameS, h2] at e
    cases c with
    | lst ds => cases e; obtain ⟨vs, h1, _⟩ := h3; exact .base (.lst h1)
    | dk ks ds => cases e; obtain ⟨vs, h1, _⟩ := h3; exact .base (.dK h1)
    | dt ks ds => cases e; obtain ⟨vs, h1, _⟩ := h3; exact .base (.dT h1)
    | _ => cases e
  | _ => cases e
theorem jc_isi (hK : X.K = W.K) : CallR X (.builtin "isinstance") (MA W fIsi) := by
  intro pins s σ H xs us Q I rx ⟨ι, st, ds, d, st', r, h, e, k⟩
  replace e := ro_ok e
  obtain ⟨e, rfl⟩ := e
  split at e
  · rename_i x n
    obtain ⟨v, u, rfl, hv, hu⟩ := reps2 h
    have : u = .ty n := by simpa only [Rep] using hu
    subst this
    split at e
    · rename_i m q
      rw [Option.map_eq_some_iff] at e
      obtain ⟨b, e1, rfl⟩ := e
      have ty := tyName_ok r hv q
      rw [← hK] at ty
      exact call_isi pins s σ H _ us Q I rx ⟨v, _, _, _, b, rfl, .ty n, ty, kit_ty e1, k.now r bl_rep⟩
    · cases e
  · cases e
theorem jc_str : CallR X (.type "str") (MA W fStr) := by
  intro pins s σ H xs us Q I rx ⟨ι, st, ds, d, st', r, h, e, k⟩
  replace e := ro_ok e
  obtain ⟨e, rfl⟩ := e
  split at e
  · split at e
    · rename_i hz
      cases e
      obtain ⟨v, rfl, hv⟩ := reps1 h
      cases rep_int hv
      exact call_str_int pins s σ H _ us Q I rx ⟨_, rfl, hz, k.now r str_rep⟩
    · cases e
  · cases e
    obtain ⟨v, rfl, hv⟩ := reps1 h
    cases rep_str hv
    exact SkE.call_str_str pins s σ H _ us Q I rx ⟨_, rfl, k.now r str_rep⟩
  · cases e
end
/-! ### methods of builtin types -/
abbrev MM := D → List D → Store → Option (D × Store)
def MMt (W : Wd) (F : MM) : V → List V → Hp → VK → Prop := fun x vs H Q => ∃ ι st o as d st', RelH W ι H st ∧ Rep W ι H o x ∧ Reps W ι H as vs ∧ F o as st = some (d, st') ∧ OkE W ι H d st' Q
def tyD (T : String) (st : Store) (o : D) : Prop := tyNameS st o = some T ∧ T ≠ "tuple" ∧ T ≠ "NoneType" ∧ T ≠ "bool"
open Classical in
noncomputable def eBM (T : String) (F : MM) (mo : EM) (ma : AM) : EM := fun env st => match mo env st with
  | some (o, s1) => if tyD T s1 o then match ma env s1 with
    | some (xs, s2) => F o xs s2
    | none => none
    else none
  | none => none
def mAppend : MM := fun o as st => match o, as with
  | .ref n, [y] => match st[n]? with
    | some (.lst xs) => if xs.length < sizeLine then some (.non, st.set n (.lst (xs ++ [y]))) else none
    | _ => none
  | _, _ => none
def mExtend : MM := fun o as st => match o, as with
  | .ref n, [y] => match st[n]?, seqL st y with
    | some (.lst xs), some ys => if xs.length + ys.length ≤ sizeLine then some (.non, st.set n (.lst (xs ++ ys))) else none
    | _, _ => none
  | _, _ => none
def mPop : MM := fun o as st => match o, as with
  | .ref n, [] => match st[n]? with
    | some (.lst xs) => match xs[xs.length - 1]? with
      | some y => some (y, st.set n (.lst xs.dropLast))
      | none => none
    | _ => none
  | .ref n, [.int i] => match st[n]? with
    | some (.lst xs) => if -(2 ^ 63) ≤ i ∧ i < 2 ^ 63 then match seqIndex? i xs.length with
      | some k => match xs[k]? with
        | some y => some (y, st.set n (.lst (xs.eraseIdx k)))
        | none => none
      | none => none
      else none
    | _ => none
  | _, _ => none
section
variable {X : Cx} {W : Wd} {o e : Expr} {es : List Expr} {mo : EM} {ma : AM} {F : MM} {name : Str} {apos cpos : Pos} {Ty id : String}
theorem tyD_ok {ι : Lay} {H : Hp} {st : Store} {d : D} {v : V} {T : String} (r : RelH W ι H st) (h : Rep W ι H d v) (e : tyD T st d) : tyV W.K T v H := by
  obtain ⟨e, n1, n2, n3⟩ := e
  cases d with
  | non => cases e; exact absurd rfl n2
  | bl b => cases e; exact absurd rfl n3
  | int b => cases e; cases rep_int h; exact rfl
  | str b => cases e; cases rep_str h; exact rfl
  | tup ds => cases e; exact absurd rfl n1
  | tpf ds => cases e; exact absurd rfl n1
  | lst ds => cases e; simp only [Rep] at h; obtain ⟨a, rfl, _, vs, h1, _⟩ := h; exact .inl ⟨rfl, vs, SqL.of h1⟩
  | dk ks ds => cases e; simp only [Rep] at h; obtain ⟨a, rfl, _, vs, h1, _⟩ := h; exact .inr (.inr (.inl ⟨rfl, .inl ⟨_, h1⟩⟩))
  | dt ks ds => cases e; simp only [Rep] at h; obtain ⟨a, rfl, _, vs, h1, _⟩ := h; exact .inr (.inr (.inl ⟨rfl, .inr ⟨_, h1⟩⟩))
  | ref i =>
    obtain ⟨a, c, rfl, _, h2, h3⟩ := rep_ref r h
    simp only [tyNameS, h2] at e
    cases c with
    | lst ds => cases e; obtain ⟨vs, h1, _⟩ := h3; exact .inl ⟨rfl, vs, SqL.of h1⟩
    | dk ks ds => cases e; obtain ⟨vs, h1, _⟩ := h3; exact .inr (.inr (.inl ⟨rfl, .inl ⟨_, h1⟩⟩))
    | dt ks ds => cases e; obtain ⟨vs, h1, _⟩ := h3; exact .inr (.inr (.inl ⟨rfl, .inr ⟨_, h1⟩⟩))
    | _ => cases e
  | _ => cases e
theorem j_bm (hK : X.K = W.K) (pa : PlainAttrs Ty) (slot : Slot Ty name id) (hty : typeOf (.builtin id) = pure (.type "method_descriptor")) (hm : MtR X id (MMt W F)) (ho : PE X o (T W mo)) (ha : PA X (e :: es) (TAs W ma))
    (hbase : attributeBase o name X.env (eval o X.env) = eval o X.env := by rfl)
    (hfew : ((backTo cpos (starEach (e :: es) X.env)).all (fun x => !x.1) && (backToKw cpos (keywordEach [] X.env)).all (fun x => x.1.isSome)
      && decide ((e :: es).length + ([] : List Keyword).length + (if ([] : List Keyword).isEmpty then 0 else 1) < 30)) = true := by rfl)
    (hline : (apos.endLine == cpos.line) = true := by rfl) (hs : starEach (e :: es) X.env = (false, eval e X.env) :: starEach es X.env := by rfl) (hplain : (backTo cpos (starEach es X.env)).any (·.1) = false := by rfl) :
    PE X (.Call (.Attribute o name apos) (e :: es) [] cpos) (T W (eBM Ty F mo ma)) := (pe_bm pa slot hty hm ho ha hbase hfew hline hs hplain).imp fun σ H Q ⟨ι, st, env, d, st', r, n, e, k⟩ => by
  unfold eBM at e
  split at e
  · rename_i x s1 e1
    split at e
    · rename_i ht
      split at e
      · rename_i xs s2 e2
        exact T.of r n e1 fun v ι1 H1 g1 r1 p1 => ⟨hK ▸ tyD_ok r1 p1 ht, TA.of r1 (n.grow g1) e2 fun vs ι2 H2 g2 r2 p2 => ⟨ι2, s2, x, xs, d, st', r2, Rep.grow g2 _ _ p1, p2, e, k.go (g1.trans g2)⟩⟩
      · cases e
    · cases e
  · cases e
theorem j_bm0 (hK : X.K = W.K) (pa : PlainAttrs Ty) (slot : Slot Ty name id) (hty : typeOf (.builtin id) = pure (.type "method_descriptor")) (hm : MtR X id (MMt W F)) (ho : PE X o (T W mo))
    (hbase : attributeBase o name X.env (eval o X.env) = eval o X.env := by rfl) (hline : (apos.endLine == cpos.line) = true := by rfl) : PE X (.Call (.Attribute o name apos) [] [] cpos) (T W (eBM Ty F mo aNil)) := (pe_bm0 pa slot hty hm ho hbase hline).imp fun σ H Q ⟨ι, st, env, d, st', r, n, e, k⟩ => by
  unfold eBM at e
  split at e
  · rename_i x s1 e1
    split at e
    · rename_i ht
      split at e
      · rename_i xs s2 e2
        cases e2
        exact T.of r n e1 fun v ι1 H1 g1 r1 p1 => ⟨hK ▸ tyD_ok r1 p1 ht, ⟨ι1, s1, x, [], d, st', r1, p1, Reps.nil, e, k.go g1⟩⟩
      · cases e
    · cases e
  · cases e
theorem jm_append : MtR X "list.append" (MMt W mAppend) := by
  intro pins s σ H x xs v us Q I rx rxs ⟨ι, st, o, as, d, st', r, ho, ha, e, k⟩
  unfold mAppend at e
  split at e
  · rename_i n y
    obtain ⟨p, c, rfl, h1, h2, h3⟩ := rep_ref r ho
    obtain ⟨w, rfl, hw⟩ := reps1 ha
    rw [h2] at e
    obtain ⟨z, hz, mz⟩ := h3.there
    split at e
    · rename_i ys q
      cases q
      split at e
      · rename_i hl
        cases e
        obtain ⟨vs, h4, h5⟩ := h3
        refine mt_append pins s σ H _ _ v us Q I rx rxs ⟨p, vs, w, rfl, rfl, h4, by rw [← h5.length]; exact hl, ?_⟩
        have g : Grow ι H ι (upd H p (.lst (vs ++ [w]))) := Grow.put h1 hz mz
        exact k _ _ _ g (r.put h1 ⟨_, upd_same, Reps.grow g _ _ (h5.append (Reps.cons hw Reps.nil))⟩) non_rep
      · cases e
    · cases e
  · cases e
theorem jm_extend : MtR X "list.extend" (MMt W mExtend) := by
  intro pins s σ H x xs v us Q I rx rxs ⟨ι, st, o, as, d, st', r, ho, ha, e, k⟩
  unfold mExtend at e
  split at e
  · rename_i n y
    obtain ⟨p, c, rfl, h1, h2, h3⟩ := rep_ref r ho
    obtain ⟨w, rfl, hw⟩ := reps1 ha
    rw [h2] at e
    obtain ⟨z, hz, mz⟩ := h3.there
    split at e
    · rename_i ys zs q q2
      cases q
      split at e
      · rename_i hl
        cases e
        obtain ⟨vs, h4, h5⟩ := h3
        obtain ⟨p2, vs2, rfl, h6, h7⟩ := seqL_ok r hw q2
        refine mt_extend pins s σ H _ _ v us Q I rx rxs ⟨p, p2, vs, vs2, rfl, rfl, h4, h6, by rw [← h5.length, ← h7.length]; exact hl, ?_⟩
        have g : Grow ι H ι (upd H p (.lst (vs ++ vs2))) := Grow.put h1 hz mz
        exact k _ _ _ g (r.put h1 ⟨_, upd_same, Reps.grow g _ _ (h5.append h7)⟩) non_rep
      · cases e
    · cases e
  · cases e
theorem Reps.dropLast {ι : Lay} {H : Hp} {ds : List D} {vs : List V} (h : Reps W ι H ds vs) : Reps W ι H ds.dropLast vs.dropLast := by
  rw [List.dropLast_eq_take, List.dropLast_eq_take, h.length]
  exact h.take _
theorem Reps.eraseIdx {ι : Lay} {H : Hp} {ds : List D} {vs : List V} (i : Nat) (h : Reps W ι H ds vs) : Reps W ι H (ds.eraseIdx i) (vs.eraseIdx i) := by
  rw [List.eraseIdx_eq_take_drop_succ, List.eraseIdx_eq_take_drop_succ]
  exact (h.take i).append (h.drop (i + 1))
theorem jm_pop : MtR X "list.pop" (MMt W mPop) := by
  intro pins s σ H x xs v us Q I rx rxs ⟨ι, st, o, as, d, st', r, ho, ha, e, k⟩
  unfold mPop at e
  split at e
  · rename_i n
    obtain ⟨p, c, rfl, h1, h2, h3⟩ := rep_ref r ho
    have := ha.nil_of
    subst this
    rw [h2] at e
    obtain ⟨z, hz, mz⟩ := h3.there
    split at e
    · rename_i ys q
      cases q
      split at e
      · rename_i y q
        cases e
        obtain ⟨vs, h4, h5⟩ := h3
        obtain ⟨w, h6, h7⟩ := h5.get q
        refine mt_pop pins s σ H _ _ v us Q I rx rxs ⟨p, vs, w, rfl, rfl, h4, by rw [← h5.length]; exact h6, ?_⟩
        have g : Grow ι H ι (upd H p (.lst vs.dropLast)) := Grow.put h1 hz mz
        exact k _ _ _ g (r.put h1 ⟨_, upd_same, Reps.grow g _ _ h5.dropLast⟩) (Rep.grow g _ _ h7)
      · cases e
    · cases e
  · rename_i n i
    obtain ⟨p, c, rfl, h1, h2, h3⟩ := rep_ref r ho
    obtain ⟨w, rfl, hw⟩ := reps1 ha
    cases rep_int hw
    rw [h2] at e
    obtain ⟨z, hz, mz⟩ := h3.there
    split at e
    · rename_i ys q
      cases q
      split at e
      · rename_i hb
        split at e
        · rename_i j q
          split at e
          · rename_i y q1
            cases e
            obtain ⟨vs, h4, h5⟩ := h3
            obtain ⟨w, h6, h7⟩ := h5.get q1
            refine mt_popAt pins s σ H _ _ v us Q I rx rxs ⟨p, vs, i, j, w, rfl, rfl, h4, hb.1, hb.2, by rw [← h5.length]; exact q, h6, ?_⟩
            have g : Grow ι H ι (upd H p (.lst (vs.eraseIdx j))) := Grow.put h1 hz mz
            exact k _ _ _ g (r.put h1 ⟨_, upd_same, Reps.grow g _ _ (h5.eraseIdx j)⟩) (Rep.grow g _ _ h7)
          · cases e
        · cases e
      · cases e
    · cases e
  · cases e
end
end My

namespace My
open PySem PySem.Spec PyProof.Rows L2

/-! ### mirrors by what is wanted of them -/
def EvE (m : EM) (env : Env) (st : Store) (Q : D → Store → Prop) : Prop := ∃ d st', m env st = some (d, st') ∧ Q d st'
def EvB (m : TM) (env : Env) (st : Store) (Q : Bool → Store → Prop) : Prop := ∃ d st', m env st = some (d, st') ∧ Q d st'
def EvA (m : AM) (env : Env) (st : Store) (Q : List D → Store → Prop) : Prop := ∃ d st', m env st = some (d, st') ∧ Q d st'
def EvS (m : SM) (env : Env) (st : Store) (Q : Out → Store → Prop) : Prop := ∃ d st', m env st = some (d, st') ∧ Q d st'
def EvF (F : FM) (ds : List D) (st : Store) (Q : D → Store → Prop) : Prop := ∃ d st', F ds st = some (d, st') ∧ Q d st'
def EvO (m : OM) (env : Env) (st : Store) (Q : Option Int → Store → Prop) : Prop := ∃ d st', m env st = some (d, st') ∧ Q d st'
def EvI (m : IM) (env : Env) (st : Store) (Q : List D → (Store → Prop) → Store → Prop) : Prop := ∃ ds gd st', m env st = some (ds, gd, st') ∧ Q ds gd st'
def EvW (r : Option (Out × Store)) (Q : Out → Store → Prop) : Prop := ∃ o st', r = some (o, st') ∧ Q o st'
def EvL (r : Option (List D × Store)) (Q : List D → Store → Prop) : Prop := ∃ o st', r = some (o, st') ∧ Q o st'
section
variable {env : Env} {st : Store} {Q : D → Store → Prop} {QB : Bool → Store → Prop} {QA : List D → Store → Prop} {QS : Out → Store → Prop}
theorem EvF.mono {F : FM} {ds : List D} {Q' : D → Store → Prop} (h : EvF F ds st Q) (k : ∀ d s, Q d s → Q' d s) : EvF F ds st Q' := by
  obtain ⟨d, s, e, q⟩ := h
  exact ⟨d, s, e, k d s q⟩
theorem EvS.mono {m : SM} {Q' : Out → Store → Prop} (h : EvS m env st QS) (k : ∀ d s, QS d s → Q' d s) : EvS m env st Q' := by
  obtain ⟨d, s, e, q⟩ := h
  exact ⟨d, s, e, k d s q⟩
theorem EvE.mono {m : EM} {Q' : D → Store → Prop} (h : EvE m env st Q) (k : ∀ d s, Q d s → Q' d s) : EvE m env st Q' := by
  obtain ⟨d, s, e, q⟩ := h
  exact ⟨d, s, e, k d s q⟩
theorem ev_var {i : Nat} : EvE (eVar i) env st Q ↔ ∃ d, env[i]? = some (some d) ∧ Q d st := by
  unfold EvE eVar
  constructor
  · rintro ⟨d, s, e, q⟩
    split at e
    · rename_i d' h
      cases e
      exact ⟨_, h, q⟩
    · cases e
  · rintro ⟨d, e, q⟩
    exact ⟨d, st, by rw [e], q⟩
theorem ev_c {d : D} : EvE (eC d) env st Q ↔ Q d st := by
  unfold EvE eC
  constructor
  · rintro ⟨d, s, e, q⟩
    cases e
    exact q
  · exact fun q => ⟨_, _, rfl, q⟩
theorem ev_un {f : D → Store → Option D} {a : EM} : EvE (eUn f a) env st Q ↔ EvE a env st fun x s1 => ∃ z, f x s1 = some z ∧ Q z s1 := by
  unfold EvE eUn
  constructor
  · rintro ⟨d, s, e, q⟩
    split at e
    · rename_i x s1 h
      rw [Option.map_eq_some_iff] at e
      obtain ⟨z, e1, e2⟩ := e
      cases e2
      exact ⟨x, _, h, _, e1, q⟩
    · cases e
  · rintro ⟨x, s1, h, z, e, q⟩
    exact ⟨z, s1, by rw [h]; simp only [e, Option.map_some], q⟩
theorem ev_op {f : D → D → Store → Option D} {a b : EM} : EvE (eOp f a b) env st Q ↔ EvE a env st fun x s1 => EvE b env s1 fun y s2 => ∃ z, f x y s2 = some z ∧ Q z s2 := by
  unfold EvE eOp
  constructor
  · rintro ⟨d, s, e, q⟩
    split at e
    · rename_i x s1 h
      split at e
      · rename_i y s2 h2
        rw [Option.map_eq_some_iff] at e
        obtain ⟨z, e1, e2⟩ := e
        cases e2
        exact ⟨x, s1, h, y, _, h2, _, e1, q⟩
      · cases e
    · cases e
  · rintro ⟨x, s1, h, y, s2, h2, z, e, q⟩
    exact ⟨z, s2, by rw [h]; simp only [h2, e, Option.map_some], q⟩
theorem ev_nil : EvA aNil env st QA ↔ QA [] st := by
  unfold EvA aNil
  constructor
  · rintro ⟨d, s, e, q⟩
    cases e
    exact q
  · exact fun q => ⟨_, _, rfl, q⟩
theorem ev_cons {a : EM} {r : AM} : EvA (aCons a r) env st QA ↔ EvE a env st fun x s1 => EvA r env s1 fun xs s2 => QA (x :: xs) s2 := by
  unfold EvA EvE aCons
  constructor
  · rintro ⟨d, s, e, q⟩
    split at e
    · rename_i x s1 h
      split at e
      · rename_i y s2 h2
        cases e
        exact ⟨x, s1, h, y, _, h2, q⟩
      · cases e
    · cases e
  · rintro ⟨x, s1, h, y, s2, h2, q⟩
    exact ⟨_, s2, by rw [h]; simp only [h2], q⟩
theorem ev_call {F : FM} {a : AM} : EvE (eCall F a) env st Q ↔ EvA a env st fun xs s1 => EvF F xs s1 Q := by
  unfold EvE EvA EvF eCall
  constructor
  · rintro ⟨d, s, e, q⟩
    split at e
    · rename_i x s1 h
      exact ⟨x, s1, h, d, s, e, q⟩
    · cases e
  · rintro ⟨x, s1, h, d, s, e, q⟩
    exact ⟨d, s, by rw [h]; exact e, q⟩
theorem ev_callD {n : Nat} {F : FM} {dds : List D} {a : AM} : EvE (eCallD n F dds a) env st Q ↔ EvA a env st fun xs s1 => (xs ++ dds).length = n ∧ EvF F (xs ++ dds) s1 Q := by
  unfold EvE EvA EvF eCallD
  constructor
  · rintro ⟨d, s, e, q⟩
    split at e
    · rename_i x s1 h
      split at e
      · rename_i hl
        exact ⟨x, s1, h, hl, d, s, e, q⟩
      · cases e
    · cases e
  · rintro ⟨x, s1, h, hl, d, s, e, q⟩
    exact ⟨d, s, by rw [h]; simp only [if_pos hl]; exact e, q⟩
theorem ev_callN {n j m : Nat} {F : FM} {g : List D → List D → List D} {a b : AM} : EvE (eCallN n j m F g a b) env st Q ↔ EvA a env st fun xs s1 => EvA b env s1 fun zs s2 => (xs.length = j ∧ zs.length = m ∧ (g xs zs).length = n) ∧ EvF F (g xs zs) s2 Q := by
  unfold EvE EvA EvF eCallN
  constructor
  · rintro ⟨d, s, e, q⟩
    split at e
    · rename_i x s1 h
      split at e
      · rename_i y s2 h2
        split at e
        · rename_i hl
          exact ⟨x, s1, h, y, s2, h2, hl, d, s, e, q⟩
        · cases e
      · cases e
    · cases e
  · rintro ⟨x, s1, h, y, s2, h2, hl, d, s, e, q⟩
    exact ⟨d, s, by rw [h]; simp only [h2, if_pos hl]; exact e, q⟩
theorem ev_tup {a : AM} : EvE (eTup a) env st Q ↔ EvA a env st fun xs s1 => xs.length ≤ sizeLine ∧ Q (.tup xs) s1 := by
  unfold EvE EvA eTup
  constructor
  · rintro ⟨d, s, e, q⟩
    split at e
    · rename_i x s1 h
      split at e
      · rename_i hl
        cases e
        exact ⟨x, _, h, hl, q⟩
      · cases e
    · cases e
  · rintro ⟨x, s1, h, hl, q⟩
    exact ⟨_, _, by rw [h]; simp only [if_pos hl], q⟩
theorem ev_lst {a : AM} : EvE (eLst a) env st Q ↔ EvA a env st fun xs s1 => xs.length ≤ sizeLine ∧ Q (.lst xs) s1 := by
  unfold EvE EvA eLst
  constructor
  · rintro ⟨d, s, e, q⟩
    split at e
    · rename_i x s1 h
      split at e
      · rename_i hl
        cases e
        exact ⟨x, _, h, hl, q⟩
      · cases e
    · cases e
  · rintro ⟨x, s1, h, hl, q⟩
    exact ⟨_, _, by rw [h]; simp only [if_pos hl], q⟩
theorem ev_lstM {a : AM} : EvE (eLstM a) env st Q ↔ EvA a env st fun xs s1 => xs.length ≤ sizeLine ∧ Q (.ref s1.length) (s1 ++ [.lst xs]) := by
  unfold EvE EvA eLstM
  constructor
  · rintro ⟨d, s, e, q⟩
    split at e
    · rename_i x s1 h
      split at e
      · rename_i hl
        cases e
        exact ⟨x, s1, h, hl, q⟩
      · cases e
    · cases e
  · rintro ⟨x, s1, h, hl, q⟩
    exact ⟨_, _, by rw [h]; simp only [if_pos hl], q⟩
theorem ev_dkM : EvE eDkM env st Q ↔ Q (.ref st.length) (st ++ [.dk [] []]) := by
  unfold EvE eDkM
  constructor
  · rintro ⟨d, s, e, q⟩
    cases e
    exact q
  · exact fun q => ⟨_, _, rfl, q⟩
theorem ev_dtM : EvE eDtM env st Q ↔ Q (.ref st.length) (st ++ [.dt [] []]) := by
  unfold EvE eDtM
  constructor
  · rintro ⟨d, s, e, q⟩
    cases e
    exact q
  · exact fun q => ⟨_, _, rfl, q⟩
theorem ev_bE {a : EM} : EvB (bE a) env st QB ↔ EvE a env st fun x s1 => ∃ b, x = .bl b ∧ QB b s1 := by
  unfold EvB EvE bE
  constructor
  · rintro ⟨d, s, e, q⟩
    split at e
    · rename_i x s1 h
      cases e
      exact ⟨_, _, h, _, rfl, q⟩
    · cases e
  · rintro ⟨x, s1, h, b, rfl, q⟩
    exact ⟨b, s1, by rw [h], q⟩
theorem ev_bAnd {a b : TM} : EvB (bAnd a b) env st QB ↔ EvB a env st fun c s1 => if c = true then EvB b env s1 QB else QB false s1 := by
  unfold EvB bAnd
  constructor
  · rintro ⟨d, s, e, q⟩
    rcases h : a env st with _ | ⟨c, s1⟩
    · rw [h] at e; cases e
    · rw [h] at e
      cases c with
      | true => exact ⟨true, s1, rfl, (if_pos rfl).mpr ⟨d, s, e, q⟩⟩
      | false => cases e; exact ⟨false, s, rfl, (if_neg Bool.false_ne_true).mpr q⟩
  · rintro ⟨c, s1, h, q⟩
    rw [h]
    cases c with
    | true => rw [if_pos rfl] at q; exact q
    | false => rw [if_neg Bool.false_ne_true] at q; exact ⟨false, s1, rfl, q⟩
theorem ev_bOr {a b : TM} : EvB (bOr a b) env st QB ↔ EvB a env st fun c s1 => if c = true then QB true s1 else EvB b env s1 QB := by
  unfold EvB bOr
  constructor
  · rintro ⟨d, s, e, q⟩
    rcases h : a env st with _ | ⟨c, s1⟩
    · rw [h] at e; cases e
    · rw [h] at e
      cases c with
      | false => exact ⟨false, s1, rfl, (if_neg Bool.false_ne_true).mpr ⟨d, s, e, q⟩⟩
      | true => cases e; exact ⟨true, s, rfl, (if_pos rfl).mpr q⟩
  · rintro ⟨c, s1, h, q⟩
    rw [h]
    cases c with
    | false => rw [if_neg Bool.false_ne_true] at q; exact q
    | true => rw [if_pos rfl] at q; exact ⟨true, s1, rfl, q⟩
theorem ev_bNot {a : TM} : EvB (bNot a) env st QB ↔ EvB a env st fun c s1 => QB (!c) s1 := by
  unfold EvB bNot
  constructor
  · rintro ⟨d, s, e, q⟩
    split at e
    · rename_i x s1 h
      cases e
      exact ⟨_, _, h, q⟩
    · cases e
  · rintro ⟨c, s1, h, q⟩
    exact ⟨_, s1, by rw [h], q⟩
theorem ev_bYes : EvB bYes env st QB ↔ QB true st := by
  unfold EvB bYes
  constructor
  · rintro ⟨d, s, e, q⟩
    cases e
    exact q
  · exact fun q => ⟨_, _, rfl, q⟩
theorem ev_eAnd {a b : EM} : EvE (eAnd a b) env st Q ↔ EvE a env st fun x s1 => ∃ c, x = .bl c ∧ if c = true then EvE b env s1 Q else Q (.bl false) s1 := by
  unfold EvE eAnd
  constructor
  · rintro ⟨d, s, e, q⟩
    split at e
    · rename_i s1 h
      exact ⟨_, s1, h, true, rfl, (if_pos rfl).mpr ⟨d, s, e, q⟩⟩
    · rename_i s1 h
      cases e
      exact ⟨_, _, h, false, rfl, (if_neg Bool.false_ne_true).mpr q⟩
    · cases e
  · rintro ⟨x, s1, h, c, rfl, q⟩
    rw [h]
    cases c with
    | true => rw [if_pos rfl] at q; exact q
    | false => rw [if_neg Bool.false_ne_true] at q; exact ⟨_, s1, rfl, q⟩
theorem ev_eOr {a b : EM} : EvE (eOr a b) env st Q ↔ EvE a env st fun x s1 => ∃ c, x = .bl c ∧ if c = true then Q (.bl true) s1 else EvE b env s1 Q := by
  unfold EvE eOr
  constructor
  · rintro ⟨d, s, e, q⟩
    split at e
    · rename_i s1 h
      exact ⟨_, s1, h, false, rfl, (if_neg Bool.false_ne_true).mpr ⟨d, s, e, q⟩⟩
    · rename_i s1 h
      cases e
      exact ⟨_, _, h, true, rfl, (if_pos rfl).mpr q⟩
    · cases e
  · rintro ⟨x, s1, h, c, rfl, q⟩
    rw [h]
    cases c with
    | false => rw [if_neg Bool.false_ne_true] at q; exact q
    | true => rw [if_pos rfl] at q; exact ⟨_, s1, rfl, q⟩
theorem ev_eNot {a : EM} : EvE (eNot a) env st Q ↔ EvE a env st fun x s1 => ∃ c, x = .bl c ∧ Q (.bl (!c)) s1 := by
  unfold EvE eNot
  constructor
  · rintro ⟨d, s, e, q⟩
    split at e
    · rename_i b s1 h
      cases e
      exact ⟨_, _, h, b, rfl, q⟩
    · cases e
  · rintro ⟨x, s1, h, c, rfl, q⟩
    exact ⟨_, s1, by rw [h], q⟩
theorem ev_if {c : TM} {a b : EM} : EvE (eIf c a b) env st Q ↔ EvB c env st fun x s1 => if x = true then EvE a env s1 Q else EvE b env s1 Q := by
  unfold EvE EvB eIf
  constructor
  · rintro ⟨d, s, e, q⟩
    split at e
    · rename_i s1 h
      exact ⟨_, s1, h, (if_pos rfl).mpr ⟨d, s, e, q⟩⟩
    · rename_i s1 h
      exact ⟨_, s1, h, (if_neg Bool.false_ne_true).mpr ⟨d, s, e, q⟩⟩
    · cases e
  · rintro ⟨x, s1, h, q⟩
    rw [h]
    cases x with
    | true => rw [if_pos rfl] at q; exact q
    | false => rw [if_neg Bool.false_ne_true] at q; exact q
theorem ev_chain {f g : D → D → Store → Option D} {a b c : EM} : EvE (eChain f g a b c) env st Q ↔ EvE a env st fun x s1 => EvE b env s1 fun y s2 => ∃ t, f x y s2 = some (.bl t) ∧ if t = true then EvE c env s2 fun z s3 => ∃ r, g y z s3 = some r ∧ Q r s3 else Q (.bl false) s2 := by
  unfold EvE eChain
  constructor
  · rintro ⟨d, s, e, q⟩
    split at e
    · rename_i x s1 h1
      split at e
      · rename_i y s2 h2
        refine ⟨x, s1, h1, y, s2, h2, ?_⟩
        split at e
        · rename_i h3
          refine ⟨true, h3, (if_pos rfl).mpr ?_⟩
          split at e
          · rename_i z s3 h4
            rw [Option.map_eq_some_iff] at e
            obtain ⟨r, e1, e2⟩ := e
            cases e2
            exact ⟨z, _, h4, _, e1, q⟩
          · cases e
        · rename_i h3
          cases e
          exact ⟨false, h3, (if_neg Bool.false_ne_true).mpr q⟩
        · cases e
      · cases e
    · cases e
  · rintro ⟨x, s1, h1, y, s2, h2, t, h3, q⟩
    rw [h1]
    dsimp only
    rw [h2]
    dsimp only
    rw [h3]
    cases t with
    | true =>
      rw [if_pos rfl] at q
      obtain ⟨z, s3, h4, r, e, q⟩ := q
      exact ⟨r, s3, by simp only [h4, e, Option.map_some], q⟩
    | false =>
      rw [if_neg Bool.false_ne_true] at q
      exact ⟨_, s2, rfl, q⟩
theorem ev_oNone {Q : Option Int → Store → Prop} : EvO oNone env st Q ↔ Q none st := by
  unfold EvO oNone
  constructor
  · rintro ⟨d, s, e, q⟩
    cases e
    exact q
  · exact fun q => ⟨_, _, rfl, q⟩
theorem ev_oSome {a : EM} {Q : Option Int → Store → Prop} : EvO (oSome a) env st Q ↔ EvE a env st fun x s1 => ∃ i, x = .int i ∧ Q (some i) s1 := by
  unfold EvO EvE oSome
  constructor
  · rintro ⟨d, s, e, q⟩
    split at e
    · rename_i x s1 h
      cases e
      exact ⟨_, _, h, _, rfl, q⟩
    · cases e
  · rintro ⟨x, s1, h, b, rfl, q⟩
    exact ⟨_, s1, by rw [h], q⟩
theorem ev_sl {a : EM} {l u : OM} : EvE (eSl a l u) env st Q ↔ EvE a env st fun x s1 => EvO l env s1 fun lo s2 => EvO u env s2 fun hi s3 => ∃ z, dSl x lo hi s3 = some z ∧ Q z s3 := by
  unfold EvE EvO eSl
  constructor
  · rintro ⟨d, s, e, q⟩
    split at e
    · rename_i x s1 h
      split at e
      · rename_i y s2 h2
        split at e
        · rename_i w s3 h3
          rw [Option.map_eq_some_iff] at e
          obtain ⟨z, e1, e2⟩ := e
          cases e2
          exact ⟨x, s1, h, y, s2, h2, w, _, h3, _, e1, q⟩
        · cases e
      · cases e
    · cases e
  · rintro ⟨x, s1, h, y, s2, h2, w, s3, h3, z, e, q⟩
    exact ⟨z, s3, by rw [h]; simp only [h2, h3, e, Option.map_some], q⟩
theorem ev_bm {Ty : String} {F : MM} {a : EM} {r : AM} : EvE (eBM Ty F a r) env st Q ↔ EvE a env st fun x s1 => tyD Ty s1 x ∧ EvA r env s1 fun xs s2 => ∃ d s3, F x xs s2 = some (d, s3) ∧ Q d s3 := by
  unfold EvE EvA eBM
  constructor
  · rintro ⟨d, s, e, q⟩
    split at e
    · rename_i x s1 h
      split at e
      · rename_i ht
        split at e
        · rename_i xs s2 h2
          exact ⟨x, s1, h, ht, xs, s2, h2, d, s, e, q⟩
        · cases e
      · cases e
    · cases e
  · rintro ⟨x, s1, h, ht, xs, s2, h2, d, s3, e, q⟩
    exact ⟨d, s3, by rw [h]; simp only [if_pos ht, h2]; exact e, q⟩

/-! statements -/
theorem ev_skip : EvS sSkip env st QS ↔ QS (.nx env) st := by
  unfold EvS sSkip
  constructor
  · rintro ⟨d, s, e, q⟩
    cases e
    exact q
  · exact fun q => ⟨_, _, rfl, q⟩
theorem ev_brk : EvS sBrk env st QS ↔ QS (.bk env) st := by
  unfold EvS sBrk
  constructor
  · rintro ⟨d, s, e, q⟩
    cases e
    exact q
  · exact fun q => ⟨_, _, rfl, q⟩
theorem ev_cnt : EvS sCnt env st QS ↔ QS (.ct env) st := by
  unfold EvS sCnt
  constructor
  · rintro ⟨d, s, e, q⟩
    cases e
    exact q
  · exact fun q => ⟨_, _, rfl, q⟩
def thenS (b : SM) (Q : Out → Store → Prop) : Out → Store → Prop := fun o s => match o with
  | .nx e => EvS b e s Q
  | o => Q o s
theorem ev_seq {a b : SM} : EvS (sSeq a b) env st QS ↔ EvS a env st (thenS b QS) := by
  unfold EvS sSeq
  constructor
  · rintro ⟨d, s, e, q⟩
    rcases h : a env st with _ | ⟨o, s1⟩
    · rw [h] at e; cases e
    · rw [h] at e
      refine ⟨o, s1, rfl, ?_⟩
      cases o with
      | nx e1 => exact ⟨d, s, e, q⟩
      | rt _ => cases e; exact q
      | bk _ => cases e; exact q
      | ct _ => cases e; exact q
  · rintro ⟨o, s1, h, q⟩
    rw [h]
    cases o with
    | nx e1 => exact q
    | rt _ => exact ⟨_, _, rfl, q⟩
    | bk _ => exact ⟨_, _, rfl, q⟩
    | ct _ => exact ⟨_, _, rfl, q⟩
theorem then_nx {b : SM} {e : Env} {s : Store} : thenS b QS (.nx e) s ↔ EvS b e s QS := Iff.rfl
theorem then_rt {b : SM} {d : D} {s : Store} : thenS b QS (.rt d) s ↔ QS (.rt d) s := Iff.rfl
theorem then_bk {b : SM} {e : Env} {s : Store} : thenS b QS (.bk e) s ↔ QS (.bk e) s := Iff.rfl
theorem then_ct {b : SM} {e : Env} {s : Store} : thenS b QS (.ct e) s ↔ QS (.ct e) s := Iff.rfl
theorem ev_set {i : Nat} {m : EM} : EvS (sSet i m) env st QS ↔ EvE m env st fun d s => QS (.nx (env.set i (some d))) s := by
  unfold EvS EvE sSet
  constructor
  · rintro ⟨d, s, e, q⟩
    split at e
    · rename_i x s1 h
      cases e
      exact ⟨_, _, h, q⟩
    · cases e
  · rintro ⟨x, s1, h, q⟩
    exact ⟨_, s1, by rw [h], q⟩
theorem ev_asg {m : EM} {g : GM} : EvS (sAsg m g) env st QS ↔ EvE m env st fun d s => ∃ e, g d env = some e ∧ QS (.nx e) s := by
  unfold EvS EvE sAsg
  constructor
  · rintro ⟨d, s, e, q⟩
    split at e
    · rename_i x s1 h
      split at e
      · rename_i e1 h2
        cases e
        exact ⟨_, _, h, _, h2, q⟩
      · cases e
    · cases e
  · rintro ⟨x, s1, h, e, h2, q⟩
    exact ⟨_, s1, by rw [h]; simp only [h2], q⟩
theorem ev_par {i j : Nat} {a : AM} : EvS (sPar i j a) env st QS ↔ EvA a env st fun ds s => ∃ x y, ds = [x, y] ∧ QS (.nx ((env.set i (some x)).set j (some y))) s := by
  unfold EvS EvA sPar
  constructor
  · rintro ⟨d, s, e, q⟩
    split at e
    · rename_i x y s1 h
      cases e
      exact ⟨_, _, h, x, y, rfl, q⟩
    · cases e
  · rintro ⟨ds, s1, h, x, y, rfl, q⟩
    exact ⟨_, s1, by rw [h], q⟩
theorem ev_par3 {i j l : Nat} {a : AM} : EvS (sPar3 i j l a) env st QS ↔ EvA a env st fun ds s => ∃ x y z, ds = [x, y, z] ∧ QS (.nx (((env.set i (some x)).set j (some y)).set l (some z))) s := by
  unfold EvS EvA sPar3
  constructor
  · rintro ⟨d, s, e, q⟩
    split at e
    · rename_i x y z s1 h
      cases e
      exact ⟨_, _, h, x, y, z, rfl, q⟩
    · cases e
  · rintro ⟨ds, s1, h, x, y, z, rfl, q⟩
    exact ⟨_, s1, by rw [h], q⟩
theorem ev_ret {m : EM} : EvS (sRet m) env st QS ↔ EvE m env st fun d s => QS (.rt d) s := by
  unfold EvS EvE sRet
  constructor
  · rintro ⟨d, s, e, q⟩
    split at e
    · rename_i x s1 h
      cases e
      exact ⟨_, _, h, q⟩
    · cases e
  · rintro ⟨x, s1, h, q⟩
    exact ⟨_, s1, by rw [h], q⟩
theorem ev_drop {m : EM} : EvS (sDrop m) env st QS ↔ EvE m env st fun d s => QS (.nx env) s := by
  unfold EvS EvE sDrop
  constructor
  · rintro ⟨d, s, e, q⟩
    split at e
    · rename_i x s1 h
      cases e
      exact ⟨_, _, h, q⟩
    · cases e
  · rintro ⟨x, s1, h, q⟩
    exact ⟨_, s1, by rw [h], q⟩
theorem ev_sIf {c : TM} {a b : SM} : EvS (sIf c a b) env st QS ↔ EvB c env st fun x s1 => if x = true then EvS a env s1 QS else EvS b env s1 QS := by
  unfold EvS EvB sIf
  constructor
  · rintro ⟨d, s, e, q⟩
    split at e
    · rename_i s1 h
      exact ⟨_, s1, h, (if_pos rfl).mpr ⟨d, s, e, q⟩⟩
    · rename_i s1 h
      exact ⟨_, s1, h, (if_neg Bool.false_ne_true).mpr ⟨d, s, e, q⟩⟩
    · cases e
  · rintro ⟨x, s1, h, q⟩
    rw [h]
    cases x with
    | true => rw [if_pos rfl] at q; exact q
    | false => rw [if_neg Bool.false_ne_true] at q; exact q
theorem ev_aug {i : Nat} {f : D → D → Store → Option D} {m : EM} : EvS (sAug i f m) env st QS ↔ ∃ x, env[i]? = some (some x) ∧ EvE m env st fun y s => ∃ z, f x y s = some z ∧ QS (.nx (env.set i (some z))) s := by
  unfold EvS EvE sAug
  constructor
  · rintro ⟨d, s, e, q⟩
    split at e
    · rename_i x h0
      refine ⟨x, h0, ?_⟩
      split at e
      · rename_i y s1 h
        split at e
        · rename_i z h2
          cases e
          exact ⟨_, _, h, _, h2, q⟩
        · cases e
      · cases e
    · cases e
  · rintro ⟨x, h0, y, s1, h, z, h2, q⟩
    exact ⟨_, s1, by rw [h0]; simp only [h, h2], q⟩
theorem ev_sub {f : D → D → D → Store → Option Store} {mo mi mv : EM} : EvS (sSub f mo mi mv) env st QS ↔ EvE mv env st fun v s1 => EvE mo env s1 fun o s2 => EvE mi env s2 fun i s3 => ∃ s4, f o i v s3 = some s4 ∧ QS (.nx env) s4 := by
  unfold EvS EvE sSub
  constructor
  · rintro ⟨d, s, e, q⟩
    split at e
    · rename_i v s1 h1
      split at e
      · rename_i o s2 h2
        split at e
        · rename_i i s3 h3
          split at e
          · rename_i s4 h4
            cases e
            exact ⟨_, _, h1, _, _, h2, _, _, h3, _, h4, q⟩
          · cases e
        · cases e
      · cases e
    · cases e
  · rintro ⟨v, s1, h1, o, s2, h2, i, s3, h3, s4, h4, q⟩
    exact ⟨_, s4, by rw [h1]; simp only [h2, h3, h4], q⟩
theorem ev_seqI {m : EM} {QI : List D → (Store → Prop) → Store → Prop} : EvI (iSeq m) env st QI ↔ EvE m env st fun x s1 => match x with
    | .tup xs => QI xs always s1
    | .tpf xs => QI xs always s1
    | .lst xs => QI xs always s1
    | .scr ns => QI (ns.map .int) always s1
    | .ref i => ∃ xs, s1[i]? = some (.lst xs) ∧ QI xs (fun s => s[i]? = some (.lst xs)) s1
    | _ => False := by
  unfold EvI EvE iSeq
  constructor
  · rintro ⟨ds, gd, s, e, q⟩
    split at e
    · rename_i xs s1 h
      cases e
      exact ⟨_, _, h, q⟩
    · rename_i xs s1 h
      cases e
      exact ⟨_, _, h, q⟩
    · rename_i xs s1 h
      cases e
      exact ⟨_, _, h, q⟩
    · rename_i xs s1 h
      cases e
      exact ⟨_, _, h, q⟩
    · rename_i i s1 h
      split at e
      · rename_i xs h2
        cases e
        exact ⟨_, _, h, _, h2, q⟩
      · cases e
    · cases e
  · rintro ⟨x, s1, h, q⟩
    rw [h]
    cases x with
    | tup xs => exact ⟨_, _, _, rfl, q⟩
    | tpf xs => exact ⟨_, _, _, rfl, q⟩
    | lst xs => exact ⟨_, _, _, rfl, q⟩
    | scr ns => exact ⟨_, _, _, rfl, q⟩
    | ref i =>
      obtain ⟨xs, h2, q⟩ := q
      exact ⟨xs, _, s1, by simp only [h2], q⟩
    | _ => exact q.elim
theorem ev_range1 {a : EM} {QI : List D → (Store → Prop) → Store → Prop} : EvI (iRange1 a) env st QI ↔ EvE a env st fun x s1 => ∃ j, x = .int j ∧ (-(2 ^ 62) ≤ j ∧ j < 2 ^ 62) ∧ QI (intsTo 0 j.toNat) always s1 := by
  unfold EvI EvE iRange1
  constructor
  · rintro ⟨ds, gd, s, e, q⟩
    split at e
    · rename_i j s1 h
      split at e
      · rename_i hz
        cases e
        exact ⟨_, _, h, j, rfl, hz, q⟩
      · cases e
    · cases e
  · rintro ⟨x, s1, h, j, rfl, hz, q⟩
    exact ⟨_, _, s1, by rw [h]; simp only [if_pos hz], q⟩
theorem ev_range2 {a b : EM} {QI : List D → (Store → Prop) → Store → Prop} : EvI (iRange2 a b) env st QI ↔ EvE a env st fun x s1 => EvE b env s1 fun y s2 => ∃ i j, x = .int i ∧ y = .int j ∧ ((-(2 ^ 62) ≤ i ∧ i < 2 ^ 62) ∧ (-(2 ^ 62) ≤ j ∧ j < 2 ^ 62)) ∧ QI (intsTo i (j - i).toNat) always s2 := by
  unfold EvI EvE iRange2
  constructor
  · rintro ⟨ds, gd, s, e, q⟩
    split at e
    · rename_i i s1 h
      split at e
      · rename_i j s2 h2
        split at e
        · rename_i hz
          cases e
          exact ⟨_, _, h, _, _, h2, i, j, rfl, rfl, hz, q⟩
        · cases e
      · cases e
    · cases e
  · rintro ⟨x, s1, h, y, s2, h2, i, j, rfl, rfl, hz, q⟩
    exact ⟨_, _, s2, by rw [h]; simp only [h2, if_pos hz], q⟩
theorem ev_for {im : IM} {g : GM} {body : SM} : EvS (sFor im g body) env st QS ↔ EvI im env st fun ds gd s1 => EvW (forGo gd g body ds env s1) QS := by
  unfold EvS EvI EvW sFor
  constructor
  · rintro ⟨d, s, e, q⟩
    split at e
    · rename_i ds gd s1 h
      exact ⟨_, _, _, h, d, s, e, q⟩
    · cases e
  · rintro ⟨ds, gd, s1, h, d, s, e, q⟩
    exact ⟨d, s, by rw [h]; exact e, q⟩
theorem ev_lc {im : IM} {g : GM} {tt : TM} {el : EM} {vs : List Nat} : EvE (eLc im g tt el vs) env st Q ↔ EvI im env st fun ds gd s1 => EvL (lcGo gd g tt el (wipeE env vs) ds s1) fun ys s2 => ys.length ≤ sizeLine ∧ Q (.lst ys) s2 := by
  unfold EvE EvI EvL eLc
  constructor
  · rintro ⟨d, s, e, q⟩
    split at e
    · rename_i ds gd s1 h
      split at e
      · rename_i ys s2 h2
        split at e
        · rename_i hz
          cases e
          exact ⟨_, _, _, h, ys, _, h2, hz, q⟩
        · cases e
      · cases e
    · cases e
  · rintro ⟨ds, gd, s1, h, ys, s2, h2, hz, q⟩
    exact ⟨_, s2, by rw [h]; simp only [h2, if_pos hz], q⟩
/-- a for by an invariant over the turn -/
theorem for_inv {gd : Store → Prop} {g : GM} {body : SM} {ds : List D} (I : Nat → Env → Store → Prop) (h0 : I 0 env st) (hg : ∀ i env st, i ≤ ds.length → I i env st → gd st)
    (step : ∀ i (hi : i < ds.length) env st, I i env st → ∃ e1, g ds[i] env = some e1 ∧ EvS body e1 st fun o s => match o with
      | .nx e => I (i + 1) e s
      | .ct e => I (i + 1) e s
      | .bk e => QS (.nx e) s
      | .rt d => QS (.rt d) s) (done : ∀ env st, I ds.length env st → QS (.nx env) st) : EvW (forGo gd g body ds env st) QS := by
  have main : ∀ (n i : Nat) (env : Env) (st : Store), i + n = ds.length → I i env st → EvW (forGo gd g body (ds.drop i) env st) QS := by
    intro n
    induction n with
    | zero =>
      intro i env st hi h
      have e : i = ds.length := by omega
      subst e
      rw [List.drop_length]
      unfold forGo
      rw [if_pos (hg _ _ _ (Nat.le_refl _) h)]
      exact ⟨_, _, rfl, done _ _ h⟩
    | succ n ih =>
      intro i env st hi h
      have hlt : i < ds.length := by omega
      rw [List.drop_eq_getElem_cons hlt]
      unfold forGo
      rw [if_pos (hg _ _ _ (Nat.le_of_lt hlt) h)]
      obtain ⟨e1, h1, o, s, h2, q⟩ := step i hlt env st h
      rw [h1]
      dsimp only
      rw [h2]
      cases o with
      | nx e => exact ih (i + 1) e s (by omega) q
      | ct e => exact ih (i + 1) e s (by omega) q
      | bk e => exact ⟨_, _, rfl, q⟩
      | rt d => exact ⟨_, _, rfl, q⟩
  have := main ds.length 0 env st (by omega) h0
  simpa using this
theorem while_inv {c : TM} {body : SM} {fuel : Nat} (I : Nat → Env → Store → Prop) (hf : ∃ n, n < fuel ∧ I n env st)
    (step : ∀ n env st, I n env st → EvB c env st fun b s1 => if b = true then EvS body env s1 fun o s => match o with
      | .nx e => ∃ m, m < n ∧ I m e s
      | .ct e => ∃ m, m < n ∧ I m e s
      | .bk e => QS (.nx e) s
      | .rt d => QS (.rt d) s
      else QS (.nx env) s1) : EvS (sWhile fuel c body) env st QS := by
  have main : ∀ (fuel n : Nat) (env : Env) (st : Store), n < fuel → I n env st → EvS (whileGo c body fuel) env st QS := by
    intro fuel
    induction fuel with
    | zero => intro n env st h; omega
    | succ fuel ih =>
      intro n env st hn h
      unfold EvS whileGo
      obtain ⟨b, s1, h1, q⟩ := step n env st h
      rw [h1]
      cases b with
      | true =>
        rw [if_pos rfl] at q
        obtain ⟨o, s, h2, q⟩ := q
        dsimp only
        rw [h2]
        cases o with
        | nx e => obtain ⟨m, hm, q⟩ := q; exact ih m e s (by omega) q
        | ct e => obtain ⟨m, hm, q⟩ := q; exact ih m e s (by omega) q
        | bk e => exact ⟨_, _, rfl, q⟩
        | rt d => exact ⟨_, _, rfl, q⟩
      | false =>
        rw [if_neg Bool.false_ne_true] at q
        exact ⟨_, _, rfl, q⟩
  obtain ⟨n, hn, h⟩ := hf
  exact main fuel n env st hn h
/-- a comprehension by an invariant over the turn, the list so far and the cells -/
theorem lc_inv {gd : Store → Prop} {g : GM} {tt : TM} {el : EM} {env : Env} {ds : List D} {QL : List D → Store → Prop} (I : Nat → List D → Store → Prop) (h0 : I 0 [] st) (hg : ∀ i ys st, i ≤ ds.length → I i ys st → gd st)
    (step : ∀ i (hi : i < ds.length) ys st, I i ys st → ∃ e1, g ds[i] env = some e1 ∧ EvB tt e1 st fun b s1 => if b = true then EvE el e1 s1 fun y s2 => I (i + 1) (ys ++ [y]) s2 else I (i + 1) ys s1)
    (done : ∀ ys st, I ds.length ys st → QL ys st) : EvL (lcGo gd g tt el env ds st) QL := by
  have main : ∀ (n i : Nat) (ys : List D) (st : Store), i + n = ds.length → I i ys st → ∃ zs s, lcGo gd g tt el env (ds.drop i) st = some (zs, s) ∧ QL (ys ++ zs) s := by
    intro n
    induction n with
    | zero =>
      intro i ys st hi h
      have e : i = ds.length := by omega
      subst e
      rw [List.drop_length]
      unfold lcGo
      rw [if_pos (hg _ _ _ (Nat.le_refl _) h)]
      exact ⟨_, _, rfl, by rw [List.append_nil]; exact done _ _ h⟩
    | succ n ih =>
      intro i ys st hi h
      have hlt : i < ds.length := by omega
      rw [List.drop_eq_getElem_cons hlt]
      unfold lcGo
      rw [if_pos (hg _ _ _ (Nat.le_of_lt hlt) h)]
      obtain ⟨e1, h1, b, s1, h2, q⟩ := step i hlt ys st h
      rw [h1]
      dsimp only
      rw [h2]
      cases b with
      | true =>
        rw [if_pos rfl] at q
        obtain ⟨y, s2, h3, q⟩ := q
        obtain ⟨zs, s3, h4, q⟩ := ih (i + 1) _ s2 (by omega) q
        dsimp only
        rw [h3]
        dsimp only
        rw [h4]
        exact ⟨_, _, rfl, by rw [List.append_assoc] at q; exact q⟩
      | false =>
        rw [if_neg Bool.false_ne_true] at q
        exact ih (i + 1) _ s1 (by omega) q
  obtain ⟨zs, s, h, q⟩ := main ds.length 0 [] st (by omega) h0
  exact ⟨zs, s, by simpa using h, by simpa using q⟩
/-- a comprehension that changes no cell -/
theorem lc_map {gd : Store → Prop} {g : GM} {tt : TM} {el : EM} {env : Env} {ds : List D} {QL : List D → Store → Prop} (p : D → Bool) (f : D → D) (hg : gd st)
    (step : ∀ d ∈ ds, ∃ e1, g d env = some e1 ∧ EvB tt e1 st fun b s1 => s1 = st ∧ b = p d ∧ (b = true → EvE el e1 st fun y s2 => s2 = st ∧ y = f d)) (done : QL ((ds.filter p).map f) st) : EvL (lcGo gd g tt el env ds st) QL := by
  refine lc_inv (fun i ys s => s = st ∧ ys = ((ds.take i).filter p).map f) ⟨rfl, by simp⟩ (fun i ys s _ h => h.1 ▸ hg) (fun i hi ys s ⟨h1, h2⟩ => ?_) (fun ys s ⟨h1, h2⟩ => ?_)
  · subst h1
    obtain ⟨e1, h3, b, s1, h4, rfl, h5, h6⟩ := step ds[i] (List.getElem_mem hi)
    refine ⟨e1, h3, b, s1, h4, ?_⟩
    have tk : ds.take (i + 1) = ds.take i ++ [ds[i]] := by rw [List.take_add_one, List.getElem?_eq_getElem hi]; rfl
    cases b with
    | true =>
      show ite _ _ _
      rw [if_pos rfl]
      obtain ⟨y, s2, h7, rfl, rfl⟩ := h6 rfl
      refine ⟨_, _, h7, rfl, ?_⟩
      rw [tk, List.filter_append, List.filter_cons_of_pos h5.symm, List.map_append, h2]
      rfl
    | false =>
      show ite _ _ _
      rw [if_neg Bool.false_ne_true]
      refine ⟨rfl, ?_⟩
      rw [tk, List.filter_append, List.filter_cons_of_neg (by rw [← h5]; exact Bool.false_ne_true), h2]
      simp
  · subst h1
    rw [List.take_length] at h2
    rw [h2]
    exact done
end

/-! defs -/
def outF (st : Store) (Q : D → Store → Prop) : Out → Store → Prop := fun o s1 => match o with
  | .rt r => EvF (fun _ s => fin st r s) [] s1 Q
  | .nx _ => EvF (fun _ s => fin st .non s) [] s1 Q
  | _ => False
def outK (Q : D → Store → Prop) : Out → Store → Prop := fun o s1 => match o with
  | .rt r => Q r s1
  | .nx _ => Q .non s1
  | _ => False
theorem ev_mkF {N : Nat} {body : SM} {ds : List D} {st : Store} {Q : D → Store → Prop} : EvF (mkF N body) ds st Q ↔ EvS body (enter N ds) st (outF st Q) := by
  unfold EvF EvS mkF
  constructor
  · rintro ⟨d, s, e, q⟩
    split at e
    · rename_i r s1 h
      exact ⟨_, _, h, d, s, e, q⟩
    · rename_i r s1 h
      exact ⟨_, _, h, d, s, e, q⟩
    · cases e
  · rintro ⟨o, s1, h, q⟩
    cases o with
    | rt r => obtain ⟨d, s, e, q⟩ := q; exact ⟨d, s, by rw [h]; exact e, q⟩
    | nx r => obtain ⟨d, s, e, q⟩ := q; exact ⟨d, s, by rw [h]; exact e, q⟩
    | bk r => exact q.elim
    | ct r => exact q.elim
theorem ev_mkK {N : Nat} {body : SM} {ds : List D} {st : Store} {Q : D → Store → Prop} : EvF (mkK N body) ds st Q ↔ EvS body (enter N ds) st (outK Q) := by
  unfold EvF EvS mkK
  constructor
  · rintro ⟨d, s, e, q⟩
    split at e
    · rename_i r s1 h
      cases e
      exact ⟨_, _, h, q⟩
    · rename_i r s1 h
      cases e
      exact ⟨_, _, h, q⟩
    · cases e
  · rintro ⟨o, s1, h, q⟩
    cases o with
    | rt r => exact ⟨_, _, by rw [h], q⟩
    | nx r => exact ⟨_, _, by rw [h], q⟩
    | bk r => exact q.elim
    | ct r => exact q.elim
/-- what is handed back is a tree, the caller's cells stand but for plain ones -/
theorem fin_tree {st s1 : Store} {r : D} {Q : D → Store → Prop} (h : r.blw 0 = true) (c : closeOk st s1) (q : Q r (s1.take st.length)) : EvF (fun _ s => fin st r s) [] s1 Q := by
  refine ⟨r, s1.take st.length, ?_, q⟩
  show fin st r s1 = _
  unfold fin
  rw [fz_blw (n := 0) (fun i hi => absurd hi (Nat.not_lt_zero _)) r h]
  dsimp only
  rw [if_pos c]
theorem closeOk_refl (st : Store) : closeOk st st := fun i hi => ⟨st[i], List.getElem?_eq_getElem hi, .inl (List.getElem?_eq_getElem hi)⟩
theorem closeOk_app (st l : Store) : closeOk st (st ++ l) := fun i hi => ⟨st[i], by rw [List.getElem?_append_left hi]; exact List.getElem?_eq_getElem hi, .inl (List.getElem?_eq_getElem hi)⟩
theorem closeOk_set (st l : Store) (b : Nat) (c : D) (h : c.blw 0 = true) : closeOk st (st.set b c ++ l) := fun i hi => by
  have hl : i < (st.set b c).length := by simpa using hi
  rw [List.getElem?_append_left hl]
  by_cases e : b = i
  · subst e
    refine ⟨c, by rw [List.getElem?_set_self hi], .inr ?_⟩
    have h2 : ∀ n, c.blw n = true := fun n => blw_mono n h
    exact h2 _
  · refine ⟨st[i], by rw [List.getElem?_set_ne e]; exact List.getElem?_eq_getElem hi, .inl (List.getElem?_eq_getElem hi)⟩
where
  blw_mono (n : Nat) {c : D} (h : c.blw 0 = true) : c.blw n = true := go n c h
  go (n : Nat) : ∀ c : D, c.blw 0 = true → c.blw n = true := by
    intro c
    exact (blw_mono_both n).1 c
  blw_mono_both (n : Nat) : (∀ c : D, c.blw 0 = true → c.blw n = true) ∧ ∀ cs : List D, D.blws 0 cs = true → D.blws n cs = true := by
    constructor
    · intro c
      exact D.rec (motive_1 := fun c => c.blw 0 = true → c.blw n = true) (motive_2 := fun cs => D.blws 0 cs = true → D.blws n cs = true)
        (by simp [D.blw]) (by simp [D.blw]) (by simp [D.blw]) (by simp [D.blw]) (by simp [D.blw]) (by simp [D.blw]) (by intro xs ih; simpa [D.blw] using ih) (by intro xs ih; simpa [D.blw] using ih) (by intro xs ih; simpa [D.blw] using ih) (by simp [D.blw]) (by intro ks xs ih; simpa [D.blw] using ih) (by intro ks xs ih; simpa [D.blw] using ih) (by simp [D.blw]) (by intro m fs xs ih; simpa [D.blw] using ih) (by intro i; simp [D.blw])
        (by simp [D.blws]) (by intro c cs h1 h2 h; simp only [D.blws, Bool.and_eq_true] at h ⊢; exact ⟨h1 h.1, h2 h.2⟩) c
    · intro cs
      exact D.rec_1 (motive_1 := fun c => c.blw 0 = true → c.blw n = true) (motive_2 := fun cs => D.blws 0 cs = true → D.blws n cs = true)
        (by simp [D.blw]) (by simp [D.blw]) (by simp [D.blw]) (by simp [D.blw]) (by simp [D.blw]) (by simp [D.blw]) (by intro xs ih; simpa [D.blw] using ih) (by intro xs ih; simpa [D.blw] using ih) (by intro xs ih; simpa [D.blw] using ih) (by simp [D.blw]) (by intro ks xs ih; simpa [D.blw] using ih) (by intro ks xs ih; simpa [D.blw] using ih) (by simp [D.blw]) (by intro m fs xs ih; simpa [D.blw] using ih) (by intro i; simp [D.blw])
        (by simp [D.blws]) (by intro c cs h1 h2 h; simp only [D.blws, Bool.and_eq_true] at h ⊢; exact ⟨h1 h.1, h2 h.2⟩) cs
theorem blws_map {α : Type} {f : α → D} {n : Nat} (h : ∀ x, (f x).blw n = true) : ∀ xs : List α, D.blws n (xs.map f) = true
  | [] => by simp [D.blws]
  | x :: xs => by simp [D.blws, h x, blws_map h xs]
/-! cells by their place -/
section
variable {st l : Store} {b : Nat} {c c' x y z : D}
theorem cell_b (h : b < st.length) : (st.set b c ++ l)[b]? = some c := by
  rw [List.getElem?_append_left (by simpa using h), List.getElem?_set_self h]
theorem cell_b0 (h : b < st.length) : (st.set b c)[b]? = some c := List.getElem?_set_self h
theorem cell_n : (st.set b c ++ x :: l)[st.length]? = some x := by
  rw [List.getElem?_append_right (by simp)]; simp
theorem cell_n0 : (st ++ x :: l)[st.length]? = some x := by
  rw [List.getElem?_append_right (by simp)]; simp
theorem cell_m : (st.set b c ++ x :: y :: l)[st.length + 1]? = some y := by
  rw [List.getElem?_append_right (by simp)]; simp
theorem cell_m0 : (st ++ x :: y :: l)[st.length + 1]? = some y := by
  rw [List.getElem?_append_right (by simp)]; simp
theorem put_b (h : b < st.length) : (st.set b c ++ l).set b c' = st.set b c' ++ l := by
  rw [List.set_append_left _ _ (by simpa using h), List.set_set]
theorem put_b0 : (st.set b c).set b c' = st.set b c' := List.set_set ..
theorem put_n : (st.set b c ++ x :: l).set st.length y = st.set b c ++ y :: l := by
  rw [List.set_append_right _ _ (by simp)]; simp
theorem put_n0 : (st ++ x :: l).set st.length y = st ++ y :: l := by
  rw [List.set_append_right _ _ (by simp)]; simp
theorem put_m : (st.set b c ++ x :: y :: l).set (st.length + 1) z = st.set b c ++ x :: z :: l := by
  rw [List.set_append_right _ _ (by simp)]; simp
theorem put_m0 : (st ++ x :: y :: l).set (st.length + 1) z = st ++ x :: z :: l := by
  rw [List.set_append_right _ _ (by simp)]; simp
theorem cut_b : (st.set b c ++ l).take st.length = st.set b c := by
  rw [List.take_append_of_le_length (by simp)]; exact List.take_of_length_le (by simp)
theorem cut_0 : (st ++ l).take st.length = st := by simp
theorem cut_b0 : (st.set b c).take st.length = st.set b c := List.take_of_length_le (by simp)
end
end My

namespace My
open PySem PySem.Spec PyProof.Rows L2

/-! ### operations on known values -/
section
variable {i j : Int} {x y : Str} {st : Store} {a b : D} {xs ys : List D} {c e : Bool}
theorem add_int : dAdd (.int i) (.int j) st = some (.int (i + j)) := rfl
theorem addI_int : dAddI (.int i) (.int j) st = some (.int (i + j)) := rfl
theorem sub_int : dSub (.int i) (.int j) st = some (.int (i - j)) := rfl
theorem mul_int (h : CMulW i j) : dMul (.int i) (.int j) st = some (.int (i * j)) := if_pos h
theorem mod_int (h : 0 < j) : dMod (.int i) (.int j) st = some (.int (i % j)) := if_pos h
theorem fdiv_int (h : CDivW i j) : dFdiv (.int i) (.int j) st = some (.int (i / j)) := if_pos h
theorem neg_int : dNeg (.int i) st = some (.int (-i)) := rfl
theorem lt_int : dLt (.int i) (.int j) st = some (.bl (decide (i < j))) := rfl
theorem le_int : dLe (.int i) (.int j) st = some (.bl (decide (i ≤ j))) := rfl
theorem gt_int : dGt (.int i) (.int j) st = some (.bl (decide (j < i))) := rfl
theorem ge_int : dGe (.int i) (.int j) st = some (.bl (decide (j ≤ i))) := rfl
theorem eq_int : dEq (.int i) (.int j) st = some (.bl (decide (i = j))) := rfl
theorem ne_int : dNe (.int i) (.int j) st = some (.bl (!decide (i = j))) := rfl
theorem eq_str : dEq (.str x) (.str y) st = some (.bl (decide (x = y))) := rfl
theorem ne_str : dNe (.str x) (.str y) st = some (.bl (!decide (x = y))) := rfl
theorem eq_bl : dEq (.bl c) (.bl e) st = some (.bl (decide (c = e))) := rfl
theorem ne_bl : dNe (.bl c) (.bl e) st = some (.bl (!decide (c = e))) := rfl
theorem eq_is : dEq (.int i) (.str y) st = some (.bl false) := rfl
theorem eq_si : dEq (.str x) (.int j) st = some (.bl false) := rfl
theorem ne_is : dNe (.int i) (.str y) st = some (.bl true) := rfl
theorem ne_si : dNe (.str x) (.int j) st = some (.bl true) := rfl
theorem is_nn : dIs .non .non st = some (.bl true) := rfl
theorem cat_lst (h : xs.length + ys.length ≤ sizeLine) : dAdd (.lst xs) (.lst ys) st = some (.lst (xs ++ ys)) := if_pos h
theorem cat_tup (h : xs.length + ys.length ≤ sizeLine) : dAdd (.tup xs) (.tup ys) st = some (.tup (xs ++ ys)) := if_pos h
theorem ix_tup : dIx (.tup xs) (.int i) st = atI xs i := rfl
theorem ix_lst : dIx (.lst xs) (.int i) st = atI xs i := rfl
theorem ix_scr {ns : List Int} : dIx (.scr ns) (.int i) st = atI (ns.map .int) i := rfl
theorem seqL_cell {n : Nat} (h : st[n]? = some (.lst xs)) : seqL st (.ref n) = some xs := by simp only [seqL, h]
theorem seqA_cell {n : Nat} (h : st[n]? = some (.lst xs)) : seqA st (.ref n) = some xs := by simp only [seqA, seqL, h]
theorem ix_cell {n : Nat} (h : st[n]? = some (.lst xs)) : dIx (.ref n) (.int i) st = atI xs i := by
  unfold dIx
  rw [seqA_cell h]
theorem at_0 {α : Type} {z : α} {zs : List α} : atI (z :: zs) 0 = some z := atI_nat (j := 0) rfl
theorem at_1 {α : Type} {z w : α} {zs : List α} : atI (z :: w :: zs) 1 = some w := atI_nat (j := 1) rfl
theorem at_2 {α : Type} {z w u : α} {zs : List α} : atI (z :: w :: u :: zs) 2 = some u := atI_nat (j := 2) rfl
theorem at_3 {α : Type} {z w u t : α} {zs : List α} : atI (z :: w :: u :: t :: zs) 3 = some t := atI_nat (j := 3) rfl
theorem ixn_ok {n : Nat} {i : Int} (h0 : 0 ≤ i) (h1 : i < n) : ixN n i = some i.toNat := by
  unfold ixN
  rw [if_pos h0, if_pos h1]
theorem put_cell {n : Nat} {v : D} (h : st[n]? = some (.lst xs)) (h0 : 0 ≤ i) (h1 : i < xs.length) : dPut (.ref n) (.int i) v st = some (st.set n (.lst (xs.set i.toNat v))) := by
  simp only [dPut, h, ixn_ok h0 h1]
theorem len_tup : fLen [.tup xs] st = some (.int xs.length, st) := rfl
theorem len_tpf : fLen [.tpf xs] st = some (.int xs.length, st) := rfl
theorem ix_tpf : dIx (.tpf xs) (.int i) st = atI xs i := rfl
theorem len_lst : fLen [.lst xs] st = some (.int xs.length, st) := rfl
theorem len_scr {ns : List Int} : fLen [.scr ns] st = some (.int ns.length, st) := by
  show some _ = _
  rw [List.length_map]
theorem len_cell {n : Nat} (h : st[n]? = some (.lst xs)) : fLen [.ref n] st = some (.int xs.length, st) := by
  unfold fLen ro
  dsimp only
  rw [seqA_cell h]; rfl
theorem app_cell {n : Nat} (h : st[n]? = some (.lst xs)) (hz : xs.length < sizeLine) : mAppend (.ref n) [a] st = some (.non, st.set n (.lst (xs ++ [a]))) := by
  simp only [mAppend, h, if_pos hz]
theorem tyD_cell {n : Nat} (h : st[n]? = some (.lst xs)) : tyD "list" st (.ref n) := by
  refine ⟨?_, by decide, by decide, by decide⟩
  simp only [tyNameS, h]
theorem EvF_of {F : FM} {ds : List D} {st st' : Store} {d : D} {Q : D → Store → Prop} (h : F ds st = some (d, st')) (q : Q d st') : EvF F ds st Q := ⟨d, st', h, q⟩
end
theorem cmul {i j : Int} (a b : Nat) (ha : i.natAbs < 2 ^ a) (hb : j.natAbs < 2 ^ b) (h0 : 0 < a := by decide) (h1 : 0 < b := by decide) (h : a + b ≤ 1000000 := by decide) : CMulW i j := wide_mul ha hb h0 h1 h
theorem cdiv {i j : Int} (b : Nat) (h : 0 < j) (hb : j.natAbs < 2 ^ b) (h0 : 0 < b := by decide) (h9 : b ≤ 9000 := by decide) : CDivW i j := wide_div h hb h0 h9
theorem mul_lst {xs : List D} {k : Int} {st : Store} (h1 : -(2 ^ 63) ≤ k) (h2 : k < 2 ^ 63) (h3 : xs.length * k.toNat ≤ sizeLine) : dMul (.lst xs) (.int k) st = some (.lst (List.replicate k.toNat xs).flatten) := by
  simp only [dMul, seqL]
  exact if_pos ⟨h1, h2, h3⟩
theorem put_dk {n : Nat} {ks : List Key} {vs : List D} {i v : D} {k : Key} {st : Store} (h : st[n]? = some (.dk ks vs)) (hk : keyOf i = some k) (hz : ks.length < sizeLine) : dPut (.ref n) i v st = some (st.set n (.dk (kPutK ks k) (kPutV ks vs k v))) := by
  simp only [dPut, h, hk, if_pos hz]
theorem evF_some {F : FM} {ds : List D} {st st' : Store} {d : D} {Q : D → Store → Prop} (h : F ds st = some (d, st')) : EvF F ds st Q ↔ Q d st' :=
  ⟨fun ⟨x, s, e, q⟩ => by
    rw [h] at e
    cases e
    exact q, fun q => ⟨d, st', h, q⟩⟩
section
variable {i j : Int} {b : Bool} {xs : List D} {ns : List Int} {bs : List Bool} {x : Str} {st : Store} {Q : D → Store → Prop}
theorem ev_len_tup : EvF fLen [.tup xs] st Q ↔ Q (.int xs.length) st := evF_some len_tup
theorem ev_len_tpf : EvF fLen [.tpf xs] st Q ↔ Q (.int xs.length) st := evF_some len_tpf
theorem ev_len_lst : EvF fLen [.lst xs] st Q ↔ Q (.int xs.length) st := evF_some len_lst
theorem ev_len_scr : EvF fLen [.scr ns] st Q ↔ Q (.int ns.length) st := evF_some len_scr
theorem ev_len_cell {n : Nat} (h : st[n]? = some (.lst xs)) : EvF fLen [.ref n] st Q ↔ Q (.int xs.length) st := evF_some (len_cell h)
theorem ev_abs : EvF fAbs [.int i] st Q ↔ Q (.int (if i < 0 then -i else i)) st := evF_some rfl
theorem ev_int : EvF fInt [.int i] st Q ↔ Q (.int i) st := evF_some rfl
theorem ev_intb : EvF fInt [.bl b] st Q ↔ Q (.int (if b = true then 1 else 0)) st := evF_some rfl
theorem ev_max2 : EvF fMax [.int i, .int j] st Q ↔ Q (.int (if j > i then j else i)) st := evF_some rfl
theorem ev_min2 : EvF fMin [.int i, .int j] st Q ↔ Q (.int (if j < i then j else i)) st := evF_some rfl
theorem ev_tuple_lst : EvF fTuple [.lst xs] st Q ↔ Q (.tup xs) st := evF_some rfl
theorem ev_tuple_tpf : EvF fTuple [.tpf xs] st Q ↔ Q (.tpf xs) st := evF_some rfl
theorem ev_list_tpf : EvF fList [.tpf xs] st Q ↔ Q (.lst xs) st := evF_some rfl
theorem ev_tuple_tup : EvF fTuple [.tup xs] st Q ↔ Q (.tup xs) st := evF_some rfl
theorem ev_tuple_cell {n : Nat} (h : st[n]? = some (.lst xs)) : EvF fTuple [.ref n] st Q ↔ Q (.tup xs) st := evF_some (by simp only [fTuple, ro, seqA_cell h, Option.map_some])
theorem ev_list_lst : EvF fList [.lst xs] st Q ↔ Q (.lst xs) st := evF_some rfl
theorem ev_list_tup : EvF fList [.tup xs] st Q ↔ Q (.lst xs) st := evF_some rfl
theorem ev_list_cell {n : Nat} (h : st[n]? = some (.lst xs)) : EvF fList [.ref n] st Q ↔ Q (.lst xs) st := evF_some (by simp only [fList, ro, seqA_cell h, Option.map_some])
theorem ev_all : EvF fAll [.lst (bs.map D.bl)] st Q ↔ Q (.bl (bs.all id)) st := evF_some (by simp only [fAll, ro, seqL, bolsOf_map, Option.map_some])
theorem ev_any : EvF fAny [.lst (bs.map D.bl)] st Q ↔ Q (.bl (bs.any id)) st := evF_some (by simp only [fAny, ro, seqL, bolsOf_map, Option.map_some])
theorem ev_sum_lst : EvF fSum [.lst (ns.map D.int)] st Q ↔ Q (.int ns.sum) st := evF_some (by simp only [fSum, ro, seqL, intsOf_map, Option.map_some])
theorem ev_sum_tup : EvF fSum [.tup (ns.map D.int)] st Q ↔ Q (.int ns.sum) st := evF_some (by simp only [fSum, ro, intsOf_map, Option.map_some])
theorem ev_sorted_lst : EvF fSorted [.lst (ns.map D.int)] st Q ↔ Q (.lst ((isort ns).map D.int)) st := evF_some (by simp only [fSorted, fSortedL, ro, seqL, intsOf_map, Option.map_some])
theorem lKeys_map (ns : List Int) : lKeys (ns.map Sum.inl) = some ns := by
  induction ns with
  | nil => rfl
  | cons n ns ih => simp only [List.map_cons, lKeys, ih, Option.map_some]
theorem ev_sorted_dk {n : Nat} {vs : List D} (h : st[n]? = some (.dk (ns.map Sum.inl) vs)) (hl : ns.length < 64) : EvF fSorted [.ref n] st Q ↔ Q (.lst ((isort ns).map D.int)) st := evF_some (by
  have e1 : fSortedL [.ref n] st = none := by simp only [fSortedL, ro, seqL, h, Option.map_none]
  simp only [fSorted, e1, fSortedD, ro, dicK, h, lKeys_map, if_pos hl, Option.map_some])
theorem isort_perm (ns : List Int) : (isort ns).Perm ns := List.mergeSort_perm _ _
theorem isort_sorted (ns : List Int) : (isort ns).Pairwise (· ≤ ·) := by
  have := List.pairwise_mergeSort (le := fun a b : Int => decide (a ≤ b)) (fun a b c h1 h2 => by simp at *; omega) (fun a b => by simp; omega) ns
  exact this.imp fun h => by simpa using h
end
/-! trees have no cells -/
section
variable {i : Int} {b : Bool} {x : Str} {xs : List D} {d : D}
theorem blw_int : (D.int i).blw 0 = true := by simp only [D.blw]
theorem blw_bl : (D.bl b).blw 0 = true := by simp only [D.blw]
theorem blw_str : (D.str x).blw 0 = true := by simp only [D.blw]
theorem blw_non : D.non.blw 0 = true := by simp only [D.blw]
theorem blw_tpf (h : D.blws 0 xs = true) : (D.tpf xs).blw 0 = true := by simpa only [D.blw] using h
theorem blw_tup (h : D.blws 0 xs = true) : (D.tup xs).blw 0 = true := by simpa only [D.blw] using h
theorem blw_lst (h : D.blws 0 xs = true) : (D.lst xs).blw 0 = true := by simpa only [D.blw] using h
theorem blws_nil : D.blws 0 [] = true := by simp only [D.blws]
theorem blws_cons (h : d.blw 0 = true) (t : D.blws 0 xs = true) : D.blws 0 (d :: xs) = true := by simp only [D.blws, h, t, Bool.and_true]
theorem blws_ints {ns : List Int} : D.blws 0 (ns.map D.int) = true := blws_map (fun _ => blw_int) ns
theorem blws_all {xs : List D} (h : ∀ d ∈ xs, d.blw 0 = true) : D.blws 0 xs = true := by
  induction xs with
  | nil => exact blws_nil
  | cons d xs ih => exact blws_cons (h d List.mem_cons_self) (ih fun x hx => h x (List.mem_cons_of_mem _ hx))
theorem blws_mem {xs : List D} (h : D.blws 0 xs = true) : ∀ d ∈ xs, d.blw 0 = true := by
  induction xs with
  | nil => intro d hd; cases hd
  | cons d xs ih =>
    simp only [D.blws, Bool.and_eq_true] at h
    intro y hy
    rcases List.mem_cons.mp hy with rfl | hy
    · exact h.1
    · exact ih h.2 y hy
end
end My

namespace My
open PySem PySem.Spec PyProof.Rows L2
/-- the module's classes by their names -/
def wd (K : PySem.W.Frag) (mg : Str → Option Value) : Wd := ⟨K, fun n => match mg n with
  | some (.ref a) => a
  | _ => 0⟩
structure Df (K : PySem.W.Frag) (mg : Str → Option Value) (x : Str) (st : Stmt) (ps : List Str) : Prop where
  ex : ∃ (f : Addr) (fd : FuncData), Fun K x x st f fd ∧ mg x = some (.ref f) ∧ Binds K fd ps []
structure DfK (K : PySem.W.Frag) (mg : Str → Option Value) (x : Str) (st : Stmt) (ps : List Str) (kws : List (Str × V)) (n : Nat) : Prop where
  ex : ∃ (f : Addr) (fd : FuncData), FunD K x x (defArgs st) (defBody st) (defScope st) [] kws f fd ∧ mg x = some (.ref f) ∧ (∃ ds, Vals (kws.map (·.2)) ds ∧ Binds K fd ps ds) ∧ KBn K fd ps n (kws.map (·.1)) (fun us ws => us ++ ws) (fun vs zs => vs ++ zs)
structure MeF (K : PySem.W.Frag) (C : Addr) (m qual : Str) (st : Stmt) (ps : List Str) : Prop where
  ex : ∃ (f : Addr) (fd : FuncData), Fun K m qual st f fd ∧ Binds K fd ps [] ∧ Meth K C m f
structure MkF (K : PySem.W.Frag) (C : Addr) (qual : Str) (st : Stmt) (ps : List Str) : Prop where
  ex : ∃ (f : Addr) (fd : FuncData), Fun K "__init__" qual st f fd ∧ Binds K fd ps [] ∧ Mk K C f
theorem kw_all {K : PySem.W.Frag} {x qual : Str} {pa : Arguments} {bd : List Stmt} {sc : Scope} {kws : List (Str × V)} {f : Addr} {fd : FuncData} {ps : List Str} (F : FunD K x qual pa bd sc [] kws f fd) (n : Nat) (ks : List Str)
    (h : ∀ (kV doc pm : Value) (an : Option Addr) (cdv ct : Value) (us ws : List Value), us.length = n → ws.length = ks.length → bindArgs (PySem.W.fnOf x qual pa bd sc .none kV doc pm an cdv ct) ⟨us, ks.zip ws⟩ = pure (ps.zip (us ++ ws))) :
    KBn K fd ps n ks (fun us ws => us ++ ws) (fun vs zs => vs ++ zs) := by
  obtain ⟨oc, od, dV, kV, doc, pm, an, cdv, ct, osl, rfl, _, _, hd, _⟩ := F.ex
  rcases hd with ⟨_, rfl⟩ | ⟨z, _⟩
  · exact ⟨fun s us ws _ h1 h2 => .of_eq (h kV doc pm an cdv ct us ws h1 h2), fun r1 r2 => r1.append r2⟩
  · exact absurd rfl z
section
variable {X : Cx} {W : Wd}
theorem jv (i : Nat) {x : Str} {pos : Pos} (hN : X.N[i]? = some x := by rfl) (hv : Vis X.env.scope x := by first | exact Or.inl rfl | exact Or.inr (Or.inl rfl) | exact Or.inr (Or.inr rfl)) (hd : (x == ("__debug__" : Str)) = false := by decide)
    (hcd : (x == ("__classdict__" : Str)) = false := by decide) : PE X (.Name x pos) (T W (eVar i)) := j_var hN hv hd hcd
theorem ty_rep {ι : Lay} {H : Hp} {n : String} : Rep W ι H (.ty n) (.ty n) := by simp only [Rep]
end
end My

namespace My
open PySem PySem.Spec PyProof.Rows L2

/-! ### objects of the program's classes -/
def fGet : List Str → List D → Str → Option D
  | f :: fs, v :: vs, g => if g = f then some v else fGet fs vs g
  | _, _, _ => none
def fPutF : List Str → Str → List Str
  | [], g => [g]
  | f :: fs, g => if f = g then f :: fs else f :: fPutF fs g
def fPutV : List Str → List D → Str → D → List D
  | f :: fs, v :: vs, g, x => if f = g then x :: vs else v :: fPutV fs vs g x
  | _, _, _, x => [x]
def eFld (n f : Str) (m : EM) : EM := fun env st => match m env st with
  | some (o, s1) => match insA s1 o with
    | some (n', fs, vs) => if n' = n then (fGet fs vs f).map (·, s1) else none
    | none => none
  | none => none
def fldPut (n f : Str) (o v : D) (st : Store) : Option Store := match o with
  | .ref i => match st[i]? with
    | some (.ins n' fs vs) => if n' = n ∧ fs.length < 1000 then some (st.set i (.ins n' (fPutF fs f) (fPutV fs vs f v))) else none
    | _ => none
  | _ => none
/-- o.f = v -/
def sFldM (n f : Str) (mo mv : EM) : SM := fun env st => match mv env st with
  | some (v, s1) => match mo env s1 with
    | some (o, s2) => match fldPut n f o v s2 with
      | some s3 => some (.nx env, s3)
      | none => none
    | none => none
  | none => none
/-- o.f op= v -/
def sFldAugM (n f : Str) (g : D → D → Store → Option D) (mo mv : EM) : SM := fun env st => match mo env st with
  | some (o, s1) => match insA s1 o with
    | some (n', fs, vs) => if n' = n then match fGet fs vs f with
      | some x => match mv env s1 with
        | some (y, s2) => match g x y s2 with
          | some z => match fldPut n f o z s2 with
            | some s3 => some (.nx env, s3)
            | none => none
          | none => none
        | none => none
      | none => none
      else none
    | none => none
  | none => none
open Classical in
/-- o.m(..) -/
noncomputable def eMeth (n m : Str) (ar : Nat) (F : FM) (dds : List D) (mo : EM) (a : AM) : EM := fun env st => match mo env st with
  | some (o, s1) => match insA s1 o with
    | some (n', fs, _) => if n' = n ∧ m ∉ fs then match a env s1 with
      | some (xs, s2) => if (o :: (xs ++ dds)).length = ar then F (o :: (xs ++ dds)) s2 else none
      | none => none
      else none
    | none => none
  | none => none
open Classical in
/-- C(..), told as a tree -/
noncomputable def eNew (n : Str) (ar : Nat) (F : FM) (dds : List D) (a : AM) : EM := fun env st => match a env st with
  | some (xs, s1) => if (xs ++ dds).length + 1 = ar then match F (.ref s1.length :: (xs ++ dds)) (s1 ++ [.ins n [] []]) with
    | some (.non, s2) => fin s1 (.ref s1.length) s2
    | _ => none
    else none
  | none => none
open Classical in
/-- C(..), a cell -/
noncomputable def eNewK (n : Str) (ar : Nat) (F : FM) (dds : List D) (a : AM) : EM := fun env st => match a env st with
  | some (xs, s1) => if (xs ++ dds).length + 1 = ar then match F (.ref s1.length :: (xs ++ dds)) (s1 ++ [.ins n [] []]) with
    | some (.non, s2) => some (.ref s1.length, s2)
    | _ => none
    else none
  | none => none
section
variable {W : Wd} {ι : Lay} {H : Hp}
theorem fGet_ok {f : Str} : ∀ {fs : List Str} {ds : List D} {us : List V} {d : D}, Reps W ι H ds us → fGet fs ds f = some d → ∃ u, (fs.zip us).lookup f = some u ∧ Rep W ι H d u
  | [], _, _, _, _, e => by simp [fGet] at e
  | _ :: _, [], _, _, _, e => by simp [fGet] at e
  | g :: fs, x :: ds, us, d, h, e => by
    obtain ⟨u, r, rfl, h1, h2⟩ := h.uncons
    unfold fGet at e
    split at e
    · rename_i q
      cases e
      exact ⟨u, by rw [List.zip_cons_cons, q]; simp [List.lookup], h1⟩
    · rename_i q
      obtain ⟨w, h3, h4⟩ := fGet_ok h2 e
      exact ⟨w, by rw [List.zip_cons_cons]; simp only [List.lookup]; rw [show (f == g) = false by simpa using q]; exact h3, h4⟩
theorem lookup_none {f : Str} : ∀ {fs : List Str} {us : List V}, f ∉ fs → (fs.zip us).lookup f = none
  | [], _, _ => rfl
  | _ :: _, [], _ => rfl
  | g :: fs, u :: us, h => by
    simp only [List.mem_cons, not_or] at h
    rw [List.zip_cons_cons]
    simp only [List.lookup]
    rw [show (f == g) = false by simpa using h.1]
    exact lookup_none h.2
theorem fPut_ok {f : Str} {d : D} {u : V} (hd : Rep W ι H d u) : ∀ {fs : List Str} {ds : List D} {us : List V}, Reps W ι H ds us → fs.length = ds.length → ∃ us', putF f u (fs.zip us) = (fPutF fs f).zip us' ∧ (fPutF fs f).length = (fPutV fs ds f d).length ∧ Reps W ι H (fPutV fs ds f d) us'
  | [], [], us, h, _ => by rw [h.nil_of]; exact ⟨[u], rfl, rfl, Reps.cons hd Reps.nil⟩
  | [], _ :: _, _, _, hl => by simp at hl
  | _ :: _, [], _, _, hl => by simp at hl
  | g :: fs, x :: ds, us, h, hl => by
    obtain ⟨v, r, rfl, h1, h2⟩ := h.uncons
    rw [List.zip_cons_cons]
    unfold putF fPutF fPutV
    by_cases e : g = f
    · simp only [if_pos e]
      exact ⟨u :: r, by rw [List.zip_cons_cons], by simpa using hl, Reps.cons hd h2⟩
    · simp only [if_neg e]
      obtain ⟨us', e1, e2, e3⟩ := fPut_ok (f := f) hd h2 (by simpa using hl)
      exact ⟨v :: us', by rw [e1, List.zip_cons_cons], by simpa using e2, Reps.cons h1 e3⟩
theorem fPutF_len (fs : List Str) (f : Str) : (fPutF fs f).length ≤ fs.length + 1 := by
  induction fs with
  | nil => simp [fPutF]
  | cons g fs ih =>
    unfold fPutF
    split <;> simp <;> omega
end
section
variable {X : Cx} {W : Wd} {o e value : Expr} {f n : Str} {pos pos' tpos apos p : Pos} {mo mv : EM} {es : List Expr}
theorem fldPut_ok {ι : Lay} {H : Hp} {st st' : Store} {a b : D} {x y : V} {D : L2.Ends} {σ : L2.St} (r : RelH W ι H st) (ha : Rep W ι H a x) (hb : Rep W ι H b y) (e : fldPut n f a b st = some st') :
    ∃ p dx fs, x = .ref p ∧ H p = some (.ins (W.cl n) dx fs) ∧ fs.length < 1000 ∧ Grow ι H ι (upd H p (.ins (W.cl n) dx (putF f y fs))) ∧ RelH W ι (upd H p (.ins (W.cl n) dx (putF f y fs))) st' := by
  unfold fldPut at e
  split at e
  · rename_i i
    obtain ⟨p, c, rfl, h1, h2, h3⟩ := rep_ref r ha
    rw [h2] at e
    obtain ⟨z, hz, mz⟩ := h3.there
    split at e
    · rename_i n' fs vs q
      cases q
      split at e
      · rename_i hc
        obtain ⟨rfl, hl⟩ := hc
        cases e
        obtain ⟨dx, us, h4, h5, h6⟩ := h3
        obtain ⟨us', e1, e2, e3⟩ := fPut_ok (f := f) hb h6 h5
        have g : ∀ o', Grow ι H ι (upd H p o') := fun o' => Grow.put h1 hz mz
        refine ⟨p, dx, _, rfl, h4, ?_, g _, ?_⟩
        · rw [List.length_zip, ← h6.length, ← h5]; omega
        · rw [e1]
          exact r.put h1 ⟨dx, us', upd_same, e2, Reps.grow (g _) _ _ e3⟩
      · cases e
    · cases e
  · cases e
theorem j_fld (hK : X.K = W.K) (c : Cls X.K (W.cl n)) (na : NoAttr X.K (W.cl n) f) (he : PE X o (T W mo)) (hb : attributeBase o f X.env (eval o X.env) = eval o X.env := by rfl) : PE X (.Attribute o f pos) (T W (eFld n f mo)) := (pe_fld he hb).imp fun σ H Q ⟨ι, st, env, d, st', r, q, e, k⟩ => by
  unfold eFld at e
  split at e
  · rename_i x s1 e1
    split at e
    · rename_i n' fs vs e2
      split at e
      · rename_i hn
        subst hn
        rw [Option.map_eq_some_iff] at e
        obtain ⟨d', e3, e4⟩ := e
        cases e4
        refine T.of r q e1 fun v ι1 H1 g1 r1 p1 => ?_
        obtain ⟨a, dx, us, rfl, h1, h2, h3⟩ := insA_ok r1 p1 e2
        obtain ⟨u, h4, h5⟩ := fGet_ok h3 e3
        exact ⟨a, _, dx, _, u, rfl, h1, c, na, h4, (k.go g1).now r1 h5⟩
      · cases e
    · cases e
  · cases e
theorem js_fld (c : Cls X.K (W.cl n)) (na : NoAttr X.K (W.cl n) f) (ho : PE X o (T W mo)) (hv : PE X value (T W mv)) (hs : swapsWith value (some (.Attribute o f pos')) pos.line X.env = pure false := by rfl) :
    PS X (.Assign [.Attribute o f pos'] value pos) (TSt W (sFldM n f mo mv)) := (ps_fld ho hv hs).imp fun D σ H ⟨ι, st, env, d, st', r, q, e, k⟩ => by
  unfold sFldM at e
  split at e
  · rename_i v s1 e1
    split at e
    · rename_i x s2 e2
      split at e
      · rename_i s3 e3
        cases e
        refine T.of r q e1 fun y ι1 H1 g1 r1 p1 => T.of r1 (q.grow g1) e2 fun z ι2 H2 g2 r2 p2 => ?_
        obtain ⟨a, dx, fs, rfl, h1, h2, g3, r3⟩ := fldPut_ok (D := D) (σ := σ) r2 p2 (Rep.grow g2 _ _ p1) e3
        exact ⟨a, _, dx, fs, rfl, h1, c, na, h2, k _ _ _ ((g1.trans g2).trans g3) r3 (((q.grow g1).grow g2).grow g3)⟩
      · cases e
    · cases e
  · cases e
theorem js_fldaug {op : Operator} {g : D → D → Store → Option D} (c : Cls X.K (W.cl n)) (na : NoAttr X.K (W.cl n) f) (ho : PE X o (T W mo)) (hv : PE X value (T W mv)) (hop : InOp X op (M2 W g)) : PS X (.AugAssign (.Attribute o f tpos) op value pos) (TSt W (sFldAugM n f g mo mv)) := (ps_fldaug ho hv hop).imp fun D σ H ⟨ι, st, env, d, st', r, q, e, k⟩ => by
  unfold sFldAugM at e
  split at e
  · rename_i x s1 e1
    split at e
    · rename_i n' fs vs e2
      split at e
      · rename_i hn
        subst hn
        split at e
        · rename_i x0 e3
          split at e
          · rename_i y s2 e4
            split at e
            · rename_i z e5
              split at e
              · rename_i s3 e6
                cases e
                refine T.of r q e1 fun v ι1 H1 g1 r1 p1 => ?_
                obtain ⟨a, dx, us, ex, h1, h2, h3⟩ := insA_ok r1 p1 e2
                obtain ⟨u, h4, h5⟩ := fGet_ok h3 e3
                refine ⟨a, _, dx, _, u, ex, h1, c, na, h4, T.of r1 (q.grow g1) e4 fun w ι2 H2 g2 r2 p2 => ⟨ι2, s2, x0, y, z, r2, Rep.grow g2 _ _ h5, p2, e5, fun w2 ι3 H3 g3 r3 p3 => ?_⟩⟩
                obtain ⟨a', dx', fs', ex', h6, h7, g4, r4⟩ := fldPut_ok (D := D) (σ := σ) r3 (Rep.grow g3 _ _ (Rep.grow g2 _ _ p1)) p3 e6
                rw [ex] at ex'
                cases ex'
                exact ⟨dx', fs', h6, h7, k _ _ _ (((g1.trans g2).trans g3).trans g4) r4 ((((q.grow g1).grow g2).grow g3).grow g4)⟩
              · cases e
            · cases e
          · cases e
        · cases e
      · cases e
    · cases e
  · cases e
variable {k ar : Nat} {g : Addr} {fd : FuncData} {ps : List Str} {x m : Str} {F : FM} {am : AM} {dvs : List V} {ds : List Value} {dds : List D} {E : XK}
theorem tMeth_of (hdv : ∀ ι H, Reps W ι H dds dvs) {σ : L2.St} {H : Hp} {Q : VK} (h : T W (eMeth n m ar F dds mo am) σ H Q) : tMeth (W.cl n) m (spM W ar F) dvs E (T W mo) (TAs W am) σ H Q := by
  obtain ⟨ι, st, env, d, st', r, q, e, k⟩ := h
  unfold eMeth at e
  split at e
  · rename_i x s1 e1
    split at e
    · rename_i n' fs vs e2
      split at e
      · rename_i hc
        obtain ⟨rfl, hm⟩ := hc
        split at e
        · rename_i xs s2 e3
          split at e
          · rename_i hl
            refine T.of r q e1 fun v ι1 H1 g1 r1 p1 => ?_
            obtain ⟨a, dx, us, rfl, h1, h2, h3⟩ := insA_ok r1 p1 e2
            exact ⟨a, dx, _, rfl, h1, lookup_none hm, TA.of r1 (q.grow g1) e3 fun ws ι2 H2 g2 r2 p2 => ⟨ι2, s2, x :: (xs ++ dds), d, st', r2, Reps.cons (Rep.grow g2 _ _ p1) (p2.append (hdv _ _)), hl, e, k.go (g1.trans g2)⟩⟩
          · cases e
        · cases e
      · cases e
    · cases e
  · cases e
theorem j_meth {pl : Sem Bool} (c : Cls X.K (W.cl n)) (hm : Meth X.K (W.cl n) m g) (F0 : FnOk X.prog X.w X.K X.mg X.base CX0 k g fd ps (spM W ar F)) (hr : Room k X.A) (hb : Binds X.K fd ps ds) (hd : Vals dvs ds) (hdv : ∀ ι H, Reps W ι H dds dvs) (hx : Passes CX0 X E) (he : PE X o (T W mo)) (ha : PA X (e :: es) (TAs W am))
    (hst : starEach (e :: es) X.env = (false, eval e X.env) :: starEach es X.env := by rfl) (hpl : (backTo pos (starEach es X.env)).any (·.1) = false := by rfl)
    (ht : eval (.Call (.Attribute o m apos) (e :: es) [] pos) X.env = (do
      let ov ← eval o X.env
      standAt apos.atName
      let (f, first) ← holding [ov] (getMethod ov m pl)
      callWith pos f first (backTo pos (starEach (e :: es) X.env)) (backToKw pos (keywordEach [] X.env))) := by rfl) :
    PE X (.Call (.Attribute o m apos) (e :: es) [] pos) (T W (eMeth n m ar F dds mo am)) := (pe_meth (pl := pl) he c hm F0 hr hb hd hx ha hst hpl ht).imp fun _ _ _ => tMeth_of hdv
theorem j_meth0 {pl : Sem Bool} (c : Cls X.K (W.cl n)) (hm : Meth X.K (W.cl n) m g) (F0 : FnOk X.prog X.w X.K X.mg X.base CX0 k g fd ps (spM W ar F)) (hr : Room k X.A) (hb : Binds X.K fd ps ds) (hd : Vals dvs ds) (hdv : ∀ ι H, Reps W ι H dds dvs) (hx : Passes CX0 X E) (he : PE X o (T W mo))
    (ht : eval (.Call (.Attribute o m apos) [] [] pos) X.env = (do
      let ov ← eval o X.env
      standAt apos.atName
      let (f, first) ← holding [ov] (getMethod ov m pl)
      callWith pos f first (backTo pos (starEach [] X.env)) (backToKw pos (keywordEach [] X.env))) := by rfl) :
    PE X (.Call (.Attribute o m apos) [] [] pos) (T W (eMeth n m ar F dds mo aNil)) := (pe_meth0 (pl := pl) he c hm F0 hr hb hd hx ht).imp fun σ H Q h => by
  obtain ⟨ι, st, env, d, st', r, q, e, kk⟩ := tMeth_of (E := E) hdv h
  refine ⟨ι, st, env, d, st', r, q, e, fun v ι' H' g' r' p' => ?_⟩
  obtain ⟨a, dx, fs, h1, h2, h3, h4⟩ := kk v ι' H' g' r' p'
  refine ⟨a, dx, fs, h1, h2, h3, ?_⟩
  obtain ⟨ι2, st2, env2, d2, st2', r2, q2, e2, k2⟩ := h4
  cases e2
  exact k2 [] _ _ Grow.refl r2 Reps.nil
theorem made_ok {ι : Lay} {H : Hp} {st : Store} {y dx : Addr} (r : RelH W ι H st) (h1 : H y = none) (h2 : H dx = none) (hne : dx ≠ y) :
    Grow ι H (ι.add y) (upd (upd H dx (.own y)) y (.ins (W.cl n) dx [])) ∧ RelH W (ι.add y) (upd (upd H dx (.own y)) y (.ins (W.cl n) dx [])) (st ++ [.ins n [] []]) := by
  have h3 : (upd H dx (.own y)) y = none := by rw [upd_ne (Ne.symm hne)]; exact h1
  exact ⟨(Grow.laid h2).trans (Grow.cell h3), (r.laid h2).new h3 ⟨dx, [], upd_same, rfl, Reps.nil⟩⟩
theorem j_make {C : Addr} (eC : C = W.cl n) (M : Mk X.K C g) (F0 : FnOk X.prog X.w X.K X.mg X.base CX0 k g fd ps (spM W ar F)) (hr : Room (k + 1) X.A) (hg : Gl X x) (hm : X.mg x = some (.ref C)) (hb : Binds X.K fd ps ds) (hd : Vals dvs ds) (hdv : ∀ ι H, Reps W ι H dds dvs) (hx : Passes CX0 X E)
    (ha : PA X (e :: es) (TAs W am)) (hdb : (x == ("__debug__" : Str)) = false := by decide) (he : starEach (e :: es) X.env = (false, eval e X.env) :: starEach es X.env := by rfl) (hpl : (backTo pos (starEach es X.env)).any (·.1) = false := by rfl) :
    PE X (.Call (.Name x p) (e :: es) [] pos) (T W (eNew n ar F dds am)) := (pe_make M F0 hr hg hm hb hd hx ha hdb he hpl).imp fun σ H Q ⟨ι, st, env, d, st', r, q, e, kk⟩ => by
  unfold eNew at e
  split at e
  · rename_i xs s1 e1
    split at e
    · rename_i hl
      split at e
      · rename_i s2 e2
        refine TA.of r q e1 fun vs ι1 H1 g1 r1 p1 => ?_
        intro y dx hy hdx hne
        subst eC
        obtain ⟨g2, r2⟩ := made_ok (n := n) r1 hy hdx hne
        have hy2 : Rep W (ι1.add y) (upd (upd H1 dx (.own y)) y (.ins (W.cl n) dx [])) (.ref s1.length) (.ref y) := by
          simp only [Rep]
          exact ⟨y, rfl, by rw [← r1.len]; show (ι1.c ++ [y])[_]? = _; simp⟩
        refine ⟨_, _, .ref s1.length :: (xs ++ dds), .non, s2, r2, Reps.cons hy2 (Reps.grow g2 _ _ (p1.append (hdv _ _))), by simpa using hl, e2, fun v ι3 H3 g3 r3 p3 => ⟨rep_non p3, ?_⟩⟩
        exact fin_ok r1 (kk.go g1) e (g2.trans g3) r3 (Rep.grow g3 _ _ hy2)
      · cases e
    · cases e
  · cases e
theorem j_makeK {C : Addr} (eC : C = W.cl n) (M : Mk X.K C g) (F0 : FnOk X.prog X.w X.K X.mg X.base CX0 k g fd ps (spM W ar F)) (hr : Room (k + 1) X.A) (hg : Gl X x) (hm : X.mg x = some (.ref C)) (hb : Binds X.K fd ps ds) (hd : Vals dvs ds) (hdv : ∀ ι H, Reps W ι H dds dvs) (hx : Passes CX0 X E)
    (ha : PA X (e :: es) (TAs W am)) (hdb : (x == ("__debug__" : Str)) = false := by decide) (he : starEach (e :: es) X.env = (false, eval e X.env) :: starEach es X.env := by rfl) (hpl : (backTo pos (starEach es X.env)).any (·.1) = false := by rfl) :
    PE X (.Call (.Name x p) (e :: es) [] pos) (T W (eNewK n ar F dds am)) := (pe_make M F0 hr hg hm hb hd hx ha hdb he hpl).imp fun σ H Q ⟨ι, st, env, d, st', r, q, e, kk⟩ => by
  unfold eNewK at e
  split at e
  · rename_i xs s1 e1
    split at e
    · rename_i hl
      split at e
      · rename_i s2 e2
        cases e
        refine TA.of r q e1 fun vs ι1 H1 g1 r1 p1 => ?_
        intro y dx hy hdx hne
        subst eC
        obtain ⟨g2, r2⟩ := made_ok (n := n) r1 hy hdx hne
        have hy2 : Rep W (ι1.add y) (upd (upd H1 dx (.own y)) y (.ins (W.cl n) dx [])) (.ref s1.length) (.ref y) := by
          simp only [Rep]
          exact ⟨y, rfl, by rw [← r1.len]; show (ι1.c ++ [y])[_]? = _; simp⟩
        refine ⟨_, _, .ref s1.length :: (xs ++ dds), .non, st', r2, Reps.cons hy2 (Reps.grow g2 _ _ (p1.append (hdv _ _))), by simpa using hl, e2, fun v ι3 H3 g3 r3 p3 => ⟨rep_non p3, ?_⟩⟩
        exact kk _ _ _ ((g1.trans g2).trans g3) r3 (Rep.grow g3 _ _ hy2)
      · cases e
    · cases e
  · cases e
theorem jin_add : InOp X .Add (M2 W dAddI) := ji_add
theorem jin_sub : InOp X .Sub (M2 W dSub) := ji_sub
end
section
variable {env : Env} {st : Store} {Q : D → Store → Prop} {QS : Out → Store → Prop}
theorem ev_fld {n f : Str} {m : EM} : EvE (eFld n f m) env st Q ↔ EvE m env st fun o s1 => ∃ fs vs d, insA s1 o = some (n, fs, vs) ∧ fGet fs vs f = some d ∧ Q d s1 := by
  unfold EvE eFld
  constructor
  · rintro ⟨d, s, e, q⟩
    split at e
    · rename_i x s1 h
      split at e
      · rename_i n' fs vs h2
        split at e
        · rename_i hn
          subst hn
          rw [Option.map_eq_some_iff] at e
          obtain ⟨z, e1, e2⟩ := e
          cases e2
          exact ⟨x, _, h, fs, vs, _, h2, e1, q⟩
        · cases e
      · cases e
    · cases e
  · rintro ⟨x, s1, h, fs, vs, d, h2, h3, q⟩
    exact ⟨d, s1, by rw [h]; simp only [h2, h3, if_true, Option.map_some], q⟩
theorem ev_fldM {n f : Str} {mo mv : EM} : EvS (sFldM n f mo mv) env st QS ↔ EvE mv env st fun v s1 => EvE mo env s1 fun o s2 => ∃ s3, fldPut n f o v s2 = some s3 ∧ QS (.nx env) s3 := by
  unfold EvS EvE sFldM
  constructor
  · rintro ⟨d, s, e, q⟩
    split at e
    · rename_i v s1 h1
      split at e
      · rename_i o s2 h2
        split at e
        · rename_i s4 h4
          cases e
          exact ⟨_, _, h1, _, _, h2, _, h4, q⟩
        · cases e
      · cases e
    · cases e
  · rintro ⟨v, s1, h1, o, s2, h2, s4, h4, q⟩
    exact ⟨_, s4, by rw [h1]; simp only [h2, h4], q⟩
theorem ev_meth {n m : Str} {ar : Nat} {F : FM} {dds : List D} {mo : EM} {a : AM} : EvE (eMeth n m ar F dds mo a) env st Q ↔ EvE mo env st fun o s1 => ∃ fs vs, insA s1 o = some (n, fs, vs) ∧ m ∉ fs ∧ EvA a env s1 fun xs s2 => (o :: (xs ++ dds)).length = ar ∧ EvF F (o :: (xs ++ dds)) s2 Q := by
  unfold EvE EvA EvF eMeth
  constructor
  · rintro ⟨d, s, e, q⟩
    split at e
    · rename_i x s1 h
      split at e
      · rename_i n' fs vs h2
        split at e
        · rename_i hn
          obtain ⟨rfl, hm⟩ := hn
          split at e
          · rename_i xs s2 h3
            split at e
            · rename_i hl
              exact ⟨x, s1, h, fs, vs, h2, hm, xs, s2, h3, hl, d, s, e, q⟩
            · cases e
          · cases e
        · cases e
      · cases e
    · cases e
  · rintro ⟨x, s1, h, fs, vs, h2, hm, xs, s2, h3, hl, d, s, e, q⟩
    exact ⟨d, s, by rw [h]; simp only [h2, h3, if_pos hl, hm, not_false_eq_true, and_self, if_true]; exact e, q⟩
theorem ev_new {n : Str} {ar : Nat} {F : FM} {dds : List D} {a : AM} : EvE (eNew n ar F dds a) env st Q ↔ EvA a env st fun xs s1 => (xs ++ dds).length + 1 = ar ∧ EvF F (.ref s1.length :: (xs ++ dds)) (s1 ++ [.ins n [] []]) fun d s2 => d = .non ∧ EvF (fun _ s => fin s1 (.ref s1.length) s) [] s2 Q := by
  unfold EvE EvA EvF eNew
  constructor
  · rintro ⟨d, s, e, q⟩
    split at e
    · rename_i xs s1 h
      split at e
      · rename_i hl
        split at e
        · rename_i s2 h2
          exact ⟨xs, s1, h, hl, _, s2, h2, rfl, d, s, e, q⟩
        · cases e
      · cases e
    · cases e
  · rintro ⟨xs, s1, h, hl, _, s2, h2, rfl, d, s, e, q⟩
    exact ⟨d, s, by rw [h]; simp only [if_pos hl, h2]; exact e, q⟩
theorem ev_newK {n : Str} {ar : Nat} {F : FM} {dds : List D} {a : AM} : EvE (eNewK n ar F dds a) env st Q ↔ EvA a env st fun xs s1 => (xs ++ dds).length + 1 = ar ∧ EvF F (.ref s1.length :: (xs ++ dds)) (s1 ++ [.ins n [] []]) fun d s2 => d = .non ∧ Q (.ref s1.length) s2 := by
  unfold EvE EvA EvF eNewK
  constructor
  · rintro ⟨d, s, e, q⟩
    split at e
    · rename_i xs s1 h
      split at e
      · rename_i hl
        split at e
        · rename_i s2 h2
          cases e
          exact ⟨xs, s1, h, hl, _, _, h2, rfl, q⟩
        · cases e
      · cases e
    · cases e
  · rintro ⟨xs, s1, h, hl, _, s2, h2, rfl, q⟩
    exact ⟨_, s2, by rw [h]; simp only [if_pos hl, h2], q⟩
end
end My

namespace My
open PySem PySem.Spec PyProof.Rows L2

/-! ### enumerate(v), v told by its iterator -/
section
open Sem (wp)
set_option maxHeartbeats 1000000 in
theorem meets_enum1 {v : Value} {o : Obj} {Hw : Heap → Prop} (B : Begins v o Hw) :
    Meets (Builtin.«enumerate.__new__» ⟨[.type "enumerate", v], []⟩) (fun _ R s => Hw s.heap ∧
      R (.ok (.ret (.ref (s.heap.push o).objs.size))) { s with heap := (s.heap.push o).push { cls := .type "enumerate", data := .fields #[.none, .bool false, .ref s.heap.objs.size, rawInt 0, .none, .none] } }) :=
  .of_wp fun prog w A R s want => by
    obtain ⟨hp, gg, dd, tk, oo⟩ := s
    obtain ⟨h1, want⟩ := want
    have hsub := sub_enumerate
    have q1 : ∀ {A1 : Around} {E1 : Value → Shared → Prop} {Q1 : Value → Shared → Prop}, Q1 (.ref hp.objs.size) ⟨hp.push o, gg, dd, tk, oo⟩ → wpAny (model prog w) A1 (pyIter v) Q1 E1 ⟨hp, gg, dd, tk, oo⟩ := fun q => B.iter prog w _ _ ⟨hp, gg, dd, tk, oo⟩ _ h1 q
    wp_walk using q1
    refine wpAny_stack_any fun st => wpAny_pure ?_
    split
    · rename_i cc _ _ _ _ _
      cases (cc == Value.type "enumerate")
      all_goals
        wp_walk using q1
        exact ⟨_, rfl, want⟩
    · wp_walk using q1
      exact ⟨_, rfl, want⟩
variable {prog : Program} {w : World} {A : Around} {E : Value → Shared → Prop} {s : Shared}
theorem enum1_begins {v : Value} {o : Obj} {Hw : Heap → Prop} {Q : Value → Shared → Prop} (B : Begins v o Hw) (h1 : Hw s.heap)
    (k : ∀ h', IsEnum h' (s.heap.objs.size + 1) s.heap.objs.size 0 .none → h'.get? s.heap.objs.size = some o → (∀ b ob, s.heap.get? b = some ob → h'.get? b = some ob) → Q (.ref (s.heap.objs.size + 1)) { s with heap := h' }) :
    wpAny (model prog w) A (call (.type "enumerate") [v]) Q E s := by
  refine callType_new F.called_enumerate (by decide) (F.typeCall_enumerate_1 _) (F.newCall_enumerate_1 _) (fun ob => F.args_object_init_2 ob _) F.entry_enumerate_new (meets_enum1 B) ⟨h1, ?_⟩
  have sz : (s.heap.push o).objs.size = s.heap.objs.size + 1 := Heap.size_push ..
  show _ ∧ _
  rw [sz]
  have en : IsEnum ((s.heap.push o).push { cls := .type "enumerate", data := .fields #[.none, .bool false, .ref s.heap.objs.size, rawInt 0, .none, .none] }) (s.heap.objs.size + 1) s.heap.objs.size 0 .none := by
    have z := Heap.get?_push_size (s.heap.push o) (o := { cls := .type "enumerate", data := .fields #[.none, .bool false, .ref s.heap.objs.size, rawInt 0, .none, .none] }) rfl
    rw [sz] at z
    exact z
  exact ⟨⟨_, en, rfl⟩, k _ en (Heap.get?_push_of_some _ (Heap.get?_push_size _ B.free)) fun b ob x => Heap.get?_push_of_some _ (Heap.get?_push_of_some _ x)⟩
end

/-! ### enumerate over a tuple -/
/-- the items of the tuple at a, each in a new pair with its place -/
def EnT (K : PySem.W.Frag) (a : Addr) : It where
  go := fun i H => ∃ (ys : List V) (y : V), SqT K H a ys ∧ ys[i]? = some y
  yld := fun i H v H' => ∃ p y, v = .ref p ∧ H p = none ∧ H' = upd H p (.tup [.int (i : Nat), y]) ∧ ∀ ys, SqT K H a ys → ys[i]? = some y
  stop := fun i H => ∃ ys : List V, SqT K H a ys ∧ ys.length ≤ i
theorem isTuple_of {h : Heap} {a : Addr} {xs : Array Value} (p : IsTup h a xs) : h.IsTuple a xs := by
  obtain ⟨o, h1, h2, n, h3⟩ := p
  exact ⟨o, h1, h2, n, h3⟩
theorem turn_EnT {P : Program} {w : World} {K : PySem.W.Frag} {elts : List Expr} {kk : Nat} {tpos : Pos} (a c d : Addr) :
    Turn P w K (.Tuple elts kk tpos) (EnT K a) [c, d] c (fun n hp => (∃ o, IsEnum hp c d ((n : Nat) : Int) o) ∧ hp.IsTupleIter d a n ∧ c ≠ d) where
  mem := List.mem_cons_self
  obj := by
    rintro n hp ⟨⟨o, q1⟩, ⟨ob, q2, _, q3⟩, _⟩ b m
    rcases List.mem_cons.mp m with e | m
    · subst e
      exact ⟨_, q1, fun v z => by cases z⟩
    · rw [List.mem_singleton.mp m]
      exact ⟨ob, q2, fun v z => by rw [q3] at z; cases z⟩
  keep := by
    rintro n h1 h2 ⟨⟨o, q1⟩, q2, q3⟩ k
    exact ⟨⟨o, k _ List.mem_cons_self _ q1⟩, q2.at fun ob z => k _ (List.mem_cons_of_mem _ List.mem_cons_self) ob z, q3⟩
  item := by
    intro X e1 e2 e3 hc n pins s σ H E I hf tn hg
    subst e1 e2 e3
    obtain ⟨⟨o, q1⟩, q2, q3⟩ := tn
    obtain ⟨ys, y, g1, g2⟩ := hg
    obtain ⟨zs, rz, it, _⟩ := I.tuple g1
    obtain ⟨u, hu, ru⟩ := rz.get g2
    have ha : a ≠ d := by
      rintro rfl
      obtain ⟨o1, w1, w2, _⟩ := it
      obtain ⟨o2, w3, w4, _⟩ := q2
      rw [w1] at w3
      cases w3
      rw [w2] at w4
      exact absurd w4 (by decide)
    have hca : c ≠ a := by
      rintro rfl
      obtain ⟨o1, w1, w2, _⟩ := it
      have w3 : s.heap.get? c = some _ := q1
      rw [w1] at w3
      cases w3
      exact absurd (show Value.type "enumerate" = Value.type "tuple" from w2) (by decide)
    have hn : n < zs.toArray.size := by
      rw [List.size_toArray]
      exact (List.getElem?_eq_some_iff.mp hu).1
    have sc := Heap.lt_size (show s.heap.get? c = some _ from q1)
    have sd : d < s.heap.objs.size := let ⟨_, z, _⟩ := q2; Heap.lt_size z
    refine wpAny_pyNext_enum_itemD (Draws.tuple (A := X.A.in1) (show X.A.in1.handled = none from I.ok.hd hc) d a ha zs.toArray) q1 ⟨q2, isTuple_of it⟩ hn q3 (by simp [q3, hca]) fun x h' tk hx out st' hT sz kp => ?_
    have hx2 : x = u := by
      have z : zs.toArray[n]? = some x := hx
      rw [List.getElem?_toArray, hu] at z
      exact (Option.some.inj z).symm
    subst hx2
    refine ⟨_, rfl, wpAny_letOwnedTupleGo_enum (s := { s with heap := h', toks := tk + 1 }) out fun h2 en sb => ?_⟩
    have hT2 := (sb.2 _ (Nat.ne_of_gt sc)).trans hT
    have nw : ObjOk X.prog X.w (upd H s.heap.objs.size (.tup [.int (n : Nat), y])) h2 s.heap.objs.size (.tup [.int (n : Nat), y]) :=
      ⟨by show 2 ≤ sizeLine; decide, [.int n tk, x], .cons ⟨_, rfl⟩ (.cons ru .nil), ⟨_, hT2, rfl, _, rfl⟩⟩
    have I2 : Inv X pins σ (upd H s.heap.objs.size (.tup [.int (n : Nat), y])) { s with heap := h2, toks := tk + 1 } := by
      refine I.turnedNew (ch := [c, d]) (fun b ob hb z => ?_) hf (Nat.le_refl _) nw
      have nc : b ≠ c := fun z => hb (by simp [z])
      have nd : b ≠ d := fun z => hb (by simp [z])
      exact (sb.2 b nc).trans (kp b ob nc nd z)
    refine ⟨.ref s.heap.objs.size, _, I2, rfl, ⟨_, y, rfl, I.hok.fresh (Nat.le_refl _), rfl, fun l hl => ?_⟩, ⟨⟨x, ?_⟩, ?_, q3⟩, fun b hb => ?_⟩
    · rw [I.tuple_inj hl g1]
      exact g2
    · have z : ((n + 1 : Nat) : Int) = (n : Int) + 1 := by omega
      rw [z]
      exact en
    · exact st'.1.at fun ob z => (sb.2 d (Ne.symm q3)).trans z
    · have lt : b < s.heap.objs.size := by
        rcases List.mem_cons.mp hb with z | z
        · rw [z]; exact sc
        · rw [List.mem_singleton.mp z]; exact sd
      rw [upd_ne (Nat.ne_of_lt lt)]
      exact (hf b hb).1
  done := by
    intro X e1 e2 e3 hc n pins s σ H E I hf tn hg
    subst e1 e2 e3
    obtain ⟨⟨o, q1⟩, q2, q3⟩ := tn
    obtain ⟨ys, g1, g2⟩ := hg
    obtain ⟨zs, rz, it, _⟩ := I.tuple g1
    obtain ⟨f0, f1, f2, f3, f4, f5⟩ := hf d (by simp)
    have ha : a ≠ d := by
      rintro rfl
      obtain ⟨o1, w1, w2, _⟩ := it
      obtain ⟨o2, w3, w4, _⟩ := q2
      rw [w1] at w3
      cases w3
      rw [w2] at w4
      exact absurd w4 (by decide)
    have hl := rz.length
    have hh := I.ok.hd hc
    refine pyNext_end hh q1 q2 (isTuple_of it) (by rw [List.size_toArray, ← hl]; exact g2) fun h' eb => ⟨rfl, I.turned (t' := s.toks) (fun b ob hb z => eb b ob hb z) f0 f1 f3 f4 f5⟩
  self := by
    rintro A n s Q E ⟨⟨o, q1⟩, _⟩ h
    exact wpAny_pyIter_enum q1 h
where
  pyNext_end {prog : Program} {w : World} {A : Around} {E : Value → Shared → Prop} {s : Shared} {c d a : Addr} {items : Array Value} {n : Nat} {o : Value} {Q : Option Value → Shared → Prop} (hh : A.handled = none) (he : IsEnum s.heap c d ((n : Nat) : Int) o) (hi : s.heap.IsTupleIter d a n) (ht : s.heap.IsTuple a items) (hn : items.size ≤ n)
      (hQ : ∀ h', Heap.ExtBut d s.heap h' → Q none { s with heap := h' }) : wpAny (model prog w) A (pyNext (.ref c)) Q E s := by
    have D : Draws prog w A.in1 d [d, a] n (fun i v => items[i]? = some v) (fun i h => h.IsTupleIter d a i ∧ h.IsTuple a items ∧ n ≤ i) := {
      live := fun _ _ st => let ⟨o, ho, _⟩ := st.1; ⟨o, ho⟩
      frame := fun i h1 h2 st k => ⟨st.1.at fun o e => k d (by simp) o e, st.2.1.at fun o e => k a (by simp) o e, st.2.2⟩
      item := fun i s Q E hi st _ => absurd hi (by have := st.2.2; omega)
      done := fun s Q E st hE => wpAny_nextOf_tuple_end (show A.in1.handled = none from hh) st.1 st.2.1 (Array.getElem?_eq_none (Nat.le_trans hn st.2.2)) hE }
    exact wpAny_pyNext_enum_endD D he ⟨hi, ht, Nat.le_refl _⟩ hQ

def iEnT (K : PySem.W.Frag) (ta : TA) : TI := fun σ H R => ta σ H fun vs H1 => ∃ a ys, vs = [.ref a] ∧ SqT K H1 a ys ∧ R (EnT K a) H1
theorem pi_EnT {X : Cx} {e : Expr} {ta : TA} {p pos tpos : Pos} {elts : List Expr} {kk : Nat} (hg : Gl X "enumerate") (hm : X.mg "enumerate" = none) (ha : PA X [e] ta) (hs : starEach [e] X.env = [(false, eval e X.env)] := by rfl) :
    PI X (.Tuple elts kk tpos) (.Call (.Name "enumerate" p) [e] [] pos) (iEnT X.K ta) := by
  constructor
  intro pins s σ H R I want
  refine Call_ (ld_blt I hg hm boot_enumerate (PyProof.Rows.callWith_type1 (thn (ha.run pos pins s σ H _ I want) fun us s1 ⟨vs, H1, J, rv, got⟩ => ?_) hs rfl))
  obtain ⟨a, ys, rfl, hq, got⟩ := got
  obtain ⟨u, rfl, ru⟩ := vals1 rv
  cases ru
  obtain ⟨zs, rz, it, _⟩ := J.tuple hq
  refine enum1_begins (begins_tuple a zs.toArray) (isTuple_of it) fun h' he ho hk => wpAny_pyIter_enum he ?_
  have J2 : Inv X pins σ H1 { s1 with heap := h' } := J.kept (t' := s1.toks) hk
  refine ⟨s1.heap.objs.size + 1, [s1.heap.objs.size + 1, s1.heap.objs.size], _, _, H1, rfl, J2, turn_EnT a (s1.heap.objs.size + 1) s1.heap.objs.size, ⟨⟨.none, he⟩, ⟨_, ho, rfl, rfl⟩, Nat.succ_ne_self _⟩, fun b hb => ?_, got⟩
  have le : s1.heap.objs.size ≤ b := by
    simp only [List.mem_cons, List.not_mem_nil, or_false] at hb
    rcases hb with z | z <;> (rw [z]; omega)
  exact J.fpOk le (J.hok.fresh le)

/-! ### enumerate and zip in mirrors -/
def numbered (xs : List D) : List D := xs.mapIdx fun i x => .tup [.int (i : Nat), x]
def zipped (xs ys : List D) : List D := List.zipWith (fun x y => D.tup [x, y]) xs ys
def tupB : D → Bool
  | .tup _ => true
  | .tpf _ => true
  | _ => false
/-- what is walked is a tuple, a list or a cell: its items, and what must stay -/
def walked (st : Store) : D → Option (List D × (Store → Prop))
  | .tup xs => some (xs, always)
  | .tpf xs => some (xs, always)
  | .lst xs => some (xs, always)
  | .ref i => match st[i]? with
    | some (.lst xs) => some (xs, fun s => s[i]? = some (.lst xs))
    | _ => none
  | _ => none
def iEnum (m : EM) : IM := fun env st => match m env st with
  | some (d, s1) => match walked s1 d with
    | some (xs, gd) => some (numbered xs, gd, s1)
    | none => none
  | none => none
def iZip (m m2 : EM) : IM := fun env st => match m env st with
  | some (d, s1) => match m2 env s1 with
    | some (e, s2) => match walked s2 d, walked s2 e with
      | some (xs, gd), some (ys, gd2) => if (tupB d) = (tupB e) then some (zipped xs ys, fun s => gd s ∧ gd2 s, s2) else none
      | _, _ => none
    | none => none
  | none => none
section
variable {W : Wd}
theorem walked_ok {ι0 : Lay} {H0 : Hp} {st : Store} {d : D} {v : V} {xs : List D} {gd : Store → Prop} (r : RelH W ι0 H0 st) (h : Rep W ι0 H0 d v) (e : walked st d = some (xs, gd)) :
    ∃ a, v = .ref a ∧ gd st ∧ (((tupB d) = true ∧ ∀ ι H s, Gro ι0 H0 ι H → RelH W ι H s → gd s → ∃ vs, SqT W.K H a vs ∧ Reps W ι H xs vs) ∨ ((tupB d) = false ∧ ∀ ι H s, Gro ι0 H0 ι H → RelH W ι H s → gd s → ∃ vs, SqL W.K H a vs ∧ Reps W ι H xs vs)) := by
  unfold walked at e
  split at e
  · cases e
    obtain ⟨a, vs, rfl, h1, h2⟩ := seqT_ok h (xs := xs) rfl
    exact ⟨a, rfl, trivial, .inl ⟨rfl, fun ι H s g _ _ => ⟨vs, SqT.of (g.keep _ _ (.inr fun z => z) h1), Reps.gro g _ _ h2⟩⟩⟩
  · cases e
    obtain ⟨a, o, vs, rfl, _, h0, h1, h2⟩ := tpf_ok h
    exact ⟨a, rfl, trivial, .inl ⟨rfl, fun ι H s g _ _ => ⟨vs, .inl (.inr ⟨o, g.keep _ _ (.inr fun z => z) h0⟩), Reps.gro g _ _ h2⟩⟩⟩
  · cases e
    simp only [Rep] at h
    obtain ⟨a, rfl, na, vs, h1, h2⟩ := h
    exact ⟨a, rfl, trivial, .inr ⟨rfl, fun ι H s g _ _ => ⟨vs, SqL.of (g.keep _ _ (.inl na) h1), Reps.gro g _ _ h2⟩⟩⟩
  · rename_i i
    split at e
    · rename_i q
      cases e
      simp only [Rep] at h
      obtain ⟨a, rfl, h1⟩ := h
      refine ⟨a, rfl, q, .inr ⟨rfl, fun ι H s g r2 gs => ?_⟩⟩
      obtain ⟨c, hc, ok⟩ := r2.at (g.pre _ _ h1)
      rw [gs] at hc
      cases hc
      obtain ⟨vs, h4, h5⟩ := ok
      exact ⟨vs, SqL.of h4, h5⟩
    · cases e
  · cases e
theorem numbered_len (xs : List D) : (numbered xs).length = xs.length := by simp [numbered]
theorem numbered_get {xs : List D} {i : Nat} {d : D} (h : (numbered xs)[i]? = some d) : ∃ x, xs[i]? = some x ∧ d = .tup [.int (i : Nat), x] := by
  unfold numbered at h
  rw [List.getElem?_mapIdx, Option.map_eq_some_iff] at h
  obtain ⟨x, h1, h2⟩ := h
  exact ⟨x, h1, h2.symm⟩
theorem pair_laid {ι : Lay} {H : Hp} {st : Store} {p : Addr} {d e : D} {v u : V} (r : RelH W ι H st) (h1 : Rep W ι H d v) (h2 : Rep W ι H e u) (hp : H p = none) : Grow ι H ι (upd H p (.tup [v, u])) ∧ RelH W ι (upd H p (.tup [v, u])) st ∧ Rep W ι (upd H p (.tup [v, u])) (.tup [d, e]) (.ref p) := by
  refine ⟨Grow.laid hp, r.laid hp, ?_⟩
  simp only [Rep]
  exact ⟨p, rfl, _, upd_same, Reps.grow (Grow.laid hp) _ _ (Reps.cons h1 (Reps.cons h2 Reps.nil))⟩
theorem itOk_enumT {a : Addr} {ι0 : Lay} {H0 : Hp} {xs : List D} {gd : Store → Prop} (h : ∀ ι H st, Gro ι0 H0 ι H → RelH W ι H st → gd st → ∃ vs, SqT W.K H a vs ∧ Reps W ι H xs vs) : ItOk W (EnT W.K a) ι0 H0 (numbered xs) gd where
  go := fun i ι H st d g r k e => by
    obtain ⟨vs, h1, h2⟩ := h ι H st g r k
    obtain ⟨x, e1, rfl⟩ := numbered_get e
    obtain ⟨v, h3, h4⟩ := h2.get e1
    refine ⟨⟨vs, v, h1, h3⟩, fun y H' ⟨p, z, q1, q2, q3, q4⟩ => ?_⟩
    subst q1 q3
    have := q4 _ h1
    rw [h3] at this
    cases this
    exact pair_laid r int_rep h4 q2
  stop := fun ι H st g r k => by
    obtain ⟨vs, h1, h2⟩ := h ι H st g r k
    exact ⟨vs, h1, by rw [numbered_len, h2.length]; exact Nat.le_refl _⟩
theorem itOk_enumL {a : Addr} {ι0 : Lay} {H0 : Hp} {xs : List D} {gd : Store → Prop} (h : ∀ ι H st, Gro ι0 H0 ι H → RelH W ι H st → gd st → ∃ vs, SqL W.K H a vs ∧ Reps W ι H xs vs) : ItOk W (Ite W.K a) ι0 H0 (numbered xs) gd where
  go := fun i ι H st d g r k e => by
    obtain ⟨vs, h1, h2⟩ := h ι H st g r k
    obtain ⟨x, e1, rfl⟩ := numbered_get e
    obtain ⟨v, h3, h4⟩ := h2.get e1
    refine ⟨⟨vs, v, h1, h3⟩, fun y H' ⟨p, z, q1, q2, q3, q4⟩ => ?_⟩
    subst q1 q3
    have := q4 _ h1
    rw [h3] at this
    cases this
    exact pair_laid r int_rep h4 q2
  stop := fun ι H st g r k => by
    obtain ⟨vs, h1, h2⟩ := h ι H st g r k
    exact ⟨vs, h1, by rw [numbered_len, h2.length]; exact Nat.le_refl _⟩
theorem zipped_get {xs ys : List D} {i : Nat} {d : D} (h : (zipped xs ys)[i]? = some d) : ∃ x y, xs[i]? = some x ∧ ys[i]? = some y ∧ d = .tup [x, y] := by
  unfold zipped at h
  rw [List.getElem?_zipWith] at h
  cases e1 : xs[i]? with
  | none => rw [e1] at h; cases h
  | some x =>
    cases e2 : ys[i]? with
    | none => rw [e1, e2] at h; cases h
    | some y =>
      rw [e1, e2] at h
      cases h
      exact ⟨x, y, rfl, rfl, rfl⟩
theorem itOk_zipT {a b : Addr} {ι0 : Lay} {H0 : Hp} {xs ys : List D} {gd g2 : Store → Prop} (h : ∀ ι H st, Gro ι0 H0 ι H → RelH W ι H st → gd st → ∃ vs, SqT W.K H a vs ∧ Reps W ι H xs vs) (k : ∀ ι H st, Gro ι0 H0 ι H → RelH W ι H st → g2 st → ∃ vs, SqT W.K H b vs ∧ Reps W ι H ys vs) : ItOk W (RZ.ItzT W.K a b) ι0 H0 (zipped xs ys) (fun s => gd s ∧ g2 s) where
  go := fun i ι H st d g r q e => by
    obtain ⟨vs, h1, h2⟩ := h ι H st g r q.1
    obtain ⟨us, k1, k2⟩ := k ι H st g r q.2
    obtain ⟨x, y, e1, e2, rfl⟩ := zipped_get e
    obtain ⟨v, h3, h4⟩ := h2.get e1
    obtain ⟨u, k3, k4⟩ := k2.get e2
    refine ⟨⟨vs, us, v, u, h1, k1, h3, k3⟩, fun z H' ⟨p, v', u', q1, q2, q3, q4, q5⟩ => ?_⟩
    subst q1 q3
    have z1 := q4 _ h1
    have z2 := q5 _ k1
    rw [h3] at z1
    rw [k3] at z2
    cases z1
    cases z2
    exact pair_laid r h4 k4 q2
  stop := fun ι H st g r q => by
    obtain ⟨vs, h1, h2⟩ := h ι H st g r q.1
    obtain ⟨us, k1, k2⟩ := k ι H st g r q.2
    refine ⟨vs, us, h1, k1, ?_⟩
    rw [← h2.length, ← k2.length]
    simp only [zipped, List.length_zipWith]
    omega
theorem itOk_zipL {a b : Addr} {ι0 : Lay} {H0 : Hp} {xs ys : List D} {gd g2 : Store → Prop} (h : ∀ ι H st, Gro ι0 H0 ι H → RelH W ι H st → gd st → ∃ vs, SqL W.K H a vs ∧ Reps W ι H xs vs) (k : ∀ ι H st, Gro ι0 H0 ι H → RelH W ι H st → g2 st → ∃ vs, SqL W.K H b vs ∧ Reps W ι H ys vs) : ItOk W (Itz W.K a b) ι0 H0 (zipped xs ys) (fun s => gd s ∧ g2 s) where
  go := fun i ι H st d g r q e => by
    obtain ⟨vs, h1, h2⟩ := h ι H st g r q.1
    obtain ⟨us, k1, k2⟩ := k ι H st g r q.2
    obtain ⟨x, y, e1, e2, rfl⟩ := zipped_get e
    obtain ⟨v, h3, h4⟩ := h2.get e1
    obtain ⟨u, k3, k4⟩ := k2.get e2
    refine ⟨⟨vs, us, v, u, h1, k1, h3, k3⟩, fun z H' ⟨p, v', u', q1, q2, q3, q4, q5⟩ => ?_⟩
    subst q1 q3
    have z1 := q4 _ h1
    have z2 := q5 _ k1
    rw [h3] at z1
    rw [k3] at z2
    cases z1
    cases z2
    exact pair_laid r h4 k4 q2
  stop := fun ι H st g r q => by
    obtain ⟨vs, h1, h2⟩ := h ι H st g r q.1
    obtain ⟨us, k1, k2⟩ := k ι H st g r q.2
    refine ⟨vs, us, h1, k1, ?_⟩
    rw [← h2.length, ← k2.length]
    simp only [zipped, List.length_zipWith]
    omega
variable {X : Cx} {e e2 : Expr} {p pos tpos : Pos} {elts : List Expr} {kk : Nat} {m m2 : EM}
theorem gd_of {st : Store} {d : D} {xs : List D} {gd : Store → Prop} (h : walked st d = some (xs, gd)) : gd st := by
  unfold walked at h
  split at h
  · cases h; trivial
  · cases h; trivial
  · cases h; trivial
  · split at h
    · rename_i q
      cases h
      exact q
    · cases h
  · cases h
theorem ji_enum (hK : X.K = W.K) (hg : Gl X "enumerate") (hm : X.mg "enumerate" = none) (ha : PE X e (T W m)) (hs : starEach [e] X.env = [(false, eval e X.env)] := by rfl) : PI X (.Tuple elts kk tpos) (.Call (.Name "enumerate" p) [e] [] pos) (TIm W (iEnum m)) := by
  refine ⟨fun pins s σ H R I ⟨ι, st, env, ds, gd, st', r, n, q, k⟩ => ?_⟩
  unfold iEnum at q
  split at q
  · rename_i d s1 e1
    split at q
    · rename_i xs gd' e2
      cases q
      have A1 : ∀ Q : List V → Hp → Prop, (∀ v ι1 H1, Grow ι H ι1 H1 → RelH W ι1 H1 st' → Rep W ι1 H1 d v → Q [v] H1) → TAs W (aCons m aNil) σ H Q := fun Q k2 => by
        refine TA.of r n (d := [d]) (st' := st') (by unfold aCons; rw [e1]; rfl) fun vs ι1 H1 g1 r1 p1 => ?_
        obtain ⟨v, rfl, hv⟩ := reps1 p1
        exact k2 v ι1 H1 g1 r1 hv
      cases hT : (tupB d) with
      | true =>
        refine (pi_EnT hg hm (ja_cons ha ja_nil hs) hs).run pins s σ H R I (A1 _ fun v ι1 H1 g1 r1 p1 => ?_)
        obtain ⟨a, rfl, g0, w⟩ := walked_ok r1 p1 e2
        rcases w with ⟨_, w⟩ | ⟨z, _⟩
        · rw [hK]
          obtain ⟨vs, w1, _⟩ := w ι1 H1 st' Grow.refl.gro r1 g0
          exact ⟨a, vs, rfl, w1, k _ ι1 H1 g1 r1 (itOk_enumT w)⟩
        · rw [hT] at z; cases z
      | false =>
        refine (pi_enum hg hm (ja_cons ha ja_nil hs) hs).run pins s σ H R I (A1 _ fun v ι1 H1 g1 r1 p1 => ?_)
        obtain ⟨a, rfl, g0, w⟩ := walked_ok r1 p1 e2
        rcases w with ⟨z, _⟩ | ⟨_, w⟩
        · rw [hT] at z; cases z
        · rw [hK]
          obtain ⟨vs, w1, _⟩ := w ι1 H1 st' Grow.refl.gro r1 g0
          exact ⟨a, vs, rfl, w1, k _ ι1 H1 g1 r1 (itOk_enumL w)⟩
    · cases q
  · cases q
theorem ji_zip (hK : X.K = W.K) (hg : Gl X "zip") (hm : X.mg "zip" = none) (ha : PE X e (T W m)) (hb : PE X e2 (T W m2))
    (hs : starEach [e, e2] X.env = (false, eval e X.env) :: starEach [e2] X.env := by rfl) (hs2 : starEach [e2] X.env = [(false, eval e2 X.env)] := by rfl) (hpl : (backTo pos (starEach [e2] X.env)).any (·.1) = false := by rfl) :
    PI X (.Tuple elts kk tpos) (.Call (.Name "zip" p) [e, e2] [] pos) (TIm W (iZip m m2)) := by
  refine ⟨fun pins s σ H R I ⟨ι, st, env, ds, gd, st', r, n, q, k⟩ => ?_⟩
  unfold iZip at q
  split at q
  · rename_i d s1 e1
    split at q
    · rename_i d2 s2 e2
      split at q
      · rename_i xs gd1 ys gd2 w1 w2
        split at q
        · rename_i hT
          cases q
          refine (RZ.pi_zipA hg hm (ja_cons ha (ja_cons hb ja_nil hs2) hs) hs hpl).run pins s σ H R I (TA.of r n (d := [d, d2]) (st' := st') (by unfold aCons; rw [e1]; dsimp only; rw [e2]; rfl) fun vs ι1 H1 g1 r1 p1 => ?_)
          obtain ⟨v, u, rfl, hv, hu⟩ := reps2 p1
          obtain ⟨a, rfl, g0, q1⟩ := walked_ok r1 hv w1
          obtain ⟨b, rfl, g02, q2⟩ := walked_ok r1 hu w2
          rw [hK]
          rcases q1 with ⟨z1, q1⟩ | ⟨z1, q1⟩
          · rcases q2 with ⟨z2, q2⟩ | ⟨z2, q2⟩
            · obtain ⟨vs, y1, _⟩ := q1 ι1 H1 st' Grow.refl.gro r1 g0
              obtain ⟨us, y2, _⟩ := q2 ι1 H1 st' Grow.refl.gro r1 g02
              exact ⟨a, b, vs, us, rfl, .inr ⟨y1, y2, k _ ι1 H1 g1 r1 (itOk_zipT q1 q2)⟩⟩
            · rw [z1, z2] at hT; cases hT
          · rcases q2 with ⟨z2, q2⟩ | ⟨z2, q2⟩
            · rw [z1, z2] at hT; cases hT
            · obtain ⟨vs, y1, _⟩ := q1 ι1 H1 st' Grow.refl.gro r1 g0
              obtain ⟨us, y2, _⟩ := q2 ι1 H1 st' Grow.refl.gro r1 g02
              exact ⟨a, b, vs, us, rfl, .inl ⟨y1, y2, k _ ι1 H1 g1 r1 (itOk_zipL q1 q2)⟩⟩
        · cases q
      · cases q
    · cases q
  · cases q
end
section
variable {env : Env} {st : Store} {QI : List D → (Store → Prop) → Store → Prop}
theorem ev_enum {m : EM} : EvI (iEnum m) env st QI ↔ EvE m env st fun d s1 => ∃ xs gd, walked s1 d = some (xs, gd) ∧ QI (numbered xs) gd s1 := by
  unfold EvI EvE iEnum
  constructor
  · rintro ⟨ds, gd, s, e, q⟩
    split at e
    · rename_i d s1 h
      split at e
      · rename_i xs gd' h2
        cases e
        exact ⟨_, _, h, xs, _, h2, q⟩
      · cases e
    · cases e
  · rintro ⟨d, s1, h, xs, gd, h2, q⟩
    exact ⟨_, _, s1, by rw [h]; simp only [h2], q⟩
theorem ev_zip {m m2 : EM} : EvI (iZip m m2) env st QI ↔ EvE m env st fun d s1 => EvE m2 env s1 fun e s2 => ∃ xs gd ys gd2, walked s2 d = some (xs, gd) ∧ walked s2 e = some (ys, gd2) ∧ (tupB d) = (tupB e) ∧ QI (zipped xs ys) (fun s => gd s ∧ gd2 s) s2 := by
  unfold EvI EvE iZip
  constructor
  · rintro ⟨ds, gd, s, e, q⟩
    split at e
    · rename_i d s1 h
      split at e
      · rename_i d2 s2 h2
        split at e
        · rename_i xs gd1 ys gd2 w1 w2
          split at e
          · rename_i ht
            cases e
            exact ⟨_, _, h, _, _, h2, xs, _, ys, _, w1, w2, ht, q⟩
          · cases e
        · cases e
      · cases e
    · cases e
  · rintro ⟨d, s1, h, e, s2, h2, xs, gd, ys, gd2, w1, w2, ht, q⟩
    exact ⟨_, _, s2, by rw [h]; simp only [h2, w1, w2, if_pos ht], q⟩
end
end My

namespace My
open PySem PySem.Spec PyProof.Rows L2
section
variable {P : Program} {w : World} {K : PySem.W.Frag} {mg : Str → Option Value} {base : Heap} {k : Nat} {f : Addr} {fd : FuncData} {x : Str} {ps : List Str}
theorem FnG.imp {sp sp' : Sp} (F : FnG P w K mg base k f fd ps sp) (h : ∀ vs H Q, sp' vs H Q E0 → sp vs H Q E0) : FnG P w K mg base k f fd ps sp' :=
  ⟨fun vs H Q q => F.len vs H Q (h _ _ _ q), fun hg hr he hb hv q => F.go hg hr he hb hv (h _ _ _ q)⟩
/-- the promise of a law at a list of whole numbers of the caller's -/
def spLaw (K : PySem.W.Frag) : Sp := fun vs H Q _ => ∃ (a : Addr) (ns : List Int), vs = [.ref a] ∧ Only H ∧ SqL K H a (ns.map V.int) ∧ ns.length ≤ 63 ∧ ∀ H', Q (.bl true) H'
theorem fz_of {H : Hp} {a : Addr} {xs : List V} (o : Only H) (h : SqL K H a xs) : FzL K H a xs := by
  rcases h with (h | h) | h
  · rcases o a with z | ⟨ob, ys, z⟩
    · rw [h] at z; cases z
    · rw [h] at z; cases z
  · exact .inl h
  · exact .inr h
theorem FnG.law {F : FM} (G : FnG P w K mg base k f fd [x] (spM (wd K mg) [x].length F)) (due : ∀ ns : List Int, ns.length ≤ 63 → EvF F [.scr ns] [] fun d _ => d = .bl true) : FnG P w K mg base k f fd [x] (spLaw K) := by
  refine G.imp fun vs H Q ⟨a, ns, e, ho, hs, hl, q⟩ => ?_
  subst e
  obtain ⟨d, st', e, rfl⟩ := due ns hl
  refine ⟨⟨[], []⟩, [], [.scr ns], .bl true, st', ⟨rfl, .nil, nofun, nofun, nofun⟩, Reps.cons ?_ Reps.nil, rfl, e, ?_⟩
  · simp only [Rep]
    exact ⟨a, rfl, fz_of ho hs⟩
  · intro v ι' H' _ _ p
    simp only [Rep] at p
    subst p
    exact q H'
end
section
variable {P : Program} {w : World} {K : PySem.W.Frag} {mg : Str → Option Value} {base : Heap} {W : Wd}
/-- a def with defaults, by its mirror -/
theorem jdD {x qual : Str} {params : Arguments} {stmts : List Stmt} {scope : Scope} {dvs : List V} {kws : List (Str × V)} {f : Addr} {fd : FuncData} {N ps : List Str} {k : Nat} {body : SM} (F : FunD K x qual params stmts scope dvs kws f fd) (S : FnScope N ps scope)
    (h : ∀ (cdv : Value) (A : Around) (out : List PySem.Env) (s : Shared) (H : Hp) (E : XK), Room k (A.deeper (envOfC qual scope s.heap.objs.size f cdv)) → PSs (cxOf CX0 P w K mg base N qual scope f cdv A out s H E).nox stmts (TSt W body)) :
    FnOk P w K mg base CX0 (k + 1) f fd ps (spM W ps.length (mkF N.length body)) :=
  F.ok S (fun vs H Q E h => spM_len h) fun cdv A out s H vs Q E hr q => ⟨_, (h cdv A out s H E hr).nox, mkF_ok q⟩
end
end My

namespace My
open PySem PySem.Spec PyProof.Rows L2

/-! ### max(xs, default=d) of a list of ints -/
section
variable {prog : Program} {w : World} {A : Around} {R : Result → Shared → Prop} {I : Addr} {fp wr : List Addr} {n : Nat} {P : Nat → Value → Prop} {St : Nat → Heap → Prop}
theorem mxd_name : (toString "max" ++ toString ".loop" : String) = "max.loop" := by decide
theorem mxd_loop (d : Value) (W : Walks prog w A.in1 I fp wr n P St) (bt : Nat → Nat → Bool) (cmp : CmpOf prog w A.in1 .Gt P bt) (B : Addr) (nB : B ∉ fp) :
    ∀ (m i : Nat) (s : Shared) (v0 : Value) (c : Nat), m + (i + 1) = n → St (i + 1) s.heap → P (argBest bt i) v0 →
      s.heap.get? B = some { cls := .type "list", dict := none, data := .seq #[v0, v0] c, slots := #[] } →
      (∀ v h' tk, P (argBest bt (n - 1)) v → (∀ b o, b ∉ wr → b ≠ B → s.heap.get? b = some o → h'.get? b = some o) → R (.ok (.ret v)) { s with heap := h', toks := tk }) →
      codeAny (model prog w) A (.builtin "max.loop" ⟨[.ref I, .none, .ref B], [("default", d)]⟩) R s := by
  have nBw : B ∉ wr := fun z => nB (W.sub _ z)
  intro m
  induction m with
  | zero =>
    intro i s v0 c em st p0 cell fin
    have en : i + 1 = n := by omega
    refine codeAny_builtin F.entry_max_loop ?_
    rw [Around.under_plainId F.plain_max_loop _]
    show wpAny _ A.in1 (seqItems? (.ref B) >>= _) _ _ s
    refine wpAny_bind (wpAny_seqItems cell rfl ?_)
    show wpAny _ A.in1 (tryCatch (pyNext (.ref I)) _ >>= _) _ _ s
    refine wpAny_bind (wpAny_tryCatch (W.done s _ _ (en ▸ st) fun h1 t1 kp => ?_))
    have cell1 := kp B _ nBw cell
    show wpAny _ A.in1 (updateSeq B (fun _ => #[]) >>= _) _ _ _
    refine wpAny_bind (wpAny_updateSeq cell1 rfl (wpAny_bind (wpAny_letGo (wpAny_pure ?_))))
    exact fin v0 _ t1 (by rw [← en]; exact p0) fun b o h1 h2 e => (Heap.get?_update_other _ _ (Ne.symm h2)).trans (kp b o h1 e)
  | succ m ih =>
    intro i s v0 c em st p0 cell fin
    refine codeAny_builtin F.entry_max_loop ?_
    rw [Around.under_plainId F.plain_max_loop _]
    show wpAny _ A.in1 (seqItems? (.ref B) >>= _) _ _ s
    refine wpAny_bind (wpAny_seqItems cell rfl ?_)
    show wpAny _ A.in1 (tryCatch (pyNext (.ref I)) _ >>= _) _ _ s
    refine wpAny_bind (wpAny_tryCatch (W.item (i + 1) s _ _ (by omega) st fun v h1 t1 pv st1 kp => ?_))
    have cell1 := kp B _ nBw cell
    show wpAny _ A.in1 (tryCatch (holding [v, v] (richCompare .Gt v v0 >>= _)) _ >>= _) _ _ _
    refine wpAny_bind (wpAny_tryCatch (wpAny_holding (wpAny_bind (cmp (i + 1) (argBest bt i) v v0 _ _ _ pv p0 ?_))))
    refine wpAny_bind (wpAny_holding (wpAny_truthy_bool (wpAny_bind (wpAny_letGo (wpAny_pure ?_)))))
    cases eb : bt (i + 1) (argBest bt i) with
    | true =>
      simp only [if_true]
      refine wpAny_bind (wpAny_updateSeq cell1 rfl (wpAny_bind (wpAny_letGo ?_)))
      rw [mxd_name]
      refine wpAny_pure ⟨plainId_quiet F.plain_max_loop _, ih (i + 1) _ v _ (by omega) ?st (by simp only [argBest, eb, if_true]; exact pv) (Heap.get?_update_self _ cell1 rfl) fun v' h2 t2 p' kp2 => ?fin⟩
      case st => exact W.frame _ _ _ st1 fun b hb o e => (Heap.get?_update_other _ _ (fun z : B = b => nB (by rw [z]; exact hb))).trans e
      case fin => exact fin v' h2 t2 p' fun b o n1 n2 e => kp2 b o n1 n2 ((Heap.get?_update_other _ _ (Ne.symm n2)).trans (kp b o n1 e))
    | false =>
      simp only [Bool.false_eq_true, if_false]
      refine wpAny_bind (wpAny_letGo ?_)
      rw [mxd_name]
      refine wpAny_pure ⟨plainId_quiet F.plain_max_loop _, ih (i + 1) _ v0 c (by omega) st1 (by simp only [argBest, eb, Bool.false_eq_true, if_false]; exact p0) cell1 fun v' h2 t2 p' kp2 => ?_⟩
      exact fin v' h2 t2 p' fun b o n1 n2 e => kp2 b o n1 n2 (kp b o n1 e)
theorem mxd_first (d : Value) (W : Walks prog w A.in1 I fp wr n P St) (bt : Nat → Nat → Bool) (cmp : CmpOf prog w A.in1 .Gt P bt) (B : Addr) (nB : B ∉ fp) (pos : 0 < n) {s : Shared} {c : Nat} (st : St 0 s.heap)
    (cell : s.heap.get? B = some { cls := .type "list", dict := none, data := .seq #[] c, slots := #[] })
    (fin : ∀ v h' tk, P (argBest bt (n - 1)) v → (∀ b o, b ∉ wr → b ≠ B → s.heap.get? b = some o → h'.get? b = some o) → R (.ok (.ret v)) { s with heap := h', toks := tk }) :
    codeAny (model prog w) A (.builtin "max.loop" ⟨[.ref I, .none, .ref B], [("default", d)]⟩) R s := by
  have nBw : B ∉ wr := fun z => nB (W.sub _ z)
  refine codeAny_builtin F.entry_max_loop ?_
  rw [Around.under_plainId F.plain_max_loop _]
  show wpAny _ A.in1 (seqItems? (.ref B) >>= _) _ _ s
  refine wpAny_bind (wpAny_seqItems cell rfl ?_)
  show wpAny _ A.in1 (tryCatch (pyNext (.ref I)) _ >>= _) _ _ s
  refine wpAny_bind (wpAny_tryCatch (W.item 0 s _ _ pos st fun v h1 t1 pv st1 kp => ?_))
  have cell1 := kp B _ nBw cell
  show wpAny _ A.in1 (updateSeq B (fun _ => #[v, v]) >>= _) _ _ _
  refine wpAny_bind (wpAny_updateSeq cell1 rfl ?_)
  rw [mxd_name]
  refine wpAny_pure ⟨plainId_quiet F.plain_max_loop _, mxd_loop d W bt cmp B nB (n - 1) 0 _ v _ (by omega) ?st pv (Heap.get?_update_self _ cell1 rfl) fun v' h2 t2 p' kp2 => ?fin⟩
  case st => exact W.frame _ _ _ st1 fun b hb o e => (Heap.get?_update_other _ _ (fun z : B = b => nB (by rw [z]; exact hb))).trans e
  case fin => exact fin v' h2 t2 p' fun b o n1 n2 e => kp2 b o n1 n2 ((Heap.get?_update_other _ _ (Ne.symm n2)).trans (kp b o n1 e))
theorem mxd_none (d : Value) (W : Walks prog w A.in1 I fp wr n P St) (B : Addr) (nB : B ∉ fp) (zero : n = 0) {s : Shared} {c : Nat} (st : St 0 s.heap)
    (cell : s.heap.get? B = some { cls := .type "list", dict := none, data := .seq #[] c, slots := #[] })
    (fin : ∀ h' tk, (∀ b o, b ∉ wr → b ≠ B → s.heap.get? b = some o → h'.get? b = some o) → R (.ok (.ret d)) { s with heap := h', toks := tk }) :
    codeAny (model prog w) A (.builtin "max.loop" ⟨[.ref I, .none, .ref B], [("default", d)]⟩) R s := by
  refine codeAny_builtin F.entry_max_loop ?_
  rw [Around.under_plainId F.plain_max_loop _]
  show wpAny _ A.in1 (seqItems? (.ref B) >>= _) _ _ s
  refine wpAny_bind (wpAny_seqItems cell rfl ?_)
  show wpAny _ A.in1 (tryCatch (pyNext (.ref I)) _ >>= _) _ _ s
  refine wpAny_bind (wpAny_tryCatch (W.done s _ _ (zero ▸ st) fun h1 t1 kp => ?_))
  show wpAny _ A.in1 (rule _ >>= fun _ => ret d) _ _ _
  refine wpAny_bind (wpAny_rule ?_)
  exact wpAny_pure (fin _ _ fun b o n1 n2 e => kp b o n1 e)
end
end My

namespace My
open PySem PySem.Spec PyProof.Rows L2

/-! ### max(xs, default=d) -/
theorem args_maxD (a d : Value) : argsOk "max" ⟨[a], [("default", d)]⟩ := by unfold argsOk; kernel_rfl
section
variable {prog : Program} {w : World} {A : Around} {E : Value → Shared → Prop} {s : Shared} {l : Addr}
theorem call_tree_kw {id : String} {b : Builtin} {args : List Value} {kw : List (Str × Value)} {Q : Value → Shared → Prop} (hk : builtinKind id = none) (hp : plainId id = true)
    (hb : entryFor table id = some b) (ha : argsOk id ⟨args, kw⟩)
    (hc : wpAny (model prog w) A.in1 (b ⟨args, kw⟩) (fun fin s' => match fin with
      | .done f => (match (Except.ok f : Result) with | .ok (.ret v) => Q v s' | .ok _ => False | .error e => E e s')
      | .again c' => c'.quiet = true ∧ codeAny (model prog w) A c' (fun r s' => match r with | .ok (.ret v) => Q v s' | .ok _ => False | .error e => E e s') s') E s) :
    wpAny (model prog w) A (call (.builtin id) args kw) Q E s := by
  refine wpAny_call (codeAny_call_builtin hp hb ?_)
  simp only [checkBuiltinCall, hk]
  cases hsig : Manifest.signature? id with
  | none => exact wpAny_pure hc
  | some sig =>
    simp only [argsOk, hsig] at ha
    have h2 : Bind.checkArgs id sig ⟨args, kw⟩ = pure () := ha
    show wpAny _ A.in1 (Bind.checkArgs id sig ⟨args, kw⟩) _ _ s
    rw [h2]; exact wpAny_pure hc
theorem call_maxD_walk {x d : Value} {Q : Value → Shared → Prop}
    (h : wpAny (model prog w) A.in1 (pyIter x) (fun it s₂ => ∃ I fp wr n P St bt, it = .ref I ∧ Walks prog w A.in1 I fp wr n P St ∧ St 0 s₂.heap ∧ (∀ b ∈ fp, b < s₂.heap.objs.size) ∧ CmpOf prog w A.in1 .Gt P bt ∧
      (0 < n → ∀ v h' tk, P (argBest bt (n - 1)) v → (∀ b o, b ∉ wr → s₂.heap.get? b = some o → h'.get? b = some o) → Q v { s₂ with heap := h', toks := tk }) ∧
      (n = 0 → ∀ h' tk, (∀ b o, b ∉ wr → s₂.heap.get? b = some o → h'.get? b = some o) → Q d { s₂ with heap := h', toks := tk })) E s) :
    wpAny (model prog w) A (call (.builtin "max") [x] [("default", d)]) Q E s := by
  refine call_tree_kw F.kind_max F.plain_max F.entry_max (args_maxD _ _) ?_
  show wpAny _ A.in1 (Builtin.Builtins.bindParams "max" ["key", "default"] 0 ⟨[], [("default", d)]⟩ >>= _) _ _ s
  refine wpAny_bind (wpAny_of_eq (show Builtin.Builtins.bindParams "max" ["key", "default"] 0 ⟨[], [("default", d)]⟩ = pure [none, some d] from rfl) ?_)
  refine wpAny_bind (wpAny_pure ?_)
  refine wpAny_bind (wpAny_mono h (fun it s₂ h₂ => ?_) fun _ _ e => e)
  obtain ⟨I, fp, wr, n, P, St, bt, rfl, W, hst, hfp, hcmp, hQ, hZ⟩ := h₂
  refine wpAny_bind (wpAny_newObj_type ?_)
  have hSf : s₂.heap.objs.size ∉ fp := fun hm => Nat.lt_irrefl _ (hfp _ hm)
  rw [mxd_name]
  refine wpAny_pure ⟨plainId_quiet F.plain_max_loop _, ?_⟩
  by_cases hn : 0 < n
  · exact mxd_first d W bt hcmp s₂.heap.objs.size hSf hn (W.frame _ _ _ hst fun b _ o e => Heap.get?_push_of_some _ e) (Heap.get?_push_size _ rfl) fun v h' tk hP hk =>
      hQ hn v h' tk hP fun b o hbw e => hk b o hbw (Nat.ne_of_lt (Heap.lt_size e)) (Heap.get?_push_of_some _ e)
  · exact mxd_none d W s₂.heap.objs.size hSf (by omega) (W.frame _ _ _ hst fun b _ o e => Heap.get?_push_of_some _ e) (Heap.get?_push_size _ rfl) fun h' tk hk =>
      hZ (by omega) h' tk fun b o hbw e => hk b o hbw (Nat.ne_of_lt (Heap.lt_size e)) (Heap.get?_push_of_some _ e)
theorem maxD_intList {xs : Array (Int × Tok)} {d : Value} {Q : Value → Shared → Prop} (hh : A.handled = none) (hl : s.heap.IsList l (intItems xs))
    (h : 0 < xs.size → ∀ v h' tk, (intItems xs)[argBest (fun i j => decide (numAt xs i > numAt xs j)) (xs.size - 1)]? = some v → (∀ b o, s.heap.get? b = some o → h'.get? b = some o) → Q v { s with heap := h', toks := tk })
    (hz : xs.size = 0 → ∀ h' tk, (∀ b o, s.heap.get? b = some o → h'.get? b = some o) → Q d { s with heap := h', toks := tk }) :
    wpAny (model prog w) A (call (.builtin "max") [.ref l] [("default", d)]) Q E s := by
  refine call_maxD_walk (iter_intList hl fun s₂ e st hfp hlI => ?_)
  subst e
  refine ⟨_, _, _, _, _, _, _, rfl, Walks.list (A := A.in1) hh _ l hlI (intItems xs), st, hfp, CmpOf.ints_gt (numAt xs) (fun _ _ => intItems_at), fun hn v h' tk hP hk => ?_, fun hn h' tk hk => ?_⟩
  · exact h (by simpa [intItems] using hn) v h' tk (by simpa [intItems] using hP) (old_kept hk)
  · exact hz (by simpa [intItems] using hn) h' tk (old_kept hk)
theorem maxD_raw {its : List Value} {ns : List Int} {d : Value} {Q : Value → Shared → Prop} (hh : A.handled = none) (hl : s.heap.IsList l its.toArray) (hi : IntsAre its ns)
    (h : ∀ h' tk M t', (∀ b o, s.heap.get? b = some o → h'.get? b = some o) → M ∈ ns → (∀ a, a ∈ ns → a ≤ M) → Q (.int M t') { s with heap := h', toks := tk })
    (hz : ns = [] → ∀ h' tk, (∀ b o, s.heap.get? b = some o → h'.get? b = some o) → Q d { s with heap := h', toks := tk }) : wpAny (model prog w) A (call (.builtin "max") [.ref l] [("default", d)]) Q E s := by
  obtain ⟨xs, e⟩ := hi.allInts.items
  have hn : numsOf (intItems xs).toList = ns := by rw [← e]; exact hi.numsOf
  rw [nums_intItems] at hn
  subst hn
  rw [e] at hl
  refine maxD_intList hh hl (fun hsz v h' tk hv hk => ?_) fun h0 h' tk hk => ?_
  · obtain ⟨t, rfl⟩ := intItems_at hv
    obtain ⟨h1, h2⟩ := argBest_gt (numAt xs) (xs.size - 1)
    refine h h' tk _ t hk ?_ fun a ha => ?_
    · rw [numAt_eq]; exact PySem.getD_mem (by rw [List.length_map, Array.length_toList]; omega)
    · obtain ⟨j, hj, rfl⟩ := mem_getD ha
      rw [List.length_map, Array.length_toList] at hj
      rw [← numAt_eq]; exact h2 j (by omega)
  · exact hz (by simpa using h0) h' tk hk
end
/-! ### built-in functions called with keywords -/
abbrev FK := List D → List D → Store → Option (D × Store)
def MAK (W : Wd) (F : FK) : List V → List V → Hp → VK → Prop := fun vs zs H Q => ∃ ι st as bs d st', RelH W ι H st ∧ Reps W ι H as vs ∧ Reps W ι H bs zs ∧ F as bs st = some (d, st') ∧ OkE W ι H d st' Q
def eCallK (F : FK) (a b : AM) : EM := fun env st => match a env st with
  | some (xs, s1) => match b env s1 with
    | some (zs, s2) => F xs zs s2
    | none => none
  | none => none
def fMaxD : FK := fun as bs st => match as, bs with
  | [x], [d] => match seqL st x with
    | some ys => match intsOf ys with
      | some ns => match ns.max? with
        | some m => some (.int m, st)
        | none => some (d, st)
      | none => none
    | none => none
  | _, _ => none
section
variable {X : Cx} {W : Wd} {x : Str} {p pos : Pos} {e o : Expr} {es : List Expr} {kws : List Keyword} {id : String} {ks : List Str} {F : FK} {am km : AM}
theorem j_callK (hc : CallRK X (.builtin id) ks (MAK W F)) (hg : Gl X x) (hm : X.mg x = none) (hv : bootBuiltins x = some (.builtin id)) (ha : PA X (e :: es) (TAs W am)) (hk : PK X kws (TAs W km)) (hn : x ≠ "__name__" := by decide) (hdb : (x == ("__debug__" : Str)) = false := by decide)
    (he : backTo pos (starEach (e :: es) X.env) = (false, eval e X.env) :: backTo pos (starEach es X.env) := by rfl) (hpl : (backTo pos (starEach (e :: es) X.env)).any (·.1) = false := by rfl)
    (hall : (backToKw pos (keywordEach kws X.env)).all (·.1.isSome) = true := by rfl) (hnone : (backToKw pos (keywordEach kws X.env)).any (·.1.isNone) = false := by rfl) (hks : (backToKw pos (keywordEach kws X.env)).filterMap (·.1) = ks := by rfl) :
    PE X (.Call (.Name x p) (e :: es) kws pos) (T W (eCallK F am km)) := (pe_callBK hc hg hm hv ha hk hn hdb he hpl hall hnone hks).imp fun σ H Q ⟨ι, st, env, d, st', r, q, e, k⟩ => by
  unfold eCallK at e
  split at e
  · rename_i xs s1 e1
    split at e
    · rename_i zs s2 e2
      exact TA.of r q e1 fun vs ι1 H1 g1 r1 p1 => TA.of r1 (q.grow g1) e2 fun us ι2 H2 g2 r2 p2 => ⟨ι2, s2, xs, zs, d, st', r2, Reps.grow g2 _ _ p1, p2, e, k.go (g1.trans g2)⟩
    · cases e
  · cases e
theorem jc_maxD (hK : X.K = W.K) (hc : X.calm = true) : CallRK X (.builtin "max") ["default"] (MAK W fMaxD) := by
  intro pins s σ H xs zs us ws Q I rx rz ⟨ι, st, as, bs, d, st', r, h, h2, e, k⟩
  unfold fMaxD at e
  split at e
  · rename_i x dd
    obtain ⟨v, rfl, hv⟩ := reps1 h
    obtain ⟨u, rfl, hu⟩ := reps1 h2
    obtain ⟨w1, rfl, e1⟩ := vals1 rz
    split at e
    · rename_i ys q
      split at e
      · rename_i ns q2
        obtain ⟨a, rfl, h1⟩ := list_ints r hv q q2
        obtain ⟨its, rv, hl, _⟩ := I.list (hK ▸ h1)
        rw [Vals.ref1 rx]
        refine maxD_raw (I.ok.hd hc) hl.isList rv.ints (fun h' tk M t' hk m1 m2 => ?_) fun n0 h' tk hk => ?_
        · split at e
          · rename_i m e2
            cases e
            rw [List.max?_eq_some_iff] at e2
            have : M = m := Int.le_antisymm (e2.2 M m1) (m2 m e2.1)
            subst this
            exact ⟨.int _, H, I.kept hk, ⟨_, rfl⟩, k.now r int_rep⟩
          · rename_i e2
            rw [List.max?_eq_none_iff] at e2
            subst e2
            exact absurd m1 (by simp)
        · subst n0
          cases e
          exact ⟨u, H, I.kept hk, e1, k.now r hu⟩
      · cases e
    · cases e
  · cases e
end
section
variable {env : Env} {st : Store} {Q : D → Store → Prop}
theorem ev_callK {F : FK} {a b : AM} : EvE (eCallK F a b) env st Q ↔ EvA a env st fun xs s1 => EvA b env s1 fun zs s2 => EvF (fun _ s => F xs zs s) [] s2 Q := by
  unfold EvE EvA EvF eCallK
  constructor
  · rintro ⟨d, s, e, q⟩
    split at e
    · rename_i xs s1 h
      split at e
      · rename_i zs s2 h2
        exact ⟨xs, s1, h, zs, s2, h2, d, s, e, q⟩
      · cases e
    · cases e
  · rintro ⟨xs, s1, h, zs, s2, h2, d, s, e, q⟩
    exact ⟨d, s, by rw [h]; simp only [h2]; exact e, q⟩
end

/-! ### values made as cells: a + b, a * k, comprehensions -/
abbrev FL := D → D → Store → Option (List D)
def M2L (W : Wd) (f : FL) : R2 := fun x y H Q => ∃ ι st a b ys, RelH W ι H st ∧ Rep W ι H a x ∧ Rep W ι H b y ∧ f a b st = some ys ∧ OkE W ι H (.ref st.length) (st ++ [.lst ys]) Q
def eOpM (f : FL) (a b : EM) : EM := fun env st => match a env st with
  | some (x, s1) => match b env s1 with
    | some (y, s2) => (f x y s2).map fun ys => (.ref s2.length, s2 ++ [.lst ys])
    | none => none
  | none => none
open Classical in
noncomputable def dCat : FL := fun a b st => match seqL st a, seqL st b with
  | some xs, some ys => if xs.length + ys.length ≤ sizeLine then some (xs ++ ys) else none
  | _, _ => none
open Classical in
noncomputable def dRpt : FL := fun a b st => match b with
  | .int k => match seqL st a with
    | some xs => if -(2 ^ 63) ≤ k ∧ k < 2 ^ 63 ∧ xs.length * k.toNat ≤ sizeLine then some (List.replicate k.toNat xs).flatten else none
    | none => none
  | _ => none
open Classical in
noncomputable def eLcM (im : IM) (g : GM) (tt : TM) (el : EM) (vs : List Nat) : EM := fun env st => match im env st with
  | some (ds, gd, s1) => match lcGo gd g tt el (wipeE env vs) ds s1 with
    | some (ys, s2) => if ys.length ≤ sizeLine then some (.ref s2.length, s2 ++ [.lst ys]) else none
    | none => none
  | none => none
section
variable {X : Cx} {W : Wd} {a b : Expr} {pos : Pos} {ma mb : EM} {f : FL}
theorem jo_cat (hK : X.K = W.K) : OpR X (binaryOp .Add) (M2L W dCat) := by
  intro pins s σ H x y v u Q I rx ry ⟨ι, st, a, b, d, r, ha, hb, e, k⟩
  unfold dCat at e
  split at e
  · rename_i xs ys q1 q2
    split at e
    · rename_i hz
      cases e
      obtain ⟨p, us, rfl, h1, h2⟩ := seqL_ok r ha q1
      obtain ⟨p', us', rfl, h3, h4⟩ := seqL_ok r hb q2
      exact op_cat pins s σ H _ _ v u Q I rx ry ⟨p, p', us, us', rfl, rfl, h1, h3, by rw [← h2.length, ← h4.length]; exact hz, fun l hl => k.lstM r (h2.append h4) hl⟩
    · cases e
  · cases e
theorem jo_rpt (hK : X.K = W.K) : OpR X (binaryOp .Mult) (M2L W dRpt) := by
  intro pins s σ H x y v u Q I rx ry ⟨ι, st, a, b, d, r, ha, hb, e, k⟩
  unfold dRpt at e
  split at e
  · split at e
    · rename_i xs q
      split at e
      · rename_i h
        cases e
        cases rep_int hb
        obtain ⟨p, us, rfl, h1, h2⟩ := seqL_ok r ha q
        exact op_rep pins s σ H _ _ v u Q I rx ry ⟨p, _, us, rfl, rfl, h1, h.1, h.2.1, by rw [← h2.length]; exact h.2.2, fun l hl => k.lstM r (h2.rep _) hl⟩
      · cases e
    · cases e
  · cases e
theorem j_opM {op : Operator} (ho : OpR X (binaryOp op) (M2L W f)) (ha : PE X a (T W ma)) (hb : PE X b (T W mb)) : PE X (.BinOp a op b pos) (T W (eOpM f ma mb)) := (pe_op ho ha hb).imp fun σ H Q ⟨ι, st, env, d, st', r, n, e, k⟩ => by
  unfold eOpM at e
  split at e
  · rename_i x s1 e1
    split at e
    · rename_i y s2 e2
      rw [Option.map_eq_some_iff] at e
      obtain ⟨z, e3, q⟩ := e
      cases q
      exact T.of r n e1 fun v ι1 H1 g1 r1 p1 => T.of r1 (n.grow g1) e2 fun u ι2 H2 g2 r2 p2 => ⟨ι2, _, x, y, _, r2, Rep.grow g2 _ _ p1, p2, e3, k.go (g1.trans g2)⟩
    · cases e
  · cases e
end
section
variable {env : Env} {st : Store} {Q : D → Store → Prop}
theorem ev_opM {f : FL} {a b : EM} : EvE (eOpM f a b) env st Q ↔ EvE a env st fun x s1 => EvE b env s1 fun y s2 => ∃ z, f x y s2 = some z ∧ Q (.ref s2.length) (s2 ++ [.lst z]) := by
  unfold EvE eOpM
  constructor
  · rintro ⟨d, s, e, q⟩
    split at e
    · rename_i x s1 h
      split at e
      · rename_i y s2 h2
        rw [Option.map_eq_some_iff] at e
        obtain ⟨z, e1, e2⟩ := e
        cases e2
        exact ⟨x, s1, h, y, _, h2, _, e1, q⟩
      · cases e
    · cases e
  · rintro ⟨x, s1, h, y, s2, h2, z, e, q⟩
    exact ⟨_, _, by rw [h]; simp only [h2, e, Option.map_some], q⟩
theorem ev_lcM {im : IM} {g : GM} {tt : TM} {el : EM} {vs : List Nat} : EvE (eLcM im g tt el vs) env st Q ↔ EvI im env st fun ds gd s1 => EvL (lcGo gd g tt el (wipeE env vs) ds s1) fun ys s2 => ys.length ≤ sizeLine ∧ Q (.ref s2.length) (s2 ++ [.lst ys]) := by
  unfold EvE EvI EvL eLcM
  constructor
  · rintro ⟨d, s, e, q⟩
    split at e
    · rename_i ds gd s1 h
      split at e
      · rename_i ys s2 h2
        split at e
        · rename_i hz
          cases e
          exact ⟨_, _, _, h, ys, _, h2, hz, q⟩
        · cases e
      · cases e
    · cases e
  · rintro ⟨ds, gd, s1, h, ys, s2, h2, hz, q⟩
    exact ⟨_, _, by rw [h]; simp only [h2, if_pos hz], q⟩
theorem cat_ev {xs ys : List D} {d e : D} (h : seqL st d = some xs) (h2 : seqL st e = some ys) (hz : xs.length + ys.length ≤ sizeLine) : dCat d e st = some (xs ++ ys) := by
  simp only [dCat, h, h2, if_pos hz]
end
/-! ### a comprehension whose list is a cell -/
section
variable {W : Wd} {ι : Lay} {H : Hp}
theorem Gro.tell {p : Addr} : Gro (ι.hide p) H (ι.add p) H :=
  ⟨fun i a h => by
    show (ι.c ++ [p])[i]? = some a
    have h : ι.c[i]? = some a := h
    rw [List.getElem?_append_left (List.getElem?_eq_some_iff.mp h).1]; exact h, fun _ _ _ h => h, fun a u n _ m => n (by
    rcases m with m | m
    · rcases List.mem_append.mp m with q | q
      · exact .inl q
      · rw [List.mem_singleton.mp q]; exact .inr List.mem_cons_self
    · exact .inr (List.mem_cons_of_mem _ m))⟩
theorem RelH.tell {st : Store} {p : Addr} {ds : List D} {vs : List V} (r : RelH W (ι.hide p) H st) (hp : H p = some (.lst vs)) (hd : Reps W (ι.hide p) H ds vs) (np : p ∉ ι.k) : RelH W (ι.add p) H (st ++ [.lst ds]) where
  len := by
    show (ι.c ++ [p]).length = _
    rw [List.length_append, List.length_append, show ι.c.length = st.length from r.len]; rfl
  nd := by
    show (ι.c ++ [p]).Nodup
    rw [List.nodup_append]
    refine ⟨r.nd, by simp, fun a ha b hb e => ?_⟩
    rw [List.mem_singleton.mp hb] at e
    subst e
    exact r.dis a ha List.mem_cons_self
  dis := fun a m q => by
    rcases List.mem_append.mp m with z | z
    · exact r.dis a z (List.mem_cons_of_mem _ q)
    · rw [List.mem_singleton.mp z] at q; exact np q
  hidd := fun a m => r.hidd a (List.mem_cons_of_mem _ m)
  cell := fun i c e => by
    by_cases hi : i < st.length
    · rw [List.getElem?_append_left hi] at e
      obtain ⟨a, h1, h2⟩ := r.cell i c e
      exact ⟨a, Gro.tell.pre (H := H) i a h1, h2.move Gro.tell fun u q => q⟩
    · have hi2 : i = st.length := by
        have := (List.getElem?_eq_some_iff.mp e).1
        simp at this
        omega
      subst hi2
      rw [List.getElem?_append_right (Nat.le_refl _), Nat.sub_self] at e
      cases e
      refine ⟨p, ?_, vs, hp, Reps.gro Gro.tell _ _ hd⟩
      show (ι.c ++ [p])[st.length]? = _
      rw [← show ι.c.length = st.length from r.len]
      simp
end
section
variable {X : Cx} {W : Wd} 
theorem lc_ofM {im : IM} {g : GM} {tt : TM} {el : EM} {vs : List Nat} {σ : L2.St} {H : Hp} {Q : VK} (h : T W (eLcM im g tt el vs) σ H Q) : tLc (TIm W im) (TGm W g vs) (TB W tt) (T W el) vs σ H Q := by
  obtain ⟨ι, st, env, d, st', r, n, e, k⟩ := h
  unfold eLcM at e
  split at e
  · rename_i ds gd s1 e1
    split at e
    · rename_i ys s2 e2
      split at e
      · rename_i hz
        cases e
        refine ⟨ι, st, env, ds, gd, s1, r, n, e1, fun J ι1 H1 g1 r1 ok L hL => ?_⟩
        have n1 := n.grow g1
        refine ⟨fun i m H => i + m = ds.length ∧ ∃ ι2 s acc rest vacc, Grow ι1 H1 ι2 H ∧ Gro ι1 H1 (ι2.hide L) H ∧ RelH W (ι2.hide L) H s ∧ H L = some (.lst vacc) ∧ Reps W (ι2.hide L) H acc vacc ∧ lcGo gd g tt el (wipeE env vs) (ds.drop i) s = some (rest, s2) ∧ ys = acc ++ rest, ⟨ds.length, by omega, ι1, s1, [], ys, [], Grow.laid hL, Gro.hide hL, r1.hide hL, upd_same, Reps.nil, e2, rfl⟩, ?_⟩
        rintro i m H2 ⟨hm, ι2, s, acc, rest, vacc, g2, gg2, r2, hL2, hacc, hgo, hys⟩
        by_cases hi : i < ds.length
        · right
          have hd : ds.drop i = ds[i] :: ds.drop (i + 1) := List.drop_eq_getElem_cons hi
          rw [hd] at hgo
          unfold lcGo at hgo
          split at hgo
          · rename_i hgd
            obtain ⟨j1, j2⟩ := ok.go i _ H2 s _ gg2 r2 hgd (List.getElem?_eq_getElem hi)
            refine ⟨j1, fun H' => ∃ ι2 s acc rest vacc, Grow ι1 H1 ι2 H' ∧ Gro ι1 H1 (ι2.hide L) H' ∧ RelH W (ι2.hide L) H' s ∧ H' L = some (.lst vacc) ∧ Reps W (ι2.hide L) H' acc vacc ∧ lcGo gd g tt el (wipeE env vs) (ds.drop (i + 1)) s = some (rest, s2) ∧ ys = acc ++ rest, fun H' nx => ⟨m - 1, by omega, by omega, nx⟩, fun x H3 hy => ?_⟩
            obtain ⟨g3, r3, p3⟩ := j2 x H3 hy
            split at hgo
            · rename_i e3 q3
              have n3 : REnv W (ι2.hide L) H3 (wipeE env vs) (L2.wipe σ vs) := ((n1.wipe vs).gro gg2).grow g3
              refine ⟨_, s, _, _, e3, r3, n3, p3, q3, fun σ2 n4 w4 => ⟨w4.trans ?_, ?_⟩⟩
              · exact wipe_wipe σ vs
              have hLk : L ∈ (ι2.hide L).k := List.mem_cons_self
              have hLc : L ∉ (ι2.hide L).c := fun z => r2.dis L z hLk
              split at hgo
              · rename_i s4 q4
                refine TB.of r3 n4 q4 fun ι4 H4 g4 r4 => ?_
                rw [if_pos rfl]
                split at hgo
                · rename_i y s5 q5
                  split at hgo
                  · rename_i ys' s6 q6
                    cases hgo
                    refine T.of r4 (n4.grow g4) q5 fun v ι5 H5 g5 r5 p5 => ?_
                    have hk5 : ι5.k = L :: ι2.k := (g5.hid.trans g4.hid)
                    have e5 : ι5 = (Lay.hide ⟨ι5.c, ι2.k⟩ L) := by
                      cases ι5
                      simp only [Lay.hide]
                      exact congrArg _ hk5
                    have gg : Grow (ι2.hide L) H2 ι5 H5 := (g3.trans g4).trans g5
                    have hL5 : H5 L = some (.lst vacc) := gg.keep _ _ (.inl hLc) hL2
                    have hacc5 := Reps.append (Reps.grow gg _ _ hacc) (Reps.cons p5 Reps.nil)
                    rw [e5] at r5 hacc5 gg
                    have l5 : acc.length + 1 ≤ ys.length := by rw [hys]; simp
                    refine ⟨vacc, hL5, by rw [← hacc.length]; omega, ⟨ι5.c, ι2.k⟩, s5, acc ++ [y], ys', vacc ++ [v], ?_, ?_, r5.over List.mem_cons_self hL5 trivial, upd_same, Reps.gro (Gro.over List.mem_cons_self hL5 trivial) _ _ hacc5, q6, by rw [hys]; simp⟩
                    · refine ⟨fun i a h => gg.pre i a (g2.pre i a h), fun a o nn h => ?_, fun a m => ?_, g2.hid⟩
                      · have := ne_of_none h hL
                        exact kp_set this (gg.keep a o (nn.imp (fun nn z => by
                          rcases g2.new a z with q | q
                          · exact nn q
                          · rw [h] at q; cases q) id) (g2.keep a o nn h))
                      · rcases gg.new a m with q | q
                        · exact g2.new a q
                        · by_cases hc : a ∈ ι1.c
                          · exact .inl hc
                          · refine .inr ?_
                            cases e : H1 a with
                            | none => rfl
                            | some o => rw [g2.keep a o (.inl hc) e] at q; cases q
                    · refine ⟨fun i a h => gg.pre i a (gg2.pre i a h), fun a o nn h => ?_, fun a o nn h => ?_⟩
                      · have := ne_of_none h hL
                        exact kp_set this (gg.gro.keep a o (nn.imp (fun nn => gg2.notin a o nn h) id) (gg2.keep a o nn h))
                      · exact gg.gro.notin a o (gg2.notin a o nn h) (gg2.keep a o (.inl nn) h)
                  · cases hgo
                · cases hgo
              · rename_i s4 q4
                refine TB.of r3 n4 q4 fun ι4 H4 g4 r4 => ?_
                rw [if_neg Bool.false_ne_true]
                have hk5 : ι4.k = L :: ι2.k := g4.hid
                have e5 : ι4 = (Lay.hide ⟨ι4.c, ι2.k⟩ L) := by
                  cases ι4
                  simp only [Lay.hide]
                  exact congrArg _ hk5
                have gg : Grow (ι2.hide L) H2 ι4 H4 := g3.trans g4
                have hL5 : H4 L = some (.lst vacc) := gg.keep _ _ (.inl hLc) hL2
                have hacc5 := Reps.grow gg _ _ hacc
                rw [e5] at r4 hacc5 gg
                refine ⟨⟨ι4.c, ι2.k⟩, s4, acc, rest, vacc, ?_, ?_, r4, hL5, hacc5, hgo, hys⟩
                · refine ⟨fun i a h => gg.pre i a (g2.pre i a h), fun a o nn h => ?_, fun a m => ?_, g2.hid⟩
                  · exact gg.keep a o (nn.imp (fun nn z => by
                      rcases g2.new a z with q | q
                      · exact nn q
                      · rw [h] at q; cases q) id) (g2.keep a o nn h)
                  · rcases gg.new a m with q | q
                    · exact g2.new a q
                    · by_cases hc : a ∈ ι1.c
                      · exact .inl hc
                      · refine .inr ?_
                        cases e : H1 a with
                        | none => rfl
                        | some o => rw [g2.keep a o (.inl hc) e] at q; cases q
                · refine ⟨fun i a h => gg.pre i a (gg2.pre i a h), fun a o nn h => ?_, fun a o nn h => ?_⟩
                  · exact gg.gro.keep a o (nn.imp (fun nn => gg2.notin a o nn h) id) (gg2.keep a o nn h)
                  · exact gg.gro.notin a o (gg2.notin a o nn h) (gg2.keep a o (.inl nn) h)
              · cases hgo
            · cases hgo
          · cases hgo
        · left
          have hie : i = ds.length := by omega
          subst hie
          rw [List.drop_length] at hgo
          unfold lcGo at hgo
          split at hgo
          · rename_i hgd
            cases hgo
            refine ⟨ok.stop _ H2 _ gg2 r2 hgd, ?_⟩
            rw [List.append_nil] at hys
            subst hys
            exact k _ (ι2.add L) H2 (g1.trans ⟨fun i a h => by
              have := g2.pre i a h
              rw [show (ι2.add L).c = ι2.c ++ [L] from rfl, List.getElem?_append_left (List.getElem?_eq_some_iff.mp this).1]; exact this, g2.keep, fun a m => by
              rcases List.mem_append.mp m with q | q
              · exact g2.new a q
              · rw [List.mem_singleton.mp q]; exact .inr hL, g2.hid⟩) (r2.tell hL2 hacc (fun z => r1.free hL (.inr (g2.hid ▸ z)))) (by
              simp only [Rep]
              refine ⟨L, rfl, ?_⟩
              rw [← r2.len]
              show (ι2.c ++ [L])[_]? = _
              simp [Lay.hide])
          · cases hgo
      · cases e
    · cases e
  · cases e
where
  wipe_wipe (σ : L2.St) (vs : List Nat) : L2.wipe (L2.wipe σ vs) vs = L2.wipe σ vs := by
    have h : ∀ (us : List Nat) (τ : L2.St), (∀ v ∈ us, v ∈ vs) → L2.wipe (L2.wipe τ us) vs = L2.wipe τ vs := by
      intro us
      induction us with
      | nil => intro τ _; rfl
      | cons u us ih =>
        intro τ hu
        show L2.wipe ((L2.wipe τ us).set u none) vs = _
        rw [(wipe_set _ u none vs).1 (hu u List.mem_cons_self)]
        exact ih τ fun v hv => hu v (List.mem_cons_of_mem _ hv)
    exact h vs σ fun _ h => h
theorem j_lcM {elt tg iter : Expr} {ifs : List Expr} {scope : Scope} {own : List (Str × Nat)} {im : IM} {g : GM} {tt : TM} {el : EM} {pos : Pos} (hc : X.calm = true) (hN : X.N.Nodup) (hi : PI X tg iter (TIm W im)) (ok : BlkOk X.N X.env.scope scope own)
    (hg : ∀ (s : Shared) (H : Hp) (C : Addr) (cl : List (Str × Addr)) (fp : List Addr), PG (X.blk s H scope (compEnvC scope cl C X.env) fp) tg (TGm W g (own.map (·.2)))) (ht : ∀ (s : Shared) (H : Hp) (C : Addr) (cl : List (Str × Addr)) (fp : List Addr), PTs (X.blk s H scope (compEnvC scope cl C X.env) fp) ifs (TB W tt))
    (he : ∀ (s : Shared) (H : Hp) (C : Addr) (cl : List (Str × Addr)) (fp : List Addr), PE (X.blk s H scope (compEnvC scope cl C X.env) fp) elt (T W el)) (hs : ∀ x, foldedSetIterable iter X.env x = pure x := by intro _; rfl) :
    PE X (.ListComp elt [⟨tg, iter, ifs, 0⟩] scope pos) (T W (eLcM im g tt el (own.map (·.2)))) := (pe_lc hc hN hi ok hg ht he hs).imp fun _ _ _ => lc_ofM
theorem js_setLcM {i : Nat} {y : Str} {py : Pos} {elt tg iter : Expr} {ifs : List Expr} {scope : Scope} {own : List (Str × Nat)} {pos spos : Pos} {im : IM} {g : GM} {tt : TM} {el : EM} (hc : X.calm = true) (hN : X.N.Nodup) (hy : X.N[i]? = some y) (hyl : X.env.scope.names.lookup y = some .local)
    (hsw : swapsWith (.ListComp elt [⟨tg, iter, ifs, 0⟩] scope pos) (some (.Name y py)) spos.line X.env = pure true) (hi : PI X tg iter (TIm W im)) (ok : BlkOk X.N X.env.scope scope own)
    (hg : ∀ (s : Shared) (H : Hp) (C : Addr) (cl : List (Str × Addr)) (fp : List Addr), PG (X.blk s H scope (compEnvC scope cl C X.env) fp) tg (TGm W g (own.map (·.2)))) (ht : ∀ (s : Shared) (H : Hp) (C : Addr) (cl : List (Str × Addr)) (fp : List Addr), PTs (X.blk s H scope (compEnvC scope cl C X.env) fp) ifs (TB W tt))
    (he : ∀ (s : Shared) (H : Hp) (C : Addr) (cl : List (Str × Addr)) (fp : List Addr), PE (X.blk s H scope (compEnvC scope cl C X.env) fp) elt (T W el)) (hs : ∀ x, foldedSetIterable iter X.env x = pure x := by intro _; rfl) :
    PS X (.Assign [.Name y py] (.ListComp elt [⟨tg, iter, ifs, 0⟩] scope pos) spos) (TSt W (sSet i (eLcM im g tt el (own.map (·.2))))) := (ps_setLc hc hN hy hyl hsw hi ok hg ht he hs).imp fun D σ H h => by
  have h2 : T W (eLcM im g tt el (own.map (·.2))) σ H fun x H1 => gName i x σ H1 D.nx := set_of h
  exact lc_ofM h2
end
theorem sz0 : (0 ≤ sizeLine) = True := eq_true (by decide)
theorem sz1 : (1 ≤ sizeLine) = True := eq_true (by decide)
theorem sz2 : (2 ≤ sizeLine) = True := eq_true (by decide)
theorem sz3 : (3 ≤ sizeLine) = True := eq_true (by decide)
theorem sz4 : (4 ≤ sizeLine) = True := eq_true (by decide)
theorem sz5 : (5 ≤ sizeLine) = True := eq_true (by decide)
theorem sz6 : (6 ≤ sizeLine) = True := eq_true (by decide)
theorem sz7 : (7 ≤ sizeLine) = True := eq_true (by decide)
theorem sz8 : (8 ≤ sizeLine) = True := eq_true (by decide)
theorem sz9 : (9 ≤ sizeLine) = True := eq_true (by decide)
theorem sz10 : (10 ≤ sizeLine) = True := eq_true (by decide)
theorem sz11 : (11 ≤ sizeLine) = True := eq_true (by decide)
theorem sz12 : (12 ≤ sizeLine) = True := eq_true (by decide)
theorem s_rl : (("rotate" : Str) = "look") = False := eq_false (by decide)
theorem s_lr : (("look" : Str) = "rotate") = False := eq_false (by decide)
end My

namespace My
open PySem PySem.Spec PyProof.Rows L2
/-! ### x.count(y), flat items -/
def cntV (us : List V) (y : V) : Nat := us.countP fun z => eqV z y
def mCountL : MM := fun o as st => match as with
  | [y] => match seqL st o with
    | some ys => match sc y, scs ys with
      | some x, some us => some (.int (cntV us x), st)
      | _, _ => none
    | none => none
  | _ => none
def mCountT : MM := fun o as st => match as with
  | [y] => match seqT o with
    | some ys => match sc y, scs ys with
      | some x, some us => some (.int (cntV us x), st)
      | _, _ => none
    | none => none
  | _ => none
section
variable {X : Cx} {W : Wd}
theorem cnt_of {x : V} : ∀ {us : List V} {vs : List Value}, Vals us vs → us.all flatV = true → vs.countP (fun u => eqU x u) = cntV us x
  | _, _, .nil, _ => rfl
  | u :: us, v :: vs, .cons r t, f => by
    rw [List.all_cons, Bool.and_eq_true] at f
    unfold cntV
    rw [List.countP_cons, List.countP_cons, cnt_of t f.2, eqU_of r f.1]
    rfl
theorem jm_countL (hK : X.K = W.K) : MtR X "list.count" (MMt W mCountL) := by
  intro pins s σ H x xs v us Q I rx rxs ⟨ι, st, o, as, d, st', r, ho, ha, e, k⟩
  unfold mCountL at e
  split at e
  · rename_i y
    obtain ⟨w, rfl, hw⟩ := reps1 ha
    split at e
    · rename_i ys q
      obtain ⟨p, ws, rfl, h1, h2⟩ := seqL_ok r ho q
      split at e
      · rename_i x' us' q1 q2
        cases e
        have e1 := sc_ok q1 hw
        have e2 := scs_ok q2 h2
        subst e1 e2
        cases rx
        obtain ⟨u1, rfl, ru⟩ := vals1 rxs
        obtain ⟨its, rv, ⟨⟨cls, dd, data, sl⟩, n, ho, hc, hdn, hd⟩, hlen⟩ := I.list (SqL.of h1)
        simp only at hc hd
        subst hc hd
        refine call_meets PySem.F.slot_list_count ⟨_, ho, rfl⟩ PySem.F.entry_list_count (PySem.F.args_list_count_2 _ _) (SeqAt.list_countAt p its.toArray n dd sl u1 (eqU w)) ⟨ho, fun u' hu' => mem_eqAt ru (flat_sc q1) rv (flat_scs q2) u' (by simpa using hu'), ?_⟩
        have e2 := cnt_of (x := w) rv (flat_scs q2)
        have e3 : its.toArray.toList.countP (eqU w) = cntV ws w := e2
        rw [e3]
        exact ⟨.int (cntV ws w : Nat), H, I.tok _, ⟨_, rfl⟩, k.now r int_rep⟩
      · cases e
    · cases e
  · cases e
theorem jm_countT (hK : X.K = W.K) : MtR X "tuple.count" (MMt W mCountT) := by
  intro pins s σ H x xs v us Q I rx rxs ⟨ι, st, o, as, d, st', r, ho, ha, e, k⟩
  unfold mCountT at e
  split at e
  · rename_i y
    obtain ⟨w, rfl, hw⟩ := reps1 ha
    split at e
    · rename_i ys q
      obtain ⟨p, ws, rfl, h1, h2⟩ := seqT_ok ho q
      split at e
      · rename_i x' us' q1 q2
        cases e
        have e1 := sc_ok q1 hw
        have e2 := scs_ok q2 h2
        subst e1 e2
        cases rx
        obtain ⟨u1, rfl, ru⟩ := vals1 rxs
        obtain ⟨its, rv, ⟨⟨cls, dd, data, sl⟩, ho, hc, n, hd⟩, hlen⟩ := I.tuple (SqT.of h1)
        simp only at hc hd
        subst hc hd
        refine call_meets PySem.F.slot_tuple_count ⟨_, ho, rfl⟩ PySem.F.entry_tuple_count (PySem.F.args_tuple_count_2 _ _) (SeqAt.tuple_countAt p its.toArray n dd sl u1 (eqU w)) ⟨ho, fun u' hu' => mem_eqAt ru (flat_sc q1) rv (flat_scs q2) u' (by simpa using hu'), ?_⟩
        have e2 := cnt_of (x := w) rv (flat_scs q2)
        have e3 : its.toArray.toList.countP (eqU w) = cntV ws w := e2
        rw [e3]
        exact ⟨.int (cntV ws w : Nat), H, I.tok _, ⟨_, rfl⟩, k.now r int_rep⟩
      · cases e
    · cases e
  · cases e
end
/-! ### min, max of a tuple of whole numbers -/
theorem reads_ints {h : Heap} {vs : List Value} {ns : List Int} (i : IntsAre vs ns) : ∃ as, ReadsAll h vs (ns.map PyData.int) as := by
  induction i with
  | nil => exact ⟨_, .nil⟩
  | cons n t h ih =>
    obtain ⟨as, q⟩ := ih
    exact ⟨_, .cons (.int _ _) q⟩
theorem alike_ints (ns : List Int) : PySem.W.AlikeAll (ns.map PyData.int) := by
  refine ⟨fun x hx y hy => ?_, fun x hx e => ?_⟩
  · obtain ⟨i, _, rfl⟩ := List.mem_map.mp hx
    obtain ⟨j, _, rfl⟩ := List.mem_map.mp hy
    rfl
  · obtain ⟨i, _, rfl⟩ := List.mem_map.mp hx
    cases e
theorem depth_ints (ns : List Int) : PyData.depthAll (ns.map PyData.int) = 0 := by
  induction ns with
  | nil => rfl
  | cons n ns ih => simp only [List.map_cons, PyData.depthAll, ih, PyData.depth, Nat.max_self]

def fMinT : FM := ro fun ds _ => match ds with
  | [.tup xs] => match intsOf xs with
    | some ns => ns.min?.map .int
    | none => none
  | _ => none
def fMaxT : FM := ro fun ds _ => match ds with
  | [.tup xs] => match intsOf xs with
    | some ns => ns.max?.map .int
    | none => none
  | _ => none
section
variable {X : Cx} {W : Wd}
theorem jc_minT (hK : X.K = W.K) (hc : X.calm = true) (hu : X.A.units + 1 < cLine) : CallR X (.builtin "min") (MA W fMinT) := by
  intro pins s σ H xs us Q I rx ⟨ι, st, ds, d, st', r, h, e, k⟩
  replace e := ro_ok e
  obtain ⟨e, rfl⟩ := e
  split at e
  · rename_i ys
    obtain ⟨v, rfl, hv⟩ := reps1 h
    split at e
    · rename_i ns q
      rw [Option.map_eq_some_iff] at e
      obtain ⟨m, e1, rfl⟩ := e
      have e2 := intsOf_eq q
      subst e2
      obtain ⟨p, ws, rfl, h1, h2⟩ := seqT_ok hv (xs := ns.map .int) rfl
      have hw : ws = ns.map V.int := h2.ints
      subst hw
      obtain ⟨its, rv, ht, _⟩ := I.tuple (SqT.of h1)
      rw [Vals.ref1 rx]
      cases ns with
      | nil => cases e1
      | cons n ns =>
        have em : ns.foldl min n = m := Option.some.inj e1
        obtain ⟨as, rs⟩ := reads_ints (h := s.heap) rv.ints
        refine PySem.W.min_tuple_data (I.ok.hd hc) (isTuple_of ht) (x := .int n) (xs := ns.map .int) rs (alike_ints (n :: ns)) ?_ fun i v h' tk bs _ rd hk => ?_
        · show X.A.units + 1 + PyData.depthAll ((n :: ns).map PyData.int) < cLine
          rw [depth_ints]; exact hu
        · rw [PySem.W.minD_ints, em] at rd
          cases rd
          exact ⟨.int m, H, I.kept hk, ⟨_, rfl⟩, k.now r int_rep⟩
    · cases e
  · cases e
theorem jc_maxT (hK : X.K = W.K) (hc : X.calm = true) (hu : X.A.units + 1 < cLine) : CallR X (.builtin "max") (MA W fMaxT) := by
  intro pins s σ H xs us Q I rx ⟨ι, st, ds, d, st', r, h, e, k⟩
  replace e := ro_ok e
  obtain ⟨e, rfl⟩ := e
  split at e
  · rename_i ys
    obtain ⟨v, rfl, hv⟩ := reps1 h
    split at e
    · rename_i ns q
      rw [Option.map_eq_some_iff] at e
      obtain ⟨m, e1, rfl⟩ := e
      have e2 := intsOf_eq q
      subst e2
      obtain ⟨p, ws, rfl, h1, h2⟩ := seqT_ok hv (xs := ns.map .int) rfl
      have hw : ws = ns.map V.int := h2.ints
      subst hw
      obtain ⟨its, rv, ht, _⟩ := I.tuple (SqT.of h1)
      rw [Vals.ref1 rx]
      cases ns with
      | nil => cases e1
      | cons n ns =>
        have em : ns.foldl max n = m := Option.some.inj e1
        obtain ⟨as, rs⟩ := reads_ints (h := s.heap) rv.ints
        refine PySem.W.max_tuple_data (I.ok.hd hc) (isTuple_of ht) (x := .int n) (xs := ns.map .int) rs (alike_ints (n :: ns)) ?_ fun i v h' tk bs _ rd hk => ?_
        · show X.A.units + 1 + PyData.depthAll ((n :: ns).map PyData.int) < cLine
          rw [depth_ints]; exact hu
        · rw [PySem.W.maxD_ints, em] at rd
          cases rd
          exact ⟨.int m, H, I.kept hk, ⟨_, rfl⟩, k.now r int_rep⟩
    · cases e
  · cases e
end
/-! ### a comprehension within a comprehension -/
def relS (a b : Scope) : Scope := { a with names := a.names.map fun (n, k) => if (k == .free && b.kind == .function && b.names.lookup n == some .cell) then (n, .cell) else (n, k) }
theorem blk_in {Y : Cx} {s : Shared} {H : Hp} {sc0 sc scY : Scope} {cl : List (Str × Addr)} {C : Addr} {fp : List Addr} {N : List Str} {own : List (Str × Nat)} (hN : Y.N = N) (hS : Y.env.scope = scY) (h : blkC N (relS sc0 scY) sc own = true) :
    BlkOk (Y.blk s H sc0 (compEnvC sc0 cl C Y.env) fp).N (Y.blk s H sc0 (compEnvC sc0 cl C Y.env) fp).env.scope sc own := by
  subst hN hS
  exact blkOk_by h
/-- a comprehension over the images of xs that changes no cell -/
theorem lc_mapM {α : Type} {gd : Store → Prop} {g : GM} {tt : TM} {el : EM} {env : Env} {st : Store} {xs : List α} {g0 : α → D} {QL : List D → Store → Prop} (p : α → Bool) (f : α → D) (hg : gd st)
    (step : ∀ x ∈ xs, ∃ e1, g (g0 x) env = some e1 ∧ EvB tt e1 st fun b s1 => s1 = st ∧ b = p x ∧ (b = true → EvE el e1 st fun y s2 => s2 = st ∧ y = f x)) (done : QL ((xs.filter p).map f) st) : EvL (lcGo gd g tt el env (xs.map g0) st) QL := by
  refine lc_inv (fun i ys s => s = st ∧ ys = ((xs.take i).filter p).map f) ⟨rfl, by simp⟩ (fun i ys s _ h => h.1 ▸ hg) (fun i hi ys s ⟨h1, h2⟩ => ?_) (fun ys s ⟨h1, h2⟩ => ?_)
  · subst h1
    have hi2 : i < xs.length := by rwa [List.length_map] at hi
    rw [List.getElem_map]
    obtain ⟨e1, h3, b, s1, h4, rfl, h5, h6⟩ := step xs[i] (List.getElem_mem hi2)
    refine ⟨e1, h3, b, s1, h4, ?_⟩
    have tk : xs.take (i + 1) = xs.take i ++ [xs[i]] := by rw [List.take_add_one, List.getElem?_eq_getElem hi2]; rfl
    cases b with
    | true =>
      refine (if_pos rfl).mpr ?_
      refine EvE.mono (h6 rfl) fun y s2 ⟨q1, q2⟩ => ⟨q1, ?_⟩
      rw [tk, List.filter_append, List.map_append, h2, q2]
      simp [h5.symm]
    | false =>
      refine (if_neg Bool.false_ne_true).mpr ⟨rfl, ?_⟩
      rw [tk, List.filter_append, List.map_append, h2]
      simp [h5.symm]
  · rw [List.length_map, List.take_length] at h2
    rw [h1, h2]
    exact done
end My

namespace My
open PySem PySem.Spec PyProof.Rows L2
/-! ### tests that store a name: (x := e) op f -/
abbrev WM := Env → Store → Option (Bool × Env × Store)
def TBw (W : Wd) (m : WM) : TTw := fun σ H Q => ∃ ι st env b env' st', RelH W ι H st ∧ REnv W ι H env σ ∧ m env st = some (b, env', st') ∧ ∀ σ' ι' H', Grow ι H ι' H' → RelH W ι' H' st' → REnv W ι' H' env' σ' → Q b σ' H'
def wNamed (i : Nat) (f : D → D → Store → Option D) (me mo : EM) : WM := fun env st => match me env st with
  | some (v, s1) => match mo (env.set i (some v)) s1 with
    | some (u, s2) => match f v u s2 with
      | some (.bl b) => some (b, env.set i (some v), s2)
      | _ => none
    | none => none
  | none => none
def whileGoW (c : WM) (body : SM) : Nat → Env → Store → Option (Out × Store)
  | 0, _, _ => none
  | n + 1, env, st => match c env st with
    | some (true, e1, s1) => match body e1 s1 with
      | some (.nx e2, s2) => whileGoW c body n e2 s2
      | some (.ct e2, s2) => whileGoW c body n e2 s2
      | some (.bk e2, s2) => some (.nx e2, s2)
      | some (.rt d, s2) => some (.rt d, s2)
      | none => none
    | some (false, e1, s1) => some (.nx e1, s1)
    | none => none
def sWhileW (fuel : Nat) (c : WM) (body : SM) : SM := whileGoW c body fuel
def sIfW (c : WM) (a b : SM) : SM := fun env st => match c env st with
  | some (true, e1, s1) => a e1 s1
  | some (false, e1, s1) => b e1 s1
  | none => none
section
variable {X : Cx} {W : Wd} {pos : Pos} {me mo : EM} {f : D → D → Store → Option D}
theorem TBw.of {m : WM} {ι : Lay} {H : Hp} {st st' : Store} {env env' : Env} {σ : L2.St} {b : Bool} {Q : Bool → L2.St → Hp → Prop} (r : RelH W ι H st) (n : REnv W ι H env σ) (e : m env st = some (b, env', st')) (k : ∀ σ' ι' H', Grow ι H ι' H' → RelH W ι' H' st' → REnv W ι' H' env' σ' → Q b σ' H') : TBw W m σ H Q :=
  ⟨ι, st, env, b, env', st', r, n, e, k⟩
theorem jw_cmp {i : Nat} {x : Str} {e o : Expr} {p p2 : Pos} {op : CmpOp} (hN : X.N.Nodup) (hi : X.N[i]? = some x) (hx : Loc X.env.scope x) (ho : OpR X (compareOp op) (M2 W f)) (he : PE X e (T W me)) (hb : PE X o (T W mo)) (hm : behindInMarks op o = false)
    (hf : X.fn x = true ∨ X.env.scope.names.lookup x = some .local := by first | exact .inl rfl | exact .inr rfl | assumption) :
    PTw X (.Compare (.NamedExpr (.Name x p) e p2) [op] [o] pos) (TBw W (wNamed i f me mo)) := ⟨fun pins s σ H Q I ⟨ι, st, env, b, env', st', r, n, e, k⟩ => by
  refine (ptw_cmp ho (pew_named hN hi hx (pew_of he) hf) hb hm).run pins s σ H Q I ?_
  unfold wNamed at e
  split at e
  · rename_i v s1 e1
    split at e
    · rename_i u s2 e2
      split at e
      · rename_i e3
        cases e
        exact T.of r n e1 fun v' ι1 H1 g1 r1 p1 => T.of r1 ((n.grow g1).set i p1) e2 fun u' ι2 H2 g2 r2 p2 => ⟨ι2, st', v, u, .bl b, r2, Rep.grow g2 _ _ p1, p2, e3, fun w ι3 H3 g3 r3 p3 =>
          ⟨b, by simpa only [Rep] using p3, k _ _ _ ((g1.trans g2).trans g3) r3 ((((n.grow g1).set i p1).grow g2).grow g3)⟩⟩
      · cases e
    · cases e
  · cases e⟩
theorem js_whileW {fuel : Nat} {c : Expr} {body : List Stmt} {tc : WM} {bm : SM} (hp : PassesOwn (model X.prog X.w) X.A X.env X.xe) (hc : PTw X c (TBw W tc)) (hb : PSs X body (TSt W bm)) : PS X (.While c body [] pos) (TSt W (sWhileW fuel tc bm)) :=
  (ps_whileW hp hc hb pss_nil).imp fun D σ H ⟨ι, st, env, o, st', r, n, e, k⟩ => by
  unfold sWhileW at e
  refine ⟨fun m σ H2 => ∃ ι2 s env2, Grow ι H ι2 H2 ∧ RelH W ι2 H2 s ∧ REnv W ι2 H2 env2 σ ∧ whileGoW tc bm m env2 s = some (o, st'), ⟨fuel, ι, st, env, Grow.refl, r, n, e⟩, ?_⟩
  rintro m σ2 H2 ⟨ι2, s, env2, g2, r2, n2, hgo⟩
  cases m with
  | zero => cases hgo
  | succ m =>
    unfold whileGoW at hgo
    split at hgo
    · rename_i e1 s1 q1
      refine TBw.of r2 n2 q1 fun σ3 ι3 H3 g3 r3 n3 => ?_
      refine (if_pos rfl).mpr ⟨fun σ H4 => ∃ ι2 s env2, Grow ι H ι2 H4 ∧ RelH W ι2 H4 s ∧ REnv W ι2 H4 env2 σ ∧ whileGoW tc bm m env2 s = some (o, st'), fun σ' H' nx => ⟨m, Nat.lt_succ_self m, nx⟩, ?_⟩
      split at hgo
      · rename_i e2 s2 q2
        exact TSt.of r3 n3 q2 fun σ5 ι5 H5 g5 r5 n5 => ⟨ι5, s2, e2, (g2.trans g3).trans g5, r5, n5, hgo⟩
      · rename_i e2 s2 q2
        exact TSt.of r3 n3 q2 fun σ5 ι5 H5 g5 r5 n5 => ⟨ι5, s2, e2, (g2.trans g3).trans g5, r5, n5, hgo⟩
      · rename_i e2 s2 q2
        cases hgo
        exact TSt.of r3 n3 q2 fun σ5 ι5 H5 g5 r5 n5 => k _ _ _ ((g2.trans g3).trans g5) r5 n5
      · rename_i d s2 q2
        cases hgo
        exact TSt.of r3 n3 q2 fun v ι5 H5 g5 r5 n5 => k _ _ _ ((g2.trans g3).trans g5) r5 n5
      · cases hgo
    · rename_i e1 s1 q1
      cases hgo
      refine TBw.of r2 n2 q1 fun σ3 ι3 H3 g3 r3 n3 => (if_neg Bool.false_ne_true).mpr ?_
      exact k _ _ _ (g2.trans g3) r3 n3
    · cases hgo
theorem js_ifW {c : Expr} {ss1 ss2 : List Stmt} {tc : WM} {a b : SM} (hc : PTw X c (TBw W tc)) (ha : PSs X ss1 (TSt W a)) (hb : PSs X ss2 (TSt W b)) : PS X (.If c ss1 ss2 pos) (TSt W (sIfW tc a b)) := (ps_ifW hc ha hb).imp fun D σ H ⟨ι, st, env, o, st', r, n, e, k⟩ => by
  unfold sIfW at e
  split at e
  · rename_i e1 s1 q
    exact TBw.of r n q fun σ' ι1 H1 g1 r1 n1 => (if_pos rfl).mpr (TSt.of r1 n1 e (OkS.go k g1))
  · rename_i e1 s1 q
    exact TBw.of r n q fun σ' ι1 H1 g1 r1 n1 => (if_neg Bool.false_ne_true).mpr (TSt.of r1 n1 e (OkS.go k g1))
  · cases e
end
/-! what the mirrors answer -/
def EvW2 (c : WM) (env : Env) (st : Store) (Q : Bool → Env → Store → Prop) : Prop := ∃ b e s, c env st = some (b, e, s) ∧ Q b e s
section
variable {env : Env} {st : Store} {QS : Out → Store → Prop} {QW : Bool → Env → Store → Prop}
theorem ev_named {i : Nat} {f : D → D → Store → Option D} {me mo : EM} : EvW2 (wNamed i f me mo) env st QW ↔ EvE me env st fun v s1 => EvE mo (env.set i (some v)) s1 fun u s2 => ∃ b, f v u s2 = some (.bl b) ∧ QW b (env.set i (some v)) s2 := by
  unfold EvW2 EvE wNamed
  constructor
  · rintro ⟨b, e1, s, e, q⟩
    split at e
    · rename_i v s1 h
      split at e
      · rename_i u s2 h2
        split at e
        · rename_i b' h3
          cases e
          exact ⟨_, _, h, _, _, h2, _, h3, q⟩
        · cases e
      · cases e
    · cases e
  · rintro ⟨v, s1, h, u, s2, h2, b, h3, q⟩
    exact ⟨b, _, s2, by rw [h]; simp only [h2, h3], q⟩
theorem ev_ifW {c : WM} {a b : SM} : EvS (sIfW c a b) env st QS ↔ EvW2 c env st fun k e s => if k = true then EvS a e s QS else EvS b e s QS := by
  unfold EvW2 EvS sIfW
  constructor
  · rintro ⟨o, s, e, q⟩
    split at e
    · rename_i e1 s1 h
      exact ⟨true, e1, s1, h, (if_pos rfl).mpr ⟨o, s, e, q⟩⟩
    · rename_i e1 s1 h
      exact ⟨false, e1, s1, h, (if_neg Bool.false_ne_true).mpr ⟨o, s, e, q⟩⟩
    · cases e
  · rintro ⟨k, e1, s1, h, q⟩
    cases k with
    | true => obtain ⟨o, s, e, q⟩ := (if_pos rfl).mp q; exact ⟨o, s, by rw [h]; exact e, q⟩
    | false => obtain ⟨o, s, e, q⟩ := (if_neg Bool.false_ne_true).mp q; exact ⟨o, s, by rw [h]; exact e, q⟩
theorem whileW_inv {c : WM} {body : SM} {fuel : Nat} (I : Nat → Env → Store → Prop) (hf : ∃ n, n < fuel ∧ I n env st)
    (step : ∀ n env st, I n env st → EvW2 c env st fun b e1 s1 => if b = true then EvS body e1 s1 fun o s => match o with
      | .nx e => ∃ m, m < n ∧ I m e s
      | .ct e => ∃ m, m < n ∧ I m e s
      | .bk e => QS (.nx e) s
      | .rt d => QS (.rt d) s else QS (.nx e1) s1) : EvS (sWhileW fuel c body) env st QS := by
  have main : ∀ (n m : Nat) (env : Env) (st : Store), n < m → I n env st → ∃ o s, whileGoW c body m env st = some (o, s) ∧ QS o s := by
    intro n
    induction n using Nat.strongRecOn with
    | ind n ih =>
      intro m env st hm hI
      obtain ⟨m, rfl⟩ : ∃ k, m = k + 1 := ⟨m - 1, by omega⟩
      obtain ⟨b, e1, s1, h, q⟩ := step n env st hI
      unfold whileGoW
      rw [h]
      cases b with
      | false => exact ⟨_, _, rfl, (if_neg Bool.false_ne_true).mp q⟩
      | true =>
        obtain ⟨o, s, h2, q2⟩ := (if_pos rfl).mp q
        dsimp only
        rw [h2]
        cases o with
        | nx e => obtain ⟨k, hk, hI2⟩ := q2; exact ih k hk m e s (by omega) hI2
        | ct e => obtain ⟨k, hk, hI2⟩ := q2; exact ih k hk m e s (by omega) hI2
        | bk e => exact ⟨_, _, rfl, q2⟩
        | rt d => exact ⟨_, _, rfl, q2⟩
  obtain ⟨n, hn, hI⟩ := hf
  exact main n fuel env st hn hI
end
theorem putj_at {st l : Store} {i : Nat} {w : D} : (st ++ l).set (st.length + i) w = st ++ l.set i w := by rw [List.set_append_right _ _ (by omega), Nat.add_sub_cancel_left]
/-- the whole numbers from lo on -/
def upTo (lo : Int) (n : Nat) : List Int := (List.range n).map fun i => lo + (i : Nat)
theorem intsTo_up (lo : Int) (n : Nat) : intsTo lo n = (upTo lo n).map .int := by
  unfold intsTo upTo
  rw [List.map_map]
  rfl
theorem mem_upTo {lo z : Int} {n : Nat} : z ∈ upTo lo n ↔ lo ≤ z ∧ z < lo + n := by
  unfold upTo
  rw [List.mem_map]
  constructor
  · rintro ⟨i, hi, rfl⟩
    have := List.mem_range.mp hi
    omega
  · rintro ⟨h1, h2⟩
    exact ⟨(z - lo).toNat, List.mem_range.mpr (by omega), by omega⟩
theorem upTo_asc (lo : Int) (n : Nat) : (upTo lo n).Pairwise (· < ·) := by
  unfold upTo
  rw [List.pairwise_map]
  exact List.pairwise_lt_range.imp fun {a b} h => by omega
theorem upTo_len (lo : Int) (n : Nat) : (upTo lo n).length = n := by simp [upTo]
end My

namespace My
open PySem PySem.Spec PyProof.Rows L2
/-! ### list(zip(a, b)) of two tuples -/
open Classical in
noncomputable def eLz (ma mb : EM) : EM := fun env st => match ma env st with
  | some (x, s1) => match mb env s1 with
    | some (y, s2) => match seqT x, seqT y with
      | some xs, some ys => if (zipped xs ys).length ≤ sizeLine then some (.lst (zipped xs ys), s2) else none
      | _, _ => none
    | none => none
  | none => none
/-! ### dict comprehensions with tuples as keys -/
open Classical in
noncomputable def dcGo (gd : Store → Prop) (g : GM) (tk tv : EM) (env : Env) : List D → List (List Key) → List D → Store → Option (List (List Key) × List D × Store)
  | [], ks, vs, st => if gd st then some (ks, vs, st) else none
  | d :: ds, ks, vs, st => if gd st then match g d env with
      | some e2 => match tk e2 st with
        | some (k, s1) => match tv e2 s1 with
          | some (v, s2) => match tkeyOf k with
            | some kk => if ks.length < sizeLine then dcGo gd g tk tv env ds (kPutK ks kk) (kPutV ks vs kk v) s2 else none
            | none => none
          | none => none
        | none => none
      | none => none
    else none
noncomputable def eDcT (im : IM) (g : GM) (tk tv : EM) (vs : List Nat) : EM := fun env st => match im env st with
  | some (ds, gd, s1) => match dcGo gd g tk tv (wipeE env vs) ds [] [] s1 with
    | some (ks, ws, s2) => some (.dt ks ws, s2)
    | none => none
  | none => none
section
variable {env : Env} {st : Store} {Q : D → Store → Prop}
theorem ev_lz {ma mb : EM} : EvE (eLz ma mb) env st Q ↔ EvE ma env st fun x s1 => EvE mb env s1 fun y s2 => ∃ xs ys, seqT x = some xs ∧ seqT y = some ys ∧ (zipped xs ys).length ≤ sizeLine ∧ Q (.lst (zipped xs ys)) s2 := by
  unfold EvE eLz
  constructor
  · rintro ⟨d, s, e, q⟩
    split at e
    · rename_i x s1 h
      split at e
      · rename_i y s2 h2
        split at e
        · rename_i xs ys h3 h4
          split at e
          · rename_i hz
            cases e
            exact ⟨x, s1, h, y, _, h2, xs, ys, h3, h4, hz, q⟩
          · cases e
        · cases e
      · cases e
    · cases e
  · rintro ⟨x, s1, h, y, s2, h2, xs, ys, h3, h4, hz, q⟩
    exact ⟨_, s2, by rw [h]; simp only [h2, h3, h4, if_pos hz], q⟩
def EvD (r : Option (List (List Key) × List D × Store)) (Q : List (List Key) → List D → Store → Prop) : Prop := ∃ ks vs s, r = some (ks, vs, s) ∧ Q ks vs s
theorem ev_dcT {im : IM} {g : GM} {tk tv : EM} {vs : List Nat} : EvE (eDcT im g tk tv vs) env st Q ↔ EvI im env st fun ds gd s1 => EvD (dcGo gd g tk tv (wipeE env vs) ds [] [] s1) fun ks ws s2 => Q (.dt ks ws) s2 := by
  unfold EvE EvI EvD eDcT
  constructor
  · rintro ⟨d, s, e, q⟩
    split at e
    · rename_i ds gd s1 h
      split at e
      · rename_i ks ws s2 h2
        cases e
        exact ⟨_, _, _, h, ks, ws, _, h2, q⟩
      · cases e
    · cases e
  · rintro ⟨ds, gd, s1, h, ks, ws, s2, h2, q⟩
    exact ⟨_, s2, by rw [h]; simp only [h2], q⟩
/-- a dict comprehension by what it holds after each turn -/
theorem dc_inv {gd : Store → Prop} {g : GM} {tk tv : EM} {env : Env} {ds : List D} {st : Store} {QD : List (List Key) → List D → Store → Prop} (I : Nat → List (List Key) → List D → Store → Prop) (h0 : I 0 [] [] st) (hg : ∀ i ks vs st, i ≤ ds.length → I i ks vs st → gd st)
    (step : ∀ i (hi : i < ds.length) ks vs st, I i ks vs st → ks.length < sizeLine ∧ ∃ e1, g ds[i] env = some e1 ∧ EvE tk e1 st fun k s1 => EvE tv e1 s1 fun v s2 => ∃ kk, tkeyOf k = some kk ∧ I (i + 1) (kPutK ks kk) (kPutV ks vs kk v) s2)
    (done : ∀ ks vs st, I ds.length ks vs st → QD ks vs st) : EvD (dcGo gd g tk tv env ds [] [] st) QD := by
  have main : ∀ (m i : Nat) (ks : List (List Key)) (vs : List D) (st : Store), i + m = ds.length → I i ks vs st → EvD (dcGo gd g tk tv env (ds.drop i) ks vs st) QD := by
    intro m
    induction m with
    | zero =>
      intro i ks vs st hm hI
      have : i = ds.length := by omega
      subst this
      rw [List.drop_length]
      unfold dcGo
      rw [if_pos (hg _ _ _ _ (Nat.le_refl _) hI)]
      exact ⟨ks, vs, st, rfl, done _ _ _ hI⟩
    | succ m ih =>
      intro i ks vs st hm hI
      have hi : i < ds.length := by omega
      rw [List.drop_eq_getElem_cons hi]
      unfold dcGo
      rw [if_pos (hg _ _ _ _ (Nat.le_of_lt hi) hI)]
      obtain ⟨hz, e1, h1, k, s1, h2, v, s2, h3, kk, h4, h5⟩ := step i hi ks vs st hI
      rw [h1]
      dsimp only
      rw [h2]
      dsimp only
      rw [h3]
      dsimp only
      rw [h4]
      dsimp only
      rw [if_pos hz]
      exact ih (i + 1) _ _ _ (by omega) h5
  have := main ds.length 0 [] [] st (by omega) h0
  simpa using this
end
theorem fldj_at {s : Store} {i : Nat} {n f : Str} {v : D} {fs fs' : List Str} {vs vs' : List D} (h : s[i]? = some (.ins n fs vs)) (e : fPutF fs f = fs') (e2 : fPutV fs vs f v = vs') (hl : fs.length < 1000 := by decide) : fldPut n f (.ref i) v s = some (s.set i (.ins n fs' vs')) := by
  simp only [fldPut, h]
  rw [if_pos ⟨trivial, hl⟩, e, e2]
theorem insAj_cell {s : Store} {i : Nat} {n : Str} {fs : List Str} {vs : List D} (h : s[i]? = some (.ins n fs vs)) : insA s (.ref i) = some (n, fs, vs) := by
  simp only [insA, h]
theorem insAj_tree {s : Store} {n : Str} {fs : List Str} {vs : List D} : insA s (.ins n fs vs) = some (n, fs, vs) := rfl
end My

namespace My
open PySem PySem.Spec PyProof.Rows L2
/-! ### the zip of two tuples that still holds the pair it handed out -/
section
variable {prog : Program} {w : World} {A : Around} {E : Value → Shared → Prop} {s : Shared}
theorem tz_next_item {zp ta to' pr j1 j2 m1 m2 : Addr} {fl : Bool} {op : Obj} {q1 q2 : Nat} {xs ys : Array Value} {x y : Value} {Q : Value → Shared → Prop} (ap : ZipApart zp ta to' j1 j2 m1 m2)
    (zz : IsZipHeld s.heap zp ta to' pr fl) (hp : s.heap.get? pr = some op) (zi : IsPair s.heap ta (.ref j1) (.ref j2))
    (a1 : s.heap.IsTupleIter j1 m1 q1) (a2 : s.heap.IsTupleIter j2 m2 q2) (b1 : s.heap.IsTuple m1 xs) (b2 : s.heap.IsTuple m2 ys) (ex : xs[q1]? = some x) (ey : ys[q2]? = some y)
    (want : ∀ h', IsZipHeld h' zp ta to' pr true → h'.IsTupleIter j1 m1 (q1 + 1) → h'.IsTupleIter j2 m2 (q2 + 1) → IsPair h' s.heap.objs.size x y → h'.objs.size = s.heap.objs.size + 1 →
      (∀ b o, b ≠ zp → b ≠ j1 → b ≠ j2 → s.heap.get? b = some o → h'.get? b = some o) → Q (.ref s.heap.objs.size) { s with heap := h' }) :
    wpAny (model prog w) A (Builtin.«zip.__next__» ⟨[.ref zp], []⟩) (fun fin s' => ∃ v, fin = .done (.ret v) ∧ Q v s') E s := by
  show wpAny _ _ (field (.ref zp) 2 >>= _) _ _ _
  refine wpAny_bind (wpAny_field zz rfl (x := .bool false) rfl ?_)
  show wpAny _ _ (field (.ref zp) 3 >>= _) _ _ _
  refine wpAny_bind (wpAny_field zz rfl (x := .ref ta) rfl ?_)
  refine wpAny_bind (wpAny_seqItems zi rfl ?_)
  show wpAny _ _ (Builtin.SmallTypes.ownedTupleIsFree (.ref zp) >>= _) _ _ _
  refine wpAny_bind (wpAny_tupleHeld_zip zz hp fun g1 z1 t1 => ?_)
  simp only [Bool.false_eq_true, if_false]
  refine wpAny_bind ?_
  rw [← Array.forIn_toList]
  simp only [List.forIn_cons, List.forIn_nil]
  refine wpAny_bind (wpAny_bind (wpAny_holding ?_))
  show wpAny _ _ (Builtin.SmallTypes.nextOf (.ref j1) >>= _) _ _ _
  refine wpAny_bind (RZ.nextOf_tuple_item (s := { s with heap := g1 }) (a1.extBut t1.extBut ap.i1z) (b1.extBut t1.extBut ap.l1z) ex fun g2 c1 t2 => wpAny_pure ?_)
  refine wpAny_pure ?_
  refine wpAny_bind (wpAny_bind (wpAny_holding ?_))
  show wpAny _ _ (Builtin.SmallTypes.nextOf (.ref j2) >>= _) _ _ _
  refine wpAny_bind (RZ.nextOf_tuple_item (s := { s with heap := g2 }) ((a2.extBut t1.extBut ap.i2z).extBut t2.extBut ap.i12.symm) ((b2.extBut t1.extBut ap.l2z).extBut t2.extBut ap.l2i1) ey fun g3 c2 t3 => wpAny_pure ?_)
  refine wpAny_pure (wpAny_pure ?_)
  show wpAny _ _ (newTuple [x, y] >>= _) _ _ _
  refine wpAny_bind (wpAny_newTuple ?_)
  have sz : g3.objs.size = s.heap.objs.size := by rw [t3.1, t2.1, t1.1]
  have z3 : IsZipHeld g3 zp ta to' pr true := t3.extBut _ _ ap.i2z.symm (t2.extBut _ _ ap.i1z.symm z1)
  have kp : ∀ b o, b ≠ zp → b ≠ j1 → b ≠ j2 → s.heap.get? b = some o → g3.get? b = some o := fun b o n1 n2 n3 e => t3.extBut _ _ n3 (t2.extBut _ _ n2 (t1.extBut _ _ n1 e))
  have c1' : g3.IsTupleIter j1 m1 (q1 + 1) := c1.extBut t3.extBut ap.i12
  refine wpAny_pure ⟨_, rfl, ?_⟩
  show Q (.ref g3.objs.size) _
  have new : IsPair (g3.push { cls := .type "tuple", data := .seq #[x, y] }) g3.objs.size x y := Heap.get?_push_size _ rfl
  have sz4 : (g3.push { cls := .type "tuple", data := .seq #[x, y] }).objs.size = g3.objs.size + 1 := Heap.size_push ..
  rw [sz] at new sz4 ⊢
  refine want _ (Heap.get?_push_of_some _ z3) ?_ ?_ new sz4 fun b o n1 n2 n3 e => Heap.get?_push_of_some _ (kp b o n1 n2 n3 e)
  · obtain ⟨o, e, r⟩ := c1'
    exact ⟨o, Heap.get?_push_of_some _ e, r⟩
  · obtain ⟨o, e, r⟩ := c2
    exact ⟨o, Heap.get?_push_of_some _ e, r⟩
theorem tz_pyNext_item {zp ta to' pr j1 j2 m1 m2 : Addr} {fl : Bool} {op : Obj} {q1 q2 : Nat} {xs ys : Array Value} {x y : Value} {Q : Option Value → Shared → Prop} (ap : ZipApart zp ta to' j1 j2 m1 m2)
    (zz : IsZipHeld s.heap zp ta to' pr fl) (hp : s.heap.get? pr = some op) (zi : IsPair s.heap ta (.ref j1) (.ref j2))
    (a1 : s.heap.IsTupleIter j1 m1 q1) (a2 : s.heap.IsTupleIter j2 m2 q2) (b1 : s.heap.IsTuple m1 xs) (b2 : s.heap.IsTuple m2 ys) (ex : xs[q1]? = some x) (ey : ys[q2]? = some y)
    (want : ∀ h', IsZipHeld h' zp ta to' pr true → h'.IsTupleIter j1 m1 (q1 + 1) → h'.IsTupleIter j2 m2 (q2 + 1) → IsPair h' s.heap.objs.size x y → h'.objs.size = s.heap.objs.size + 1 →
      (∀ b o, b ≠ zp → b ≠ j1 → b ≠ j2 → s.heap.get? b = some o → h'.get? b = some o) → Q (some (.ref s.heap.objs.size)) { s with heap := h' }) :
    wpAny (model prog w) A (pyNext (.ref zp)) Q E s := by
  have ty : s.TypeIs (.ref zp) "zip" := ⟨_, zz, rfl⟩
  unfold pyNext
  refine wpAny_bind (wpAny_attempt (wpAny_callSpecial?_slot (name := Str.ofString "__next__") ty F.slot_zip_next ?_))
  exact wpAny_call_entry F.slot_zip_next ty F.entry_zip_next (tz_next_item ap zz hp zi a1 a2 b1 b2 ex ey fun h' r1 r2 r3 r4 r5 r6 => wpAny_pure (want h' r1 r2 r3 r4 r5 r6)) (F.args_zip_next_1 _)
theorem tz_next_end {zp ta to' pr j1 j2 m1 m2 : Addr} {fl : Bool} {op : Obj} {q1 q2 : Nat} {xs ys : Array Value} {Q : PySem.Fin → Shared → Prop} (calm : A.handled = none) (ap : ZipApart zp ta to' j1 j2 m1 m2)
    (zz : IsZipHeld s.heap zp ta to' pr fl) (hp : s.heap.get? pr = some op) (zi : IsPair s.heap ta (.ref j1) (.ref j2))
    (a1 : s.heap.IsTupleIter j1 m1 q1) (a2 : s.heap.IsTupleIter j2 m2 q2) (b1 : s.heap.IsTuple m1 xs) (b2 : s.heap.IsTuple m2 ys) (stop : xs[q1]? = none ∨ ys[q2]? = none)
    (want : ∀ h' e, (∀ b o, b ≠ zp → b ≠ j1 → b ≠ j2 → s.heap.get? b = some o → h'.get? b = some o) → (∃ o, h'.get? e = some o ∧ o.cls = .type "StopIteration") → E (.ref e) { s with heap := h' }) :
    wpAny (model prog w) A (Builtin.«zip.__next__» ⟨[.ref zp], []⟩) Q E s := by
  show wpAny _ _ (field (.ref zp) 2 >>= _) _ _ _
  refine wpAny_bind (wpAny_field zz rfl (x := .bool false) rfl ?_)
  show wpAny _ _ (field (.ref zp) 3 >>= _) _ _ _
  refine wpAny_bind (wpAny_field zz rfl (x := .ref ta) rfl ?_)
  refine wpAny_bind (wpAny_seqItems zi rfl ?_)
  show wpAny _ _ (Builtin.SmallTypes.ownedTupleIsFree (.ref zp) >>= _) _ _ _
  refine wpAny_bind (wpAny_tupleHeld_zip zz hp fun g1 z1 t1 => ?_)
  simp only [Bool.false_eq_true, if_false]
  refine wpAny_bind ?_
  rw [← Array.forIn_toList]
  simp only [List.forIn_cons, List.forIn_nil]
  refine wpAny_bind (wpAny_bind (wpAny_holding ?_))
  show wpAny _ _ (Builtin.SmallTypes.nextOf (.ref j1) >>= _) _ _ _
  cases ex : xs[q1]? with
  | none =>
    refine wpAny_bind (RZ.nextOf_tuple_end (s := { s with heap := g1 }) calm (a1.extBut t1.extBut ap.i1z) (b1.extBut t1.extBut ap.l1z) ex fun g2 e t2 he => ?_)
    exact want g2 e (fun b o n1 n2 _ x => t2 _ _ n2 (t1.extBut _ _ n1 x)) he
  | some x =>
    have ey : ys[q2]? = none := stop.resolve_left (by rw [ex]; simp)
    refine wpAny_bind (RZ.nextOf_tuple_item (s := { s with heap := g1 }) (a1.extBut t1.extBut ap.i1z) (b1.extBut t1.extBut ap.l1z) ex fun g2 c1 t2 => wpAny_pure ?_)
    refine wpAny_pure ?_
    refine wpAny_bind (wpAny_bind (wpAny_holding ?_))
    show wpAny _ _ (Builtin.SmallTypes.nextOf (.ref j2) >>= _) _ _ _
    refine wpAny_bind (RZ.nextOf_tuple_end (s := { s with heap := g2 }) calm ((a2.extBut t1.extBut ap.i2z).extBut t2.extBut ap.i12.symm) ((b2.extBut t1.extBut ap.l2z).extBut t2.extBut ap.l2i1) ey fun g3 e t3 he => ?_)
    exact want g3 e (fun b o n1 n2 n3 x => t3 _ _ n3 (t2.extBut _ _ n2 (t1.extBut _ _ n1 x))) he
theorem tz_pyNext_end {zp ta to' pr j1 j2 m1 m2 : Addr} {fl : Bool} {op : Obj} {q1 q2 : Nat} {xs ys : Array Value} {Q : Option Value → Shared → Prop} (calm : A.handled = none) (ap : ZipApart zp ta to' j1 j2 m1 m2)
    (zz : IsZipHeld s.heap zp ta to' pr fl) (hp : s.heap.get? pr = some op) (zi : IsPair s.heap ta (.ref j1) (.ref j2))
    (a1 : s.heap.IsTupleIter j1 m1 q1) (a2 : s.heap.IsTupleIter j2 m2 q2) (b1 : s.heap.IsTuple m1 xs) (b2 : s.heap.IsTuple m2 ys) (stop : xs[q1]? = none ∨ ys[q2]? = none)
    (want : ∀ h', (∀ b o, b ≠ zp → b ≠ j1 → b ≠ j2 → s.heap.get? b = some o → h'.get? b = some o) → Q none { s with heap := h' }) :
    wpAny (model prog w) A (pyNext (.ref zp)) Q E s := by
  have ty : s.TypeIs (.ref zp) "zip" := ⟨_, zz, rfl⟩
  unfold pyNext
  refine wpAny_bind (wpAny_attempt (wpAny_callSpecial?_slot (name := Str.ofString "__next__") ty F.slot_zip_next ?_))
  refine wpAny_call_entry F.slot_zip_next ty F.entry_zip_next (tz_next_end calm ap zz hp zi a1 a2 b1 b2 stop fun h' e kp he => ?_) (F.args_zip_next_1 _)
  obtain ⟨o, ho, hc⟩ := he
  refine wpAny_bind (wpAny_isInstance (T := "StopIteration") (b := true) ⟨o, ho, hc⟩ isSubtype_stop ?_)
  exact wpAny_pure (want _ kp)
end
/-- the pairs that were handed out -/
def PairsAt (h : Heap) (xs ys : Array Value) (as : List Addr) : Prop := ∀ (j : Nat) (a : Addr), as[j]? = some a → ∃ x y, xs[j]? = some x ∧ ys[j]? = some y ∧ IsPair h a x y
section
variable {prog : Program} {w : World} {A : Around} {s : Shared} {R : Result → Shared → Prop}
/-- the turns of list.extend over such a zip -/
theorem tz_loop {zp ta to' j1 j2 m1 m2 S : Addr} {xs ys : Array Value} {n : Nat} {res : Value} {bsz : Nat} {kq : Addr → Obj → Prop} (calm : A.handled = none) (ap : ZipApart zp ta to' j1 j2 m1 m2) (hn : n = min xs.size ys.size) (hz : n ≤ sizeLine)
    (nS : S ≠ zp ∧ S ≠ j1 ∧ S ≠ j2 ∧ S ≠ ta ∧ S ≠ m1 ∧ S ≠ m2)
    (want : ∀ h' as c, as.length = n → PairsAt h' xs ys as → (∀ a ∈ as, bsz ≤ a) → as.Nodup → h'.get? S = some { cls := .type "list", dict := none, data := .seq (as.map Value.ref).toArray c, slots := #[] } →
      (∀ b o, b ≠ S → b ≠ zp → b ≠ j1 → b ≠ j2 → kq b o → h'.get? b = some o) → R (.ok (.ret res)) { s with heap := h' }) :
    ∀ (k i : Nat) (h : Heap) (pr : Addr) (fl : Bool) (op : Obj) (as : List Addr) (c : Nat), n - i = k → i ≤ n → as.length = i → IsZipHeld h zp ta to' pr fl → h.get? pr = some op → pr ≠ zp → pr ≠ j1 → pr ≠ j2 → pr ≠ S → IsPair h ta (.ref j1) (.ref j2) →
      h.IsTupleIter j1 m1 i → h.IsTupleIter j2 m2 i → h.IsTuple m1 xs → h.IsTuple m2 ys → PairsAt h xs ys as → (∀ a ∈ as, bsz ≤ a ∧ a < h.objs.size ∧ a ≠ S ∧ a ≠ zp ∧ a ≠ j1 ∧ a ≠ j2) → as.Nodup → bsz ≤ h.objs.size →
      h.get? S = some { cls := .type "list", dict := none, data := .seq (as.map Value.ref).toArray c, slots := #[] } →
      (∀ b o, b ≠ S → b ≠ zp → b ≠ j1 → b ≠ j2 → kq b o → h.get? b = some o) →
      codeAny (model prog w) A (.builtin "list.extend.loop" ⟨[.ref S, .ref zp, res], []⟩) R { s with heap := h } := by
  obtain ⟨s1, s2, s3, s4, s5, s6⟩ := nS
  intro k
  induction k with
  | zero =>
    intro i h pr fl op as c hk hi la zz hp p1 p2 p3 p4 zi a1 a2 b1 b2 pa aa nd bs hS kp
    have ein : i = n := by omega
    refine codeAny_builtin PySem.F.entry_extend_loop ?_
    rw [Around.under_plainId PySem.F.plain_extend_loop _]
    show wpAny _ A.in1 (pyNext (.ref zp) >>= _) _ _ _
    refine wpAny_bind (tz_pyNext_end (s := { s with heap := h }) (A := A.in1) calm ap zz hp zi a1 a2 b1 b2 ?_ fun h' k2 => ?_)
    · by_cases q : xs.size ≤ i
      · exact .inl (Array.getElem?_eq_none q)
      · exact .inr (Array.getElem?_eq_none (by omega))
    · refine wpAny_pure (want h' as c (by omega) (fun j a e => ?_) (fun a ha => (aa a ha).1) nd (k2 S _ s1 s2 s3 hS) fun b o n1 n2 n3 n4 e => k2 b o n2 n3 n4 (kp b o n1 n2 n3 n4 e))
      obtain ⟨x, y, e1, e2, e3⟩ := pa j a e
      obtain ⟨_, _, _, q2, q3, q4⟩ := aa a (List.mem_of_getElem? e)
      exact ⟨x, y, e1, e2, k2 a _ q2 q3 q4 e3⟩
  | succ k ih =>
    intro i h pr fl op as c hk hi la zz hp p1 p2 p3 p4 zi a1 a2 b1 b2 pa aa nd bs hS kp
    have lt1 : i < xs.size := by omega
    have lt2 : i < ys.size := by omega
    refine codeAny_builtin PySem.F.entry_extend_loop ?_
    rw [Around.under_plainId PySem.F.plain_extend_loop _]
    show wpAny _ A.in1 (pyNext (.ref zp) >>= _) _ _ _
    refine wpAny_bind (tz_pyNext_item (s := { s with heap := h }) (A := A.in1) ap zz hp zi a1 a2 b1 b2 (Array.getElem?_eq_getElem lt1) (Array.getElem?_eq_getElem lt2) fun h' r1 r2 r3 r4 r5 r6 => ?_)
    dsimp only at r4 r5 r6 ⊢
    have hS' := r6 S _ s1 s2 s3 hS
    show wpAny _ A.in1 (updateSeq S (·.push (Value.ref h.objs.size)) >>= _) _ _ _
    refine wpAny_bind (wpAny_updateSeq (hz := ?_) hS' rfl (wpAny_pure ⟨plainId_quiet PySem.F.plain_extend_loop _, ?_⟩))
    · have up : ∀ b o, b ≠ S → h'.get? b = some o → (h'.update S (Obj.mapSeq (·.push (Value.ref h.objs.size)))).get? b = some o := fun b o nb e => (Heap.get?_update_other _ _ (Ne.symm nb)).trans e
      have hSlt : S < h.objs.size := Heap.lt_size hS
      have fresh : ∀ b o, h.get? b = some o → b ≠ h.objs.size := fun b o e => Nat.ne_of_lt (Heap.lt_size e)
      have self := Heap.get?_update_self (Obj.mapSeq (·.push (Value.ref h.objs.size))) hS' rfl
      have self2 : ∃ c', (h'.update S (Obj.mapSeq (·.push (Value.ref h.objs.size)))).get? S = some { cls := .type "list", dict := none, data := .seq ((as ++ [h.objs.size]).map Value.ref).toArray c', slots := #[] } := by
        rw [self]
        simp [Obj.mapSeq]
      obtain ⟨c', self2⟩ := self2
      have usz : (h'.update S (Obj.mapSeq (·.push (Value.ref h.objs.size)))).objs.size = h.objs.size + 1 := by rw [Heap.size_update, r5]
      obtain ⟨o1, e1, f1⟩ := r2
      obtain ⟨o2, e2, f2⟩ := r3
      obtain ⟨o3, e3, f3⟩ := b1
      obtain ⟨o4, e4, f4⟩ := b2
      have nz := fresh zp _ zz
      refine ih (i + 1) _ pr true op (as ++ [h.objs.size]) c' (by omega) (by omega) (by rw [List.length_append, la]; rfl) (up _ _ (Ne.symm s1) r1) (up _ _ p4 (r6 _ _ p1 p2 p3 hp)) p1 p2 p3 p4 (up _ _ (Ne.symm s4) (r6 _ _ ap.TIz ap.TIi1 ap.TIi2 zi))
        ⟨o1, up _ _ (Ne.symm s2) e1, f1⟩ ⟨o2, up _ _ (Ne.symm s3) e2, f2⟩ ⟨o3, up _ _ (Ne.symm s5) (r6 _ _ ap.l1z ap.l1i1 ap.l1i2 e3), f3⟩ ⟨o4, up _ _ (Ne.symm s6) (r6 _ _ ap.l2z ap.l2i1 ap.l2i2 e4), f4⟩ ?_ ?_ ?_ (show bsz ≤ (h'.update S (Obj.mapSeq (·.push (Value.ref h.objs.size)))).objs.size by rw [usz]; omega) self2 fun b o n1 n2 n3 n4 e => up b o n1 (r6 b o n2 n3 n4 (kp b o n1 n2 n3 n4 e))
      · intro j a e
        by_cases q : j < as.length
        · rw [List.getElem?_append_left q] at e
          obtain ⟨x, y, g1, g2, g3⟩ := pa j a e
          obtain ⟨_, _, n1, n2, n3, n4⟩ := aa a (List.mem_of_getElem? e)
          exact ⟨x, y, g1, g2, up _ _ n1 (r6 _ _ n2 n3 n4 g3)⟩
        · have ej : j = i := by
            have := (List.getElem?_eq_some_iff.mp e).1
            rw [List.length_append, List.length_singleton] at this
            omega
          subst ej
          rw [List.getElem?_append_right (by omega), la, Nat.sub_self] at e
          cases e
          exact ⟨_, _, Array.getElem?_eq_getElem lt1, Array.getElem?_eq_getElem lt2, up _ _ (Nat.ne_of_gt hSlt) r4⟩
      · intro a ha
        rcases List.mem_append.mp ha with q | q
        · obtain ⟨m0, m1', n1, n2, n3, n4⟩ := aa a q
          exact ⟨m0, show a < (h'.update S (Obj.mapSeq (·.push (Value.ref h.objs.size)))).objs.size by rw [usz]; exact Nat.lt_succ_of_lt m1', n1, n2, n3, n4⟩
        · rw [List.mem_singleton.mp q]
          obtain ⟨_, y1, _⟩ := a1
          obtain ⟨_, y2, _⟩ := a2
          exact ⟨bs, show h.objs.size < (h'.update S (Obj.mapSeq (·.push (Value.ref h.objs.size)))).objs.size by rw [usz]; omega, Nat.ne_of_gt hSlt, Ne.symm nz, Ne.symm (fresh _ _ y1), Ne.symm (fresh _ _ y2)⟩
      · refine List.nodup_append.mpr ⟨nd, by simp, fun a ha b hb e => ?_⟩
        rw [List.mem_singleton.mp hb] at e
        exact Nat.ne_of_lt (aa a ha).2.1 e
    · rw [List.size_toArray, List.length_map]
      omega
end
end My

namespace My
open PySem PySem.Spec PyProof.Rows L2
theorem zip_len0 : typeLookup (.type "zip") "__len__" = pure none := am_miss_of_fast (by decide +kernel)
theorem zip_hint0 : typeLookup (.type "zip") "__length_hint__" = pure none := am_miss_of_fast (by decide +kernel)
section
variable {prog : Program} {w : World} {A : Around} {s : Shared} {R : Result → Shared → Prop}
theorem tz_extend {zp ta to' j1 j2 m1 m2 S : Addr} {xs ys : Array Value} {n c0 : Nat} {res va vb : Value} (calm : A.handled = none) (ap : ZipApart zp ta to' j1 j2 m1 m2) (hn : n = min xs.size ys.size) (hz : n ≤ sizeLine)
    (nS : S ≠ zp ∧ S ≠ j1 ∧ S ≠ j2 ∧ S ≠ ta ∧ S ≠ m1 ∧ S ≠ m2 ∧ S ≠ to') (zz : IsZip s.heap zp ta to' .none) (zi : IsPair s.heap ta (.ref j1) (.ref j2)) (zo : IsPair s.heap to' va vb)
    (a1 : s.heap.IsTupleIter j1 m1 0) (a2 : s.heap.IsTupleIter j2 m2 0) (b1 : s.heap.IsTuple m1 xs) (b2 : s.heap.IsTuple m2 ys) (hS : s.heap.get? S = some { cls := .type "list", data := .seq #[] c0 })
    (want : ∀ h' as c, as.length = n → PairsAt h' xs ys as → (∀ a ∈ as, s.heap.objs.size ≤ a) → as.Nodup → h'.get? S = some { cls := .type "list", dict := none, data := .seq (as.map Value.ref).toArray c, slots := #[] } →
      (∀ b o, b ≠ S → b ≠ zp → b ≠ j1 → b ≠ j2 → b ≠ to' → s.heap.get? b = some o → h'.get? b = some o) → R (.ok (.ret res)) { s with heap := h' }) :
    wpAny (model prog w) A.in1 (Builtin.List.listExtendWith (.ref S) (.ref zp) res)
      (fun fin s' => match fin with | .done f => R (.ok f) s' | .again c' => c'.quiet = true ∧ codeAny (model prog w) A c' R s') (fun e s' => R (.error e) s') s := by
  have ty : s.TypeIs (.ref zp) "zip" := ⟨_, zz, rfl⟩
  unfold Builtin.List.listExtendWith
  refine wpAny_bind (wpAny_typeOf ty ?_)
  have h1 : Builtin.List.listSameRef (.ref S) (.ref zp) = false := by simp [Builtin.List.listSameRef, nS.1]
  have h2 : (Value.type "zip" == Value.type "list") = false := by decide
  have h3 : (Value.type "zip" == Value.type "tuple") = false := by decide
  simp only [h1, h2, h3, Bool.or_false, Bool.false_eq_true, if_false]
  refine wpAny_bind (wpAny_pyIter_zip zz ?_)
  refine wpAny_bind (wpAny_holding ?_)
  unfold Builtin.List.listLengthHint
  refine wpAny_bind (wpAny_specialOf ty zip_len0 ?_)
  show wpAny _ A.in1 (specialOf (Value.ref zp) (Str.ofString "__length_hint__") >>= _) _ _ _
  refine wpAny_bind (wpAny_specialOf ty zip_hint0 ?_)
  refine wpAny_pure ?_
  simp only [Bool.true_or, if_true]
  refine wpAny_bind (wpAny_rule ?_)
  refine wpAny_bind ?_
  show wpAny _ A.in1 (updateSeq S (·.push .none) >>= fun _ => updateSeq S (·.pop)) _ _ _
  refine wpAny_bind (wpAny_updateSeq hS rfl ?_)
  have hS2 := Heap.get?_update_self (Obj.mapSeq (·.push Value.none)) hS rfl
  refine wpAny_updateSeq (hz := by seq_fits) hS2 rfl ?_
  have hS3 := Heap.get?_update_self (Obj.mapSeq (·.pop)) hS2 rfl
  have far : ∀ b o, b ≠ S → s.heap.get? b = some o → ((s.heap.update S (Obj.mapSeq (·.push Value.none))).update S (Obj.mapSeq (·.pop))).get? b = some o :=
    fun b o nb e => (Heap.get?_update_other _ _ (Ne.symm nb)).trans ((Heap.get?_update_other _ _ (Ne.symm nb)).trans e)
  have hsz : ((s.heap.update S (Obj.mapSeq (·.push Value.none))).update S (Obj.mapSeq (·.pop))).objs.size = s.heap.objs.size := by rw [Heap.size_update, Heap.size_update]
  have hS4 : ∃ c, ((s.heap.update S (Obj.mapSeq (·.push Value.none))).update S (Obj.mapSeq (·.pop))).get? S = some { cls := .type "list", dict := none, data := .seq #[] c, slots := #[] } := by
    rw [hS3]
    simp [Obj.mapSeq]
  obtain ⟨c4, hS4⟩ := hS4
  obtain ⟨n1, n2, n3, n4, n5, n6, n7⟩ := nS
  have zz' := far _ _ (Ne.symm n1) zz
  have zi' := far _ _ (Ne.symm n4) zi
  have zo' := far _ _ (Ne.symm n7) zo
  have mv : ∀ {b o}, b ≠ S → s.heap.get? b = some o → _ := fun {b o} nb e => far b o nb e
  obtain ⟨o1, e1, f1⟩ := a1
  obtain ⟨o2, e2, f2⟩ := a2
  obtain ⟨o3, e3, f3⟩ := b1
  obtain ⟨o4, e4, f4⟩ := b2
  have e1' := far _ _ (Ne.symm n2) e1
  have e2' := far _ _ (Ne.symm n3) e2
  have e3' := far _ _ (Ne.symm n5) e3
  have e4' := far _ _ (Ne.symm n6) e4
  generalize (s.heap.update S (Obj.mapSeq (·.push Value.none))).update S (Obj.mapSeq (·.pop)) = g at *
  refine wpAny_pure ⟨plainId_quiet PySem.F.plain_extend_loop _, ?_⟩
  refine codeAny_builtin PySem.F.entry_extend_loop ?_
  rw [Around.under_plainId PySem.F.plain_extend_loop _]
  show wpAny _ A.in1 (pyNext (.ref zp) >>= _) _ _ _
  by_cases hn0 : n = 0
  · refine wpAny_bind (RZ.pyNext_zipT_end (s := { s with heap := g }) (A := A.in1) calm ap zz' zi' zo' ⟨o1, e1', f1⟩ ⟨o2, e2', f2⟩ ⟨o3, e3', f3⟩ ⟨o4, e4', f4⟩ ?_ fun h' kp => ?_)
    · by_cases q : xs.size = 0
      · exact .inl (Array.getElem?_eq_none (by omega))
      · exact .inr (Array.getElem?_eq_none (by omega))
    · refine wpAny_pure (want h' [] c4 (by rw [hn0]; rfl) (fun j a e => by simp at e) (fun a h => by simp at h) .nil (kp S _ n1 n7 n2 n3 hS4) fun b o m1 m2 m3 m4 m5 e => kp b o m2 m5 m3 m4 (far b o m1 e))
  · have lt1 : 0 < xs.size := by omega
    have lt2 : 0 < ys.size := by omega
    refine wpAny_bind (RZ.pyNext_zipT_item (s := { s with heap := g }) (A := A.in1) ap zz' zi' zo' ⟨o1, e1', f1⟩ ⟨o2, e2', f2⟩ ⟨o3, e3', f3⟩ ⟨o4, e4', f4⟩ (Array.getElem?_eq_getElem lt1) (Array.getElem?_eq_getElem lt2) fun h' r1 r2 r3 r4 r5 r6 r7 => ?_)
    have hS5 := r7 S _ n1 n7 n2 n3 hS4
    have up : ∀ b o, b ≠ S → h'.get? b = some o → (h'.update S (Obj.mapSeq (·.push (Value.ref g.objs.size)))).get? b = some o := fun b o nb e => (Heap.get?_update_other _ _ (Ne.symm nb)).trans e
    have self := Heap.get?_update_self (Obj.mapSeq (·.push (Value.ref g.objs.size))) hS5 rfl
    have self2 : ∃ c', (h'.update S (Obj.mapSeq (·.push (Value.ref g.objs.size)))).get? S = some { cls := .type "list", dict := none, data := .seq ([g.objs.size].map Value.ref).toArray c', slots := #[] } := by
      rw [self]
      simp [Obj.mapSeq]
    obtain ⟨c5, self2⟩ := self2
    have usz : (h'.update S (Obj.mapSeq (·.push (Value.ref g.objs.size)))).objs.size = g.objs.size + 1 := by rw [Heap.size_update, r6]
    have gS : S ≠ g.objs.size := Nat.ne_of_lt (Heap.lt_size hS4)
    have gz : zp ≠ g.objs.size := Nat.ne_of_lt (Heap.lt_size zz')
    have g1' : j1 ≠ g.objs.size := Nat.ne_of_lt (Heap.lt_size e1')
    have g2' : j2 ≠ g.objs.size := Nat.ne_of_lt (Heap.lt_size e2')
    obtain ⟨p1, y1, w1⟩ := r3
    obtain ⟨p2, y2, w2⟩ := r4
    show wpAny _ A.in1 (updateSeq S (·.push (Value.ref g.objs.size)) >>= _) _ _ _
    refine wpAny_bind (wpAny_updateSeq hS5 rfl (wpAny_pure ⟨plainId_quiet PySem.F.plain_extend_loop _, ?_⟩))
    refine tz_loop (s := s) (bsz := s.heap.objs.size) (kq := fun b o => b ≠ to' ∧ s.heap.get? b = some o) calm ap hn hz ⟨n1, n2, n3, n4, n5, n6⟩ (fun h2 as c q1 q2 q3 q4 q5 q6 => want h2 as c q1 q2 q3 q4 q5 fun b o m1 m2 m3 m4 m5 e => q6 b o m1 m2 m3 m4 ⟨m5, e⟩)
      (n - 1) 1 (h'.update S (Obj.mapSeq (·.push (Value.ref g.objs.size)))) g.objs.size false _ [g.objs.size] c5 rfl (by omega) rfl (up _ _ (Ne.symm n1) r1) (up _ _ (Ne.symm gS) r5) (Ne.symm gz) (Ne.symm g1') (Ne.symm g2') (Ne.symm gS) (up _ _ (Ne.symm n4) (r7 _ _ ap.TIz ap.TITO ap.TIi1 ap.TIi2 zi'))
      ⟨p1, up _ _ (Ne.symm n2) y1, w1⟩ ⟨p2, up _ _ (Ne.symm n3) y2, w2⟩ ⟨o3, up _ _ (Ne.symm n5) (r7 _ _ ap.l1z ap.l1TO ap.l1i1 ap.l1i2 e3'), f3⟩ ⟨o4, up _ _ (Ne.symm n6) (r7 _ _ ap.l2z ap.l2TO ap.l2i1 ap.l2i2 e4'), f4⟩ ?_ ?_ (by simp) ?_ self2 ?_
    · intro j a e
      cases j with
      | zero => cases e; exact ⟨_, _, Array.getElem?_eq_getElem lt1, Array.getElem?_eq_getElem lt2, up _ _ (Ne.symm gS) r5⟩
      | succ j => simp at e
    · intro a ha
      rw [List.mem_singleton.mp ha]
      exact ⟨Nat.le_of_eq hsz.symm, by rw [usz]; exact Nat.lt_succ_self _, Ne.symm gS, Ne.symm gz, Ne.symm g1', Ne.symm g2'⟩
    · rw [usz, hsz]; exact Nat.le_succ _
    · rintro b o m1 m2 m3 m4 ⟨m5, e⟩
      exact up b o m1 (r7 b o m2 m5 m3 m4 (far b o m1 e))
end
section
variable {prog : Program} {w : World} {A : Around} {E : Value → Shared → Prop} {s : Shared}
/-- list(z), z a zip of two tuples that has not begun -/
theorem tz_list {zp ta to' j1 j2 m1 m2 : Addr} {xs ys : Array Value} {n : Nat} {va vb : Value} {Q : Value → Shared → Prop} (calm : A.handled = none) (ap : ZipApart zp ta to' j1 j2 m1 m2) (hn : n = min xs.size ys.size) (hz : n ≤ sizeLine)
    (zz : IsZip s.heap zp ta to' .none) (zi : IsPair s.heap ta (.ref j1) (.ref j2)) (zo : IsPair s.heap to' va vb)
    (a1 : s.heap.IsTupleIter j1 m1 0) (a2 : s.heap.IsTupleIter j2 m2 0) (b1 : s.heap.IsTuple m1 xs) (b2 : s.heap.IsTuple m2 ys)
    (want : ∀ h' as c, as.length = n → PairsAt h' xs ys as → (∀ a ∈ as, s.heap.objs.size < a) → as.Nodup → h'.get? s.heap.objs.size = some { cls := .type "list", dict := none, data := .seq (as.map Value.ref).toArray c, slots := #[] } →
      (∀ b o, b ≠ zp → b ≠ j1 → b ≠ j2 → b ≠ to' → s.heap.get? b = some o → h'.get? b = some o) → Q (.ref s.heap.objs.size) { s with heap := h' }) :
    wpAny (model prog w) A (call (.type "list") [.ref zp]) Q E s := by
  have below : ∀ b o, s.heap.get? b = some o → b < s.heap.objs.size := fun b o e => Heap.lt_size e
  refine callType_codes (Q₁ := fun obj s₁ => obj = .ref s.heap.objs.size ∧ s₁ = { s with heap := s.heap.push { cls := .type "list", data := .seq #[] } }) F.called_list (F.typeCall_list_1 _) F.entry_list_init
    (code_list_new _ ⟨rfl, rfl⟩) fun obj t ht => ?_
  obtain ⟨rfl, rfl⟩ := ht
  have hS : (s.heap.push { cls := .type "list", data := .seq #[] }).get? s.heap.objs.size = some { cls := .type "list", data := .seq #[] } := Heap.get?_push_size _ rfl
  refine ⟨⟨_, hS, rfl⟩, F.args_list_init_2 _ _, ?_⟩
  show wpAny _ _ (do let old ← Builtin.List.listItems (.ref s.heap.objs.size); Builtin.List.listUpdate (.ref s.heap.objs.size) (fun _ => #[]); letGo old.toList.reverse; Builtin.List.listExtendWith (.ref s.heap.objs.size) (.ref zp) .none) _ _ _
  refine wpAny_bind ?_
  unfold Builtin.List.listItems
  refine wpAny_bind (wpAny_seqItems hS rfl (wpAny_pure ?_))
  show wpAny _ _ (updateSeq s.heap.objs.size (fun _ => #[]) >>= fun _ => letGo (#[] : Array Value).toList.reverse >>= fun _ => Builtin.List.listExtendWith (.ref s.heap.objs.size) (.ref zp) .none) _ _ _
  refine wpAny_bind (wpAny_updateSeq hS rfl ?_)
  have self := Heap.get?_update_self (Obj.mapSeq (fun _ => (#[] : Array Value))) hS rfl
  have up : ∀ b o, s.heap.get? b = some o → ((s.heap.push { cls := .type "list", data := .seq #[] }).update s.heap.objs.size (Obj.mapSeq (fun _ => (#[] : Array Value)))).get? b = some o :=
    fun b o e => (Heap.get?_update_other _ _ (Nat.ne_of_gt (below b o e))).trans (Heap.get?_push_of_some _ e)
  have usz : ((s.heap.push { cls := .type "list", data := .seq #[] }).update s.heap.objs.size (Obj.mapSeq (fun _ => (#[] : Array Value)))).objs.size = s.heap.objs.size + 1 := by rw [Heap.size_update, Heap.size_push]
  have self2 : ∃ c, ((s.heap.push { cls := .type "list", data := .seq #[] }).update s.heap.objs.size (Obj.mapSeq (fun _ => (#[] : Array Value)))).get? s.heap.objs.size = some { cls := .type "list", data := .seq #[] c } := by
    rw [self]
    simp [Obj.mapSeq]
  obtain ⟨c0, self2⟩ := self2
  obtain ⟨p1, y1, w1⟩ := a1
  obtain ⟨p2, y2, w2⟩ := a2
  obtain ⟨p3, y3, w3⟩ := b1
  obtain ⟨p4, y4, w4⟩ := b2
  have ne : ∀ {b o}, s.heap.get? b = some o → s.heap.objs.size ≠ b := fun {b o} e => Nat.ne_of_gt (below b o e)
  refine wpAny_bind (wpAny_letGo ?_)
  generalize hg : (s.heap.push { cls := .type "list", data := .seq #[] }).update s.heap.objs.size (Obj.mapSeq (fun _ => (#[] : Array Value))) = g at *
  refine tz_extend (A := A.in1) (s := { s with heap := g }) (S := s.heap.objs.size) calm ap hn hz ⟨ne zz, ne y1, ne y2, ne zi, ne y3, ne y4, ne zo⟩ (up _ _ zz) (up _ _ zi) (up _ _ zo) ⟨p1, up _ _ y1, w1⟩ ⟨p2, up _ _ y2, w2⟩ ⟨p3, up _ _ y3, w3⟩ ⟨p4, up _ _ y4, w4⟩ self2 ?_
  intro h' as c q1 q2 q3 q4 q5 q6
  refine ⟨rfl, want h' as c q1 q2 (fun a ha => ?_) q4 q5 fun b o m2 m3 m4 m5 e => q6 b o (Nat.ne_of_lt (below b o e)) m2 m3 m4 m5 (up b o e)⟩
  have := q3 a ha
  have e2 : g.objs.size = s.heap.objs.size + 1 := usz
  have : g.objs.size ≤ a := this
  omega
end
end My

namespace My
open PySem PySem.Spec PyProof.Rows L2
/-- many new objects at once -/
theorem inv_many {X : Cx} {pins : List (Addr × Obj)} {σ : L2.St} {H H' : Hp} {s : Shared} {h' : Heap} {t' : Nat} (I : Inv X pins σ H s) (k : ∀ b u, s.heap.get? b = some u → h'.get? b = some u) (low : ∀ b, b < s.heap.objs.size → H' b = H b)
    (new : ∀ b u, s.heap.objs.size ≤ b → H' b = some u → ObjOk X.prog X.w H' h' b u) : Inv X pins σ H' { s with heap := h', toks := t' } := by
  have old : ∀ b o, H b = some o → H' b = some o := fun b o e => by
    by_cases q : b < s.heap.objs.size
    · rw [low b q]; exact e
    · rw [I.hok.fresh (Nat.le_of_not_lt q)] at e; cases e
  refine I.un ⟨fun b u q _ _ _ => k b u q, fun b u q _ _ _ => ⟨u.slots, k b u q⟩, fun b u q n _ => ?_, fun b u q _ => ⟨u, k b u q⟩, fun b xs q => old _ _ q, fun b u xs q => old _ _ q, fun b ps q => ⟨#[], by rw [old _ _ q]; simp⟩⟩ fun b u e => ?_
  · rw [low b (Heap.lt_size q)]; exact n
  · by_cases q : b < s.heap.objs.size
    · rw [low b q] at e
      exact (I.hok b u e).stay (fun c v _ z => k c v z) (fun c z => old _ _ z) fun c xs z => old _ _ z
    · exact new b u (Nat.le_of_not_lt q) e
end My

namespace My
open PySem PySem.Spec PyProof.Rows L2
/-! ### list(zip(a, b)), a and b tuples -/
/-- the pairs, laid one behind the other -/
def layP (H : Hp) : List Addr → List V → List V → Hp
  | a :: as, x :: xs, y :: ys => layP (upd H a (.tup [x, y])) as xs ys
  | _, _, _ => H
theorem layP_ne : ∀ {as : List Addr} {xs ys : List V} {H : Hp} {b : Addr}, b ∉ as → layP H as xs ys b = H b
  | [], _, _, _, _, _ => by unfold layP; rfl
  | a :: as, [], _, _, _, _ => by unfold layP; rfl
  | a :: as, x :: xs, [], _, _, _ => by unfold layP; rfl
  | a :: as, x :: xs, y :: ys, H, b, n => by
    unfold layP
    rw [layP_ne (fun m => n (List.mem_cons_of_mem _ m)), upd_ne (fun z => n (by rw [z]; exact List.mem_cons_self))]
theorem layP_at : ∀ {as : List Addr} {xs ys : List V} {H : Hp} {j : Nat} {a : Addr} {x y : V}, as.Nodup → as[j]? = some a → xs[j]? = some x → ys[j]? = some y → layP H as xs ys a = some (.tup [x, y])
  | [], _, _, _, _, _, _, _, _, e, _, _ => by simp at e
  | b :: as, [], _, _, j, _, _, _, _, _, e, _ => by simp at e
  | b :: as, x :: xs, [], _, j, _, _, _, _, _, _, e => by simp at e
  | b :: as, x :: xs, y :: ys, H, 0, a, x', y', nd, e1, e2, e3 => by
    simp at e1 e2 e3
    subst e1 e2 e3
    unfold layP
    rw [layP_ne (List.nodup_cons.mp nd).1, upd_same]
  | b :: as, x :: xs, y :: ys, H, j + 1, a, x', y', nd, e1, e2, e3 => by
    unfold layP
    exact layP_at (List.nodup_cons.mp nd).2 (by simpa using e1) (by simpa using e2) (by simpa using e3)
theorem layP_of : ∀ {as : List Addr} {xs ys : List V} {H : Hp} {b : Addr} {u : HO}, as.Nodup → layP H as xs ys b = some u → H b = some u ∨ ∃ (j : Nat) (x y : V), as[j]? = some b ∧ xs[j]? = some x ∧ ys[j]? = some y ∧ u = .tup [x, y]
  | [], _, _, _, _, _, _, e => .inl (by unfold layP at e; exact e)
  | a :: as, [], _, _, _, _, _, e => .inl (by unfold layP at e; exact e)
  | a :: as, x :: xs, [], _, _, _, _, e => .inl (by unfold layP at e; exact e)
  | a :: as, x :: xs, y :: ys, H, b, u, nd, e => by
    unfold layP at e
    rcases layP_of (List.nodup_cons.mp nd).2 e with h | ⟨j, x', y', h1, h2, h3, h4⟩
    · by_cases z : b = a
      · subst z
        rw [upd_same] at h
        cases h
        exact .inr ⟨0, x, y, rfl, rfl, rfl, rfl⟩
      · rw [upd_ne z] at h
        exact .inl h
    · exact .inr ⟨j + 1, x', y', by simpa using h1, by simpa using h2, by simpa using h3, h4⟩
theorem Reps.of_idx {W : Wd} {ι : Lay} {H : Hp} : ∀ {ds : List D} {vs : List V}, ds.length = vs.length → (∀ (j : Nat) (d : D) (v : V), ds[j]? = some d → vs[j]? = some v → Rep W ι H d v) → Reps W ι H ds vs
  | [], [], _, _ => Reps.nil
  | [], _ :: _, h, _ => by simp at h
  | _ :: _, [], h, _ => by simp at h
  | d :: ds, v :: vs, h, k => Reps.cons (k 0 d v rfl rfl) (Reps.of_idx (by simpa using h) fun j d' v' e1 e2 => k (j + 1) d' v' (by simpa using e1) (by simpa using e2))
theorem vals_refs : ∀ as : List Addr, Vals (as.map V.ref) (as.map Value.ref)
  | [] => .nil
  | _ :: as => .cons rfl (vals_refs as)
section
variable {X : Cx} {W : Wd} {e e2 : Expr} {p p2 pos pos2 : Pos} {ma mb : EM}
theorem j_lz (hK : X.K = W.K) (hgl : Gl X "list") (hml : X.mg "list" = none) (hg : Gl X "zip") (hm : X.mg "zip" = none) (ha : PE X e (T W ma)) (hb : PE X e2 (T W mb)) (hc : X.calm = true := by rfl)
    (hs : starEach [e, e2] X.env = (false, eval e X.env) :: starEach [e2] X.env := by rfl) (hs2 : starEach [e2] X.env = [(false, eval e2 X.env)] := by rfl) (hpl : (backTo pos2 (starEach [e2] X.env)).any (·.1) = false := by rfl)
    (ho : starEach [.Call (.Name "zip" p2) [e, e2] [] pos2] X.env = (false, eval (.Call (.Name "zip" p2) [e, e2] [] pos2) X.env) :: starEach [] X.env := by rfl) :
    PE X (.Call (.Name "list" p) [.Call (.Name "zip" p2) [e, e2] [] pos2] [] pos) (T W (eLz ma mb)) := by
  refine ⟨fun pins s σ H Q I ⟨ι, st, env, d, st', r, n, q, k⟩ => ?_⟩
  unfold eLz at q
  split at q
  · rename_i dx s1 e1
    split at q
    · rename_i dy s2 e2'
      split at q
      · rename_i xs ys hx hy
        split at q
        · rename_i hz
          cases q
          refine Call_ (ld_blt I hgl hml PyProof.Rows.boot_list (PyProof.Rows.callWith_type1 ?_ ho rfl))
          rw [ho]
          show wpAny _ _ (spliced ((false, eval (.Call (.Name "zip" p2) [e, e2] [] pos2) X.env) :: backTo pos (starEach [] X.env))) _ _ s
          refine Calls.spliced_cons ?_
          refine Call_ (ld_blt I hg hm PyProof.Rows.boot_zip (PyProof.Rows.callWith_type1 (thn ((ja_cons ha (ja_cons hb ja_nil hs2) hs).run pos2 pins s σ H _ I (TA.of r n (d := [dx, dy]) (st' := st') (by unfold aCons; rw [e1]; dsimp only; rw [e2']; rfl) fun vs ι1 H1 g1 r1 p1 => ⟨ι1, rfl, g1, r1, p1⟩ : TAs W _ σ H fun vs H1 => ∃ ι1, True = True ∧ Grow ι H ι1 H1 ∧ RelH W ι1 H1 st' ∧ Reps W ι1 H1 [dx, dy] vs)) fun us sA ⟨vs, H1, I1, rr, ι1, _, g1, r1, p1⟩ => ?_) hs hpl))
          obtain ⟨v, u, rfl, hv, hu⟩ := reps2 p1
          cases dx <;> simp only [seqT] at hx <;> try cases hx
          cases dy <;> simp only [seqT] at hy <;> try cases hy
          simp only [Rep] at hv hu
          obtain ⟨a, rfl, va, ea, ra⟩ := hv
          obtain ⟨b, rfl, vb, eb, rb⟩ := hu
          obtain ⟨its, rv, pa, _⟩ := I1.tuple (.inl (.inl ea))
          obtain ⟨its2, rv2, pb, _⟩ := I1.tuple (.inl (.inl eb))
          have la := ra.length
          have lb := rb.length
          have lv := rv.length
          have lv2 := rv2.length
          have lz : (zipped xs ys).length = min xs.length ys.length := by unfold zipped; rw [List.length_zipWith]
          obtain ⟨o1, ho1, w1⟩ := id pa
          obtain ⟨o2, ho2, w2⟩ := id pb
          have us2 : us = [Value.ref a, Value.ref b] := by
            cases rr with
            | cons r' rr =>
              cases rr with
              | cons r'' rr =>
                cases rr
                cases r'
                cases r''
                rfl
          subst us2
          refine RZ.call_zipT (show sA.heap.IsTuple a its.toArray from pa) (show sA.heap.IsTuple b its2.toArray from pb) fun h' hz' hTI hTO h1 h2 hsz hk => ?_
          refine Calls.spliced_nil ?_
          refine tz_list (s := { sA with heap := h' }) (n := min its.toArray.size its2.toArray.size) (I1.ok.hd hc) (PySem.W.ktu_apart sA.heap.objs.size a b (Heap.lt_size ho1) (Heap.lt_size ho2)) rfl (by simp only [List.size_toArray]; omega) hz' hTI hTO h1 h2 ⟨_, hk _ _ ho1, w1⟩ ⟨_, hk _ _ ho2, w2⟩ fun h'' as c q1 q2 q3 q4 q5 q6 => ?_
          have lA : as.length = min xs.length ys.length := by rw [q1]; simp only [List.size_toArray]; omega
          obtain ⟨L, hL⟩ : ∃ L, L = sA.heap.objs.size + 5 := ⟨_, rfl⟩
          have hLs : h'.objs.size = L := hsz.trans hL.symm
          have q3 : ∀ a ∈ as, L < a := fun a m => by
            have z := q3 a m
            rw [← hLs]
            exact z
          have q5 : h''.get? L = some { cls := .type "list", dict := none, data := .seq (as.map Value.ref).toArray c, slots := #[] } := by
            rw [← hLs]
            exact q5
          show EP X pins σ Q (.ref h'.objs.size) _
          rw [hLs]
          have hle : sA.heap.objs.size ≤ L := by rw [hL]; exact Nat.le_add_right _ _
          have old : ∀ {b' : Addr}, b' < sA.heap.objs.size → b' ∉ as ∧ b' ≠ L := fun {b'} hb' => ⟨fun m => Nat.lt_irrefl _ (Nat.lt_trans (q3 _ m) (Nat.lt_of_lt_of_le hb' hle)), Nat.ne_of_lt (Nat.lt_of_lt_of_le hb' hle)⟩
          have nL : L ∉ as := fun m => Nat.lt_irrefl _ (q3 _ m)
          have low : ∀ b', b' < sA.heap.objs.size → upd (layP H1 as va vb) L (.lst (as.map V.ref)) b' = H1 b' := fun b' hb' => by
            rw [upd_ne (old hb').2, layP_ne (old hb').1]
          have sm : Same H1 (upd (layP H1 as va vb) L (.lst (as.map V.ref))) := fun b' o eo => by
            by_cases hb' : b' < sA.heap.objs.size
            · rw [low b' hb']; exact eo
            · rw [I1.hok.fresh (Nat.le_of_not_lt hb')] at eo; cases eo
          have lz' : as.length ≤ sizeLine := by omega
          have IN : Inv X pins σ (upd (layP H1 as va vb) L (.lst (as.map V.ref))) { sA with heap := h'', toks := sA.toks } := by
            refine inv_many I1 (fun b' u hu' => ?_) low (fun b' u hb' eu => ?_)
            · have hlu := Heap.lt_size hu'
              exact q6 b' u (Nat.ne_of_lt (Nat.lt_of_lt_of_le hlu (Nat.le_add_right _ _))) (Nat.ne_of_lt hlu) (Nat.ne_of_lt (Nat.lt_of_lt_of_le hlu (Nat.le_add_right _ _))) (Nat.ne_of_lt (Nat.lt_of_lt_of_le hlu (Nat.le_add_right _ _))) (hk b' u hu')
            · by_cases z : b' = L
              · subst z
                rw [upd_same] at eu
                cases eu
                exact ⟨by simpa using lz', as.map Value.ref, c, vals_refs as, q5⟩
              · rw [upd_ne z] at eu
                rcases layP_of q4 eu with h3 | ⟨j, x, y, f1, f2, f3, rfl⟩
                · rw [I1.hok.fresh hb'] at h3; cases h3
                · obtain ⟨x', y', f4, f5, f6⟩ := q2 j b' f1
                  obtain ⟨x2, f7, f8⟩ := rv.get f2
                  obtain ⟨y2, f9, f10⟩ := rv2.get f3
                  simp only [List.getElem?_toArray] at f4 f5
                  have z1 : x' = x2 := Option.some.inj (f4.symm.trans f7)
                  have z2 : y' = y2 := Option.some.inj (f5.symm.trans f9)
                  subst z1 z2
                  exact ⟨by show 2 ≤ sizeLine; decide, [x', y'], .cons f8 (.cons f10 .nil), ⟨_, f6, rfl, _, rfl⟩⟩
          refine ⟨.ref L, _, IN, rfl, k _ ι1 _ (g1.trans (Grow.same sm)) (r1.same sm) ?_⟩
          · simp only [Rep]
            refine ⟨L, rfl, r1.free (I1.hok.fresh hle), as.map V.ref, upd_same, Reps.of_idx (by rw [lz, List.length_map, lA]) fun j d v f1 f2 => ?_⟩
            have hj : j < min xs.length ys.length := by
              have := (List.getElem?_eq_some_iff.mp f1).1
              omega
            have hjx : j < xs.length := by omega
            have hjy : j < ys.length := by omega
            obtain ⟨x, g2, g3⟩ := ra.get (List.getElem?_eq_getElem hjx)
            obtain ⟨y, g4, g5⟩ := rb.get (List.getElem?_eq_getElem hjy)
            have hja : j < as.length := by omega
            rw [List.getElem?_map, List.getElem?_eq_getElem hja] at f2
            cases f2
            have f1' : d = .tup [xs[j], ys[j]] := by
              unfold zipped at f1
              rw [List.getElem?_zipWith, List.getElem?_eq_getElem hjx, List.getElem?_eq_getElem hjy] at f1
              cases f1
              rfl
            subst f1'
            simp only [Rep]
            refine ⟨as[j], rfl, [x, y], ?_, Reps.cons (Rep.grow (Grow.same sm) _ _ g3) (Reps.cons (Rep.grow (Grow.same sm) _ _ g5) Reps.nil)⟩
            rw [upd_ne (fun z => nL (by rw [← z]; exact List.getElem_mem hja))]
            exact layP_at q4 (List.getElem?_eq_getElem hja) g2 g4
        · cases q
      · cases q
    · cases q
  · cases q
end
end My

namespace My
open PySem PySem.Spec PyProof.Rows L2
/-! ### dict comprehensions whose keys are tuples (after HandS.DictComp, which has ints and texts) -/
abbrev St := L2.St
/-- a turn of such a comprehension writes -/
theorem d_dictSetT {X : Cx} {pins : List (Addr × Obj)} {σ : L2.St} {H : Hp} {s : Shared} {E : Value → Shared → Prop} {Dd kb : Addr} {kvs : List (List Key × V)} {ky : List Key} {v : V} {u r : Value} {Q : Unit → Shared → Prop} (hu : X.A.units < cLine) (Jv : Inv X pins σ H s) (eD : H Dd = some (.dT kvs)) (lz : kvs.length < sizeLine)
    (eb : H kb = some (.tup (ky.map kV))) (ry : RelV (.ref kb) u) (rv : RelV v r) (fin : ∀ s', Inv X pins σ (upd H Dd (.dT (putK kvs ky v))) s' → Q () s') : wpAny (model X.prog X.w) X.A (dictSet Dd u r) Q E s := by
  cases (show u = Value.ref kb from ry)
  obtain ⟨z, hd, xs, rel, dd⟩ := dt_of Jv.hok eD
  have lx : xs.length ≤ sizeLine := by rw [← Paired.length rel]; exact z
  have lp : (putK kvs ky v).length ≤ sizeLine := by have := length_putK kvs ky v; omega
  refine wpAny_dictSet_heap (hsz := lx) (show (tupleKind (mixKind X.prog X.w)).room X.A from hu) (key_of Jv.hok eb) dd fun g' dg sb => fin _ ?_
  obtain ⟨q, es, ep, hq, h2, h3, h4, _, h5⟩ := dg
  refine d_write Jv (by rw [eD]; exact True.intro) sb ⟨q, hq⟩ ⟨lp, hd, _, (rel.put ky eb rv).keeps fun c ys ec => ?_, q, es, ep, hq, h2, h3, h4, h5⟩
  rw [upd_ne (ne_of ec eD (fun z => nomatch z))]
  exact ec
section
variable {X : Cx}
/-- {ky: v for target in itx if ..}, keys tuples: Dd the new dict -/
def tDcT (wit : TI) (g : TG) (tt : TT) (tk tv : TE) (vs : List Nat) : TE := fun σ H Q => wit σ H fun J H1 => ∀ Dd, H1 Dd = none → ∃ Wf : Nat → Nat → Hp → Prop, (∃ m, Wf 0 m (upd H1 Dd (.dT []))) ∧ ∀ i m H, Wf i m H →
  (J.stop i H ∧ Q (.ref Dd) H) ∨ (J.go i H ∧ ∃ Nn : Hp → Prop, (∀ H', Nn H' → ∃ m', m' < m ∧ Wf (i + 1) m' H') ∧ ∀ x H', J.yld i H x H' → g x (wipe σ vs) H' fun σ2 G2 => wipe σ2 vs = wipe σ vs ∧ tt σ2 G2 fun b G3 =>
    if b = true then tk σ2 G3 fun y H4 => tv σ2 H4 fun z G5 => ∃ kvs ky, (∃ kb, y = .ref kb ∧ G5 kb = some (.tup (ky.map kV))) ∧ G5 Dd = some (.dT kvs) ∧ kvs.length < sizeLine ∧ Nn (upd G5 Dd (.dT (putK kvs ky z))) else Nn G3)
theorem dcT_core {pins : List (Addr × Obj)} {s : Shared} {σ : St} {H : Hp} {Q : VK} {kex vax trg itx : Expr} {tests : List Expr} {sco : Scope} {ow : List (Str × Nat)} {po pos' : Pos} {wit : TI} {g : TG} {tt : TT} {tk tv : TE} {use : Option (Value → Sem Unit)} {Qf : Value → Shared → Prop}
    (hu : X.A.units + 1 < cLine) (clm : X.calm = true) (hnd : X.N.Nodup) (Jv : Inv X pins σ H s) (hit : PI X trg itx wit) (okb : BlkOk X.N X.env.scope sco ow)
    (hg : ∀ (s : Shared) (H : Hp) (C : Addr) (cl : List (Str × Addr)) (ff : List Addr), PG (X.blk s H sco (compEnvC sco cl C X.env) ff) trg g) (ht : ∀ (s : Shared) (H : Hp) (C : Addr) (cl : List (Str × Addr)) (ff : List Addr), PTs (X.blk s H sco (compEnvC sco cl C X.env) ff) tests tt)
    (hk : ∀ (s : Shared) (H : Hp) (C : Addr) (cl : List (Str × Addr)) (ff : List Addr), PE (X.blk s H sco (compEnvC sco cl C X.env) ff) kex tk)
    (he : ∀ (s : Shared) (H : Hp) (C : Addr) (cl : List (Str × Addr)) (ff : List Addr), PE (X.blk s H sco (compEnvC sco cl C X.env) ff) vax tv) (fld : ∀ x, foldedSetIterable itx X.env x = pure x)
    (hyp : tDcT wit g tt tk tv (ow.map (·.2)) σ H Q)
    (hfin : ∀ Dd C s' m H', Inv X pins σ H' s' → Q (.ref Dd) H' → s'.heap.Ns C m → FpOk X pins H' C → compPost (model X.prog X.w) X.A X.xe use Qf (.ref Dd) C (.ok .next) s') :
    wpAny (model X.prog X.w) X.A (comprehension (.DictComp kex vax [⟨trg, itx, tests, 0⟩] sco po) sco X.env pos' newDict false (eval itx X.env) use) Qf X.xe s := by
  have frees : ∀ y ∈ sco.names, y.2 = .free → ∃ c, X.env.cells.lookup y.1 = some c := fun y hy e => by
    rcases okb.free y hy e with ky | ky
    · exact Jv.ok.has _ (.inl ky)
    · exact Jv.ok.has _ (.inr ky)
  refine wpAny_comprehension_free (use := use) rfl fld (closure_ok frees) okb.kind (fun y hy e => by rw [okb.uniq y hy, e])
    (thn (hit.run pins s σ H _ Jv hyp) fun xv c1 hx => thn hx fun itv c2 h2 => ?_)
  obtain ⟨itr, ff, tq, J, G2, e, J2v, Tn, tn2, f2a, q⟩ := h2
  subst e
  refine wpAny_newObj_type (newEnv_comp (?_))
  generalize eDd : c2.heap.objs.size = Dd
  have fresh0 : G2 Dd = none := J2v.hok.fresh (Nat.le_of_eq eDd)
  obtain ⟨Wf, ⟨m0a, w0a⟩, tur⟩ := q Dd fresh0
  -- the new list
  generalize es3 : ({ c2 with heap := c2.heap.push { cls := .type "dict", data := .dict #[] } } : Shared) = c3
  have J3v : Inv X pins σ (upd G2 Dd (.dT [])) c3 := by
    rw [← es3]
    refine J2v.laid (t' := c2.toks) (fun b o e => Heap.get?_push_of_some _ e) (Nat.le_of_eq eDd) ?_
    rw [← eDd]
    exact dt_empty c2.heap J2v.big
  have h3a : c3.heap = c2.heap.push { cls := .type "dict", data := .dict #[] } := by rw [← es3]
  have szd : ∀ b ∈ ff, b < c2.heap.objs.size := fun b hb => by
    obtain ⟨o, e, _⟩ := Tn.obj _ _ tn2 b hb
    exact Heap.lt_size e
  have f3a : ∀ b ∈ ff, FpOk X pins (upd G2 Dd (.dT [])) b ∧ b < c3.heap.objs.size := fun b hb => by
    have hlt := szd b hb
    refine ⟨⟨?_, (f2a b hb).2⟩, by rw [h3a, Heap.size_push]; exact Nat.lt_succ_of_lt hlt⟩
    rw [upd_ne (by rw [← eDd]; exact Nat.ne_of_lt hlt)]
    exact (f2a b hb).1
  have tn3 : tq 0 c3.heap := Tn.keep _ _ _ tn2 fun b _ o e => by rw [h3a]; exact Heap.get?_push_of_some _ e
  have J4v := block_start J3v okb hnd f3a
  have rg := hg c3 (upd G2 Dd (.dT [])) c3.heap.objs.size (cellsFrom (c3.heap.objs.size + 1) sco.names (cloFrom X.env.cells sco.names [])) ff
  have rt := ht c3 (upd G2 Dd (.dT [])) c3.heap.objs.size (cellsFrom (c3.heap.objs.size + 1) sco.names (cloFrom X.env.cells sco.names [])) ff
  have rk := hk c3 (upd G2 Dd (.dT [])) c3.heap.objs.size (cellsFrom (c3.heap.objs.size + 1) sco.names (cloFrom X.env.cells sco.names [])) ff
  have re := he c3 (upd G2 Dd (.dT [])) c3.heap.objs.size (cellsFrom (c3.heap.objs.size + 1) sco.names (cloFrom X.env.cells sco.names [])) ff
  show codeAny _ _ (.compStart (.DictComp kex vax [⟨trg, itx, tests, 0⟩] sco po) 0 (.ref itr) (.ref Dd) (compEnvC sco (cellsFrom (c3.heap.objs.size + 1) sco.names (cloFrom X.env.cells sco.names [])) c3.heap.objs.size X.env)) (compPost (model X.prog X.w) X.A X.xe use Qf (.ref Dd) c3.heap.objs.size) { c3 with heap := pushCells (c3.heap.push { cls := .type "dict", data := .dict #[] }) sco.names }
  have nff : ∀ b ∈ ff, (upd G2 Dd (.dT [])) b = none := fun b hb => (f3a b hb).1.1
  generalize ecv : compEnvC sco (cellsFrom (c3.heap.objs.size + 1) sco.names (cloFrom X.env.cells sco.names [])) c3.heap.objs.size X.env = cv at J4v rg rt rk re ⊢
  have cLo : cv.locals = c3.heap.objs.size := by subst ecv; rfl
  generalize eG3 : upd G2 Dd (.dT []) = G3 at J3v J4v rg rt rk re w0a nff f3a
  generalize es4 : ({ c3 with heap := pushCells (c3.heap.push { cls := .type "dict", data := .dict #[] }) sco.names } : Shared) = c4 at J4v ⊢
  have tn4 : tq 0 c4.heap := Tn.keep _ _ _ tn3 fun b _ o e => by rw [← es4]; exact pushCells_keeps _ _ _ _ (Heap.get?_push_of_some _ e)
  have stays : ∀ {σ' : St} {H' : Hp} {s' : Shared}, Inv (X.blk c3 G3 sco cv ff) [] σ' H' s' → (∀ b ∈ ff, H' b = none) → ∀ b ∈ ff, FpOk (X.blk c3 G3 sco cv ff) [] H' b := fun {σ' H' s'} Jw hn b hb =>
    ⟨hn b hb, (Jw.ok.exf b hb).1, Jw.ok.exfs b hb, .inl hb, fun x c e => (Jw.ok.exf b hb).2 x c e, fun p hp => absurd (show p ∈ ([] : List (Addr × Obj)) ++ [] from hp) (by simp)⟩
  have lp : codeAny (model X.prog X.w) X.A (.compLoop (.DictComp kex vax [⟨trg, itx, tests, 0⟩] sco po) 0 (.ref itr) (.ref Dd) cv) (compPost (model X.prog X.w) X.A X.xe use Qf (.ref Dd) c3.heap.objs.size) c4 := by
    refine compLoop_anyD (fun n s' => ∃ i H', Inv (X.blk c3 G3 sco cv ff) [] (wipe σ (ow.map (·.2))) H' s' ∧ tq i s'.heap ∧ (∀ b ∈ ff, H' b = none) ∧ Wf i n H') ?_ m0a ⟨0, G3, J4v, tn4, nff, w0a⟩
    rintro n c5 ⟨i, G5, J5v, tn5, n5a, w5a⟩
    rcases tur i n G5 w5a with ⟨stop, qq⟩ | ⟨goes, Nn, hNn, step⟩
    · have tdn := Tn.done (X.blk c3 G3 sco cv ff) rfl rfl rfl clm i [] c5 _ G5 (fun _ _ => False) J5v (stays J5v n5a) tn5 stop
      refine thnF tdn fun r c6 ⟨hr, J6v⟩ => ?_
      subst hr
      -- back in the def's context
      have J7v : Inv X pins σ G5 c6 := J3v.call' (ch := ff) J6v.os J6v.base J6v.hok J6v.bare fun b hb => ⟨(f3a b hb).1.2.2.2.1, (f3a b hb).1.2.1, (f3a b hb).1.2.2.2.2.1, (f3a b hb).1.2.2.2.2.2⟩
      have noC : G5 c3.heap.objs.size = none := by
        have z : G5 cv.locals = none := J6v.free
        rw [cLo] at z
        exact z
      obtain ⟨m, hn, _⟩ := J6v.loc
      have hn : c6.heap.Ns cv.locals m := hn
      rw [cLo] at hn
      exact hfin Dd c3.heap.objs.size c6 m G5 J7v qq hn (J3v.fpOk (Nat.le_refl _) noC)
    · have tit := Tn.item (X.blk c3 G3 sco cv ff) rfl rfl rfl clm i [] c5 _ G5 (fun _ _ => False) J5v (stays J5v n5a) tn5 goes
      refine thnF tit fun r c6 ⟨u, hr, h6a⟩ => ?_
      subst hr
      refine thnF h6a fun _ c7 ⟨x, G7, J7v, r7a, y7a, tn7, n7a⟩ => ?_
      have J7w := J7v.pinned (stays J7v n7a) (Tn.obj _ _ tn7)
      refine thnF (rg.run _ c7 _ G7 x u _ J7w r7a (step x G7 y7a)) fun _ c8 ⟨σ8, G8, J8v, ew8, q8a⟩ => ?_
      refine thnF (rt.run _ c8 σ8 G8 _ J8v q8a) fun b c9 ⟨G9, J9v, q9a⟩ => ?_
      -- the turn's end
      have endT : ∀ {s' : Shared} {H' : Hp}, Inv (X.blk c3 G3 sco cv ff) ([] ++ pinsAt ff c7.heap) σ8 H' s' → Nn H' → ∃ m, m < n ∧ ∃ i H', Inv (X.blk c3 G3 sco cv ff) [] (wipe σ (ow.map (·.2))) H' s' ∧ tq i s'.heap ∧ (∀ b ∈ ff, H' b = none) ∧ Wf i m H' := fun {s' H'} Jw nx => by
        obtain ⟨m', hlt, w'⟩ := hNn H' nx
        have pn2 : ∀ b ∈ ff, ∀ o, c7.heap.get? b = some o → s'.heap.get? b = some o ∧ H' b = none := fun b hb o e =>
          let z := Jw.pin (b, o) (List.mem_append_right _ (List.mem_append_right _ (mem_pinsAt hb e)))
          ⟨z.1, z.2.1⟩
        have hlen : (wipe σ (ow.map (·.2))).length = σ8.length := by rw [← ew8, wipe_length]
        refine ⟨m', hlt, i + 1, H', (Jw.unpinned (pins := [])).weak hlen (fun j v e => ?_), Tn.keep _ _ _ tn7 fun b hb o e => (pn2 b hb o e).1, fun b hb => ?_, w'⟩
        · rw [← ew8] at e
          exact (wipe_some e).1
        · obtain ⟨o, e, _⟩ := Tn.obj _ _ tn7 b hb
          exact (pn2 b hb o e).2
      cases b with
      | false =>
        simp only [Bool.false_eq_true, if_false] at q9a ⊢
        exact endT J9v q9a
      | true =>
        simp only [if_true] at q9a ⊢
        refine thnF (rk.run _ c9 σ8 G9 _ J9v q9a) fun z c10 ⟨yk, G10, J10v, r10a, q10a⟩ => ?_
        refine thnF (re.run _ c10 σ8 G10 _ J10v q10a) fun z2 c11 ⟨yv, G11, J11v, r11a, kvs, ky, ⟨kb, eky, ekb⟩, eD11, lz11, nx⟩ => ?_
        subst eky
        exact d_dictSetT (X := X.blk c3 G3 sco cv ff) (Nat.lt_of_succ_lt hu) J11v eD11 lz11 ekb r10a r11a fun c12 J12v => endT J12v nx
  exact codeAny_compStart_dict lp (Tn.self X.A 0 _ _ _ tn4 lp)
/-- as a value -/
theorem pe_dcT {kex vax trg itx : Expr} {tests : List Expr} {sco : Scope} {ow : List (Str × Nat)} {po : Pos} {wit : TI} {g : TG} {tt : TT} {tk tv : TE} (hu : X.A.units + 1 < cLine) (clm : X.calm = true) (hnd : X.N.Nodup) (hit : PI X trg itx wit) (okb : BlkOk X.N X.env.scope sco ow)
    (hg : ∀ (s : Shared) (H : Hp) (C : Addr) (cl : List (Str × Addr)) (ff : List Addr), PG (X.blk s H sco (compEnvC sco cl C X.env) ff) trg g) (ht : ∀ (s : Shared) (H : Hp) (C : Addr) (cl : List (Str × Addr)) (ff : List Addr), PTs (X.blk s H sco (compEnvC sco cl C X.env) ff) tests tt)
    (hk : ∀ (s : Shared) (H : Hp) (C : Addr) (cl : List (Str × Addr)) (ff : List Addr), PE (X.blk s H sco (compEnvC sco cl C X.env) ff) kex tk)
    (he : ∀ (s : Shared) (H : Hp) (C : Addr) (cl : List (Str × Addr)) (ff : List Addr), PE (X.blk s H sco (compEnvC sco cl C X.env) ff) vax tv) (fld : ∀ x, foldedSetIterable itx X.env x = pure x := by intro _; rfl) :
    PE X (.DictComp kex vax [⟨trg, itx, tests, 0⟩] sco po) (tDcT wit g tt tk tv (ow.map (·.2))) := by
  refine ⟨fun pins s σ H Q Jv hyp => ?_⟩
  rw [arm_eval_DictComp]
  refine dcT_core hu clm hnd Jv hit okb hg ht hk he fld hyp fun Dd C s' m H' Jw q hn f => ⟨m, hn, fun h'' sb => ?_⟩
  obtain ⟨f0, f1, f2a, f3a, f4, f5⟩ := f
  exact ⟨.ref Dd, H', Jw.turned (t' := s'.toks) (fun b o hb e => (sb.2 b hb).trans e) f0 f1 f3a f4 f5, rfl, q⟩
end
section
variable {X : Cx} {W : Wd}
theorem dcT_of {im : IM} {g : GM} {tk tv : EM} {vs : List Nat} {σ : L2.St} {H : Hp} {Q : VK} (h : T W (eDcT im g tk tv vs) σ H Q) : tDcT (TIm W im) (TGm W g vs) (TB W bYes) (T W tk) (T W tv) vs σ H Q := by
  obtain ⟨ι, st, env, d, st', r, n, e, k⟩ := h
  unfold eDcT at e
  split at e
  · rename_i ds gd s1 e1
    split at e
    · rename_i ks' ws' s2 e2
      cases e
      refine ⟨ι, st, env, ds, gd, s1, r, n, e1, fun J ι1 H1 g1 r1 ok L hL => ?_⟩
      have n1 := n.grow g1
      refine ⟨fun i m H => i + m = ds.length ∧ ∃ ι2 s ks acc vacc, Grow ι1 H1 ι2 H ∧ Gro ι1 H1 (ι2.hide L) H ∧ RelH W (ι2.hide L) H s ∧ H L = some (.dT (ks.zip vacc)) ∧ ks.length = acc.length ∧ Reps W (ι2.hide L) H acc vacc ∧ dcGo gd g tk tv (wipeE env vs) (ds.drop i) ks acc s = some (ks', ws', st'),
        ⟨ds.length, by omega, ι1, s1, [], [], [], Grow.laid hL, Gro.hide hL, r1.hide hL, upd_same, rfl, Reps.nil, e2⟩, ?_⟩
      rintro i m H2 ⟨hm, ι2, s, ks, acc, vacc, g2, gg2, r2, hL2, hkl, hacc, hgo⟩
      by_cases hi : i < ds.length
      · right
        have hd : ds.drop i = ds[i] :: ds.drop (i + 1) := List.drop_eq_getElem_cons hi
        rw [hd] at hgo
        unfold dcGo at hgo
        split at hgo
        · rename_i hgd
          obtain ⟨j1, j2⟩ := ok.go i _ H2 s _ gg2 r2 hgd (List.getElem?_eq_getElem hi)
          refine ⟨j1, fun H' => ∃ ι2 s ks acc vacc, Grow ι1 H1 ι2 H' ∧ Gro ι1 H1 (ι2.hide L) H' ∧ RelH W (ι2.hide L) H' s ∧ H' L = some (.dT (ks.zip vacc)) ∧ ks.length = acc.length ∧ Reps W (ι2.hide L) H' acc vacc ∧ dcGo gd g tk tv (wipeE env vs) (ds.drop (i + 1)) ks acc s = some (ks', ws', st'), fun H' nx => ⟨m - 1, by omega, by omega, nx⟩, fun x H3 hy => ?_⟩
          obtain ⟨g3, r3, p3⟩ := j2 x H3 hy
          split at hgo
          · rename_i e3 q3
            have n3 : REnv W (ι2.hide L) H3 (wipeE env vs) (L2.wipe σ vs) := ((n1.wipe vs).gro gg2).grow g3
            refine ⟨_, s, _, _, e3, r3, n3, p3, q3, fun σ2 n4 w4 => ⟨w4.trans (lc_of.wipe_wipe σ vs), ?_⟩⟩
            have hLk : L ∈ (ι2.hide L).k := List.mem_cons_self
            have hLc : L ∉ (ι2.hide L).c := fun z => r2.dis L z hLk
            refine TB.of r3 n4 (m := bYes) (st' := s) (d := true) rfl fun ι4 H4 g4 r4 => ?_
            rw [if_pos rfl]
            split at hgo
            · rename_i y s5 q5
              split at hgo
              · rename_i z s6 q6
                split at hgo
                · rename_i kk q7
                  split at hgo
                  · rename_i hz
                    refine T.of r4 (n4.grow g4) q5 fun v ι5 H5 g5 r5 p5 => ?_
                    refine T.of r5 ((n4.grow g4).grow g5) q6 fun u ι6 H6 g6 r6 p6 => ?_
                    have hk6 : ι6.k = L :: ι2.k := g6.hid.trans (g5.hid.trans g4.hid)
                    have e6 : ι6 = (Lay.hide ⟨ι6.c, ι2.k⟩ L) := by
                      cases ι6
                      simp only [Lay.hide]
                      exact congrArg _ hk6
                    have gg : Grow (ι2.hide L) H2 ι6 H6 := ((g3.trans g4).trans g5).trans g6
                    have hL6 : H6 L = some (.dT (ks.zip vacc)) := gg.keep _ _ (.inl hLc) hL2
                    have hacc6 := Reps.grow gg _ _ hacc
                    obtain ⟨kb, us, rfl, hkb, hku⟩ : ∃ kb us, v = .ref kb ∧ H6 kb = some (.tup (kk.map kV)) ∧ True := by
                      unfold tkeyOf at q7
                      split at q7
                      · rename_i dsk
                        have p5' := Rep.grow g6 _ _ p5
                        simp only [Rep] at p5'
                        obtain ⟨kb, rfl, wsk, h6, h7⟩ := p5'
                        have e7 := keysOf_ok q7 h7
                        subst e7
                        exact ⟨kb, (), rfl, h6, trivial⟩
                      · cases q7
                    obtain ⟨us', f1, f2, f3⟩ := kPut_ok (k := kk) hacc6 hkl p6
                    rw [e6] at r6 gg f3
                    have lzz : (ks.zip vacc).length < sizeLine := by rw [List.length_zip, ← hacc.length, ← hkl]; omega
                    refine ⟨_, kk, ⟨kb, rfl, hkb⟩, hL6, lzz, ⟨ι6.c, ι2.k⟩, s6, _, _, us', ?_, ?_, r6.over List.mem_cons_self hL6 trivial, by rw [upd_same, f1], f2, Reps.gro (Gro.over List.mem_cons_self hL6 trivial) _ _ f3, hgo⟩
                    · refine ⟨fun i a h => gg.pre i a (g2.pre i a h), fun a o nn h => ?_, fun a m => ?_, g2.hid⟩
                      · have := ne_of_none h hL
                        exact kp_set this (gg.keep a o (nn.imp (fun nn z => by
                          rcases g2.new a z with q | q
                          · exact nn q
                          · rw [h] at q; cases q) id) (g2.keep a o nn h))
                      · rcases gg.new a m with q | q
                        · exact g2.new a q
                        · by_cases hc : a ∈ ι1.c
                          · exact .inl hc
                          · refine .inr ?_
                            cases e : H1 a with
                            | none => rfl
                            | some o => rw [g2.keep a o (.inl hc) e] at q; cases q
                    · refine ⟨fun i a h => gg.pre i a (gg2.pre i a h), fun a o nn h => ?_, fun a o nn h => ?_⟩
                      · have := ne_of_none h hL
                        exact kp_set this (gg.gro.keep a o (nn.imp (fun nn => gg2.notin a o nn h) id) (gg2.keep a o nn h))
                      · exact gg.gro.notin a o (gg2.notin a o nn h) (gg2.keep a o (.inl nn) h)
                  · cases hgo
                · cases hgo
              · cases hgo
            · cases hgo
          · cases hgo
        · cases hgo
      · left
        have hie : i = ds.length := by omega
        subst hie
        rw [List.drop_length] at hgo
        unfold dcGo at hgo
        split at hgo
        · rename_i hgd
          cases hgo
          refine ⟨ok.stop _ H2 _ gg2 r2 hgd, ?_⟩
          refine k _ ι2 H2 (g1.trans g2) r2.show ?_
          simp only [Rep]
          refine ⟨L, rfl, fun z => ?_, vacc, hL2, hkl, Reps.gro Gro.show _ _ hacc⟩
          rcases z with z | z
          · exact r2.dis L z List.mem_cons_self
          · rw [g2.hid] at z
            exact r1.free hL (.inr z)
        · cases hgo
    · cases e
  · cases e
theorem j_dcT {kex vax tg iter : Expr} {scope : Scope} {own : List (Str × Nat)} {pos : Pos} {im : IM} {g : GM} {tk tv : EM} (hu : X.A.units + 1 < cLine) (hc : X.calm = true) (hN : X.N.Nodup) (hi : PI X tg iter (TIm W im)) (ok : BlkOk X.N X.env.scope scope own)
    (hg : ∀ (s : Shared) (H : Hp) (C : Addr) (cl : List (Str × Addr)) (fp : List Addr), PG (X.blk s H scope (compEnvC scope cl C X.env) fp) tg (TGm W g (own.map (·.2))))
    (hk : ∀ (s : Shared) (H : Hp) (C : Addr) (cl : List (Str × Addr)) (fp : List Addr), PE (X.blk s H scope (compEnvC scope cl C X.env) fp) kex (T W tk))
    (he : ∀ (s : Shared) (H : Hp) (C : Addr) (cl : List (Str × Addr)) (fp : List Addr), PE (X.blk s H scope (compEnvC scope cl C X.env) fp) vax (T W tv)) (hs : ∀ x, foldedSetIterable iter X.env x = pure x := by intro _; rfl) :
    PE X (.DictComp kex vax [⟨tg, iter, [], 0⟩] scope pos) (T W (eDcT im g tk tv (own.map (·.2)))) := (pe_dcT hu hc hN hi ok hg (fun _ _ _ _ _ => jts_nil) hk he hs).imp fun _ _ _ => dcT_of
end
end My

namespace My
open PySem PySem.Spec PyProof.Rows L2
/-! ### dict(xs) of a list of pairs, d.update(d2) of dicts with tuples as keys -/
section
variable {κ : Type} [DecidableEq κ]
/-- entries put one behind the other -/
def mrgK : List κ → List D → List κ → List D → List κ
  | ks, vs, k :: r, v :: q => mrgK (kPutK ks k) (kPutV ks vs k v) r q
  | ks, _, _, _ => ks
def mrgV : List κ → List D → List κ → List D → List D
  | ks, vs, k :: r, v :: q => mrgV (kPutK ks k) (kPutV ks vs k v) r q
  | _, vs, _, _ => vs
def mrgZ (kvs more : List (κ × V)) : List (κ × V) := more.foldl (fun acc kv => putK acc kv.1 kv.2) kvs
theorem mrgZ_len : ∀ (more kvs : List (κ × V)), (mrgZ kvs more).length ≤ kvs.length + more.length
  | [], kvs => Nat.le_refl _
  | p :: r, kvs => by
    have h1 := mrgZ_len r (putK kvs p.1 p.2)
    have h2 := length_putK kvs p.1 p.2
    show (mrgZ (putK kvs p.1 p.2) r).length ≤ _
    rw [List.length_cons]
    omega
theorem mrg_ok {W : Wd} {ι : Lay} {H : Hp} : ∀ {ks2 : List κ} {ds2 : List D} {us2 : List V} {ks : List κ} {ds : List D} {us : List V}, Reps W ι H ds us → ks.length = ds.length → Reps W ι H ds2 us2 → ks2.length = ds2.length →
    ∃ us', mrgZ (ks.zip us) (ks2.zip us2) = (mrgK ks ds ks2 ds2).zip us' ∧ (mrgK ks ds ks2 ds2).length = (mrgV ks ds ks2 ds2).length ∧ Reps W ι H (mrgV ks ds ks2 ds2) us'
  | [], [], us2, ks, ds, us, h, hl, h2, hl2 => ⟨us, by rw [h2.nil_of]; rfl, by unfold mrgK mrgV; exact hl, by unfold mrgV; exact h⟩
  | [], _ :: _, _, _, _, _, _, _, _, hl2 => by simp at hl2
  | _ :: _, [], _, _, _, _, _, _, _, hl2 => by simp at hl2
  | k :: ks2, d :: ds2, us2, ks, ds, us, h, hl, h2, hl2 => by
    obtain ⟨u, r, rfl, hu, hr⟩ := h2.uncons
    obtain ⟨us1, f1, f2, f3⟩ := kPut_ok (k := k) h hl hu
    obtain ⟨us', g1, g2, g3⟩ := mrg_ok f3 f2 hr (by simpa using hl2)
    refine ⟨us', ?_, by unfold mrgK mrgV; exact g2, by unfold mrgV; exact g3⟩
    rw [List.zip_cons_cons]
    show mrgZ (putK (ks.zip us) k u) (ks2.zip r) = _
    rw [f1, g1]
    rfl
end
/-! hash values of pairs of whole numbers -/
def hK0 : Key → Int
  | .inl i => hashInt i
  | .inr _ => 0
def hKs (k : List Key) : Int := reduceHash (Builtin.Tuple.tupleHashOf (k.map hK0))
def intsK (k : List Key) : Bool := k.all fun x => x.isLeft
theorem hKs_eq {P : Program} {w : World} {k : List Key} (h : intsK k = true) : (tupleKind (mixKind P w)).hash k = hKs k := by
  show reduceHash (Builtin.Tuple.tupleHashOf (k.map (keyH w))) = _
  unfold hKs
  have : k.map (keyH w) = k.map hK0 := List.map_congr_left fun x hx => by
    have := List.all_eq_true.mp h x hx
    cases x with
    | inl i => rfl
    | inr y => cases this
  rw [this]
/-- dict(xs) of pairs whose keys are tuples -/
def pairsT : List D → Option (List (List Key) × List D)
  | [] => some ([], [])
  | .tup [k, v] :: r => match tkeyOf k, pairsT r with
    | some kk, some (ks, vs) => some (kk :: ks, v :: vs)
    | _, _ => none
  | _ => none
def pairsK : List D → Option (List Key × List D)
  | [] => some ([], [])
  | .tup [k, v] :: r => match keyOf k, pairsK r with
    | some kk, some (ks, vs) => some (kk :: ks, v :: vs)
    | _, _ => none
  | _ => none
def fDictP : FM := fun as st => match as with
  | [d] => match seqL st d with
    | some xs => match pairsK xs with
      | some (ks, vs) => some (.dk (mrgK [] [] ks vs) (mrgV [] [] ks vs), st)
      | none => none
    | none => none
  | _ => none
def fDictPT : FM := fun as st => match as with
  | [d] => match seqL st d with
    | some xs => match pairsT xs with
      | some (ks, vs) => some (.dt (mrgK [] [] ks vs) (mrgV [] [] ks vs), st)
      | none => none
    | none => none
  | _ => none
open Classical in
noncomputable def mUpdT : MM := fun o as st => match o, as with
  | .ref n, [.dt ks2 vs2] => match st[n]? with
    | some (.dt ks vs) => if ks.length + ks2.length ≤ sizeLine ∧ (∀ k ∈ ks2, intsK k = true) ∧ (ks2.map hKs).Nodup then some (.non, st.set n (.dt (mrgK ks vs ks2 vs2) (mrgV ks vs ks2 vs2))) else none
    | _ => none
  | _, _ => none
theorem KT.mrg {H : Hp} : ∀ {k2 : List (List Key × V)} {x2 : List (List Key × Addr × Value)} {kvs : List (List Key × V)} {xs : List (List Key × Addr × Value)}, KT H k2 x2 → KT H kvs xs → KT H (mrgZ kvs k2) (storedAllH xs x2)
  | [], _, kvs, xs, .nil, h => h
  | _ :: _, _, kvs, xs, .cons (a := p) (b := q) e t, h => by
    obtain ⟨e1, e2, e3⟩ := e
    show KT H (mrgZ (putK kvs p.1 p.2) _) (storedAllH (storedH xs q.1 q.2.1 q.2.2) _)
    rw [← e1]
    exact KT.mrg t (KT.put h p.1 e2 e3)
theorem kt_keys {H : Hp} : ∀ {l : List (List Key × V)} {m : List (List Key × Addr × Value)}, KT H l m → l.map Prod.fst = m.map (·.1)
  | [], _, .nil => rfl
  | _ :: _, _, .cons (a := p) (b := q) e t => by rw [List.map_cons, List.map_cons, kt_keys t, e.1]
theorem KT.all {P : Program} {w : World} {H : Hp} {h : Heap} (ok : HOk P w H h) : ∀ {l : List (List Key × V)} {m : List (List Key × Addr × Value)}, KT H l m → ∀ x ∈ m, (tupleKind (mixKind P w)).is h x.1 x.2.1 ∧ H x.2.1 = some (.tup (x.1.map kV))
  | [], _, .nil, x, hx => by simp at hx
  | _ :: _, _, .cons (a := p) (b := q) e t, x, hx => by
    obtain ⟨e1, e2, e3⟩ := e
    rcases List.mem_cons.mp hx with z | z
    · subst z
      rw [e1] at e2
      exact ⟨key_of ok e2, e2⟩
    · exact KT.all ok t x z
section
variable {X : Cx} {W : Wd}
/-- the pairs as they lie -/
theorem triples {ι : Lay} {H : Hp} : ∀ {ds : List D} {vs : List V} {ks : List (List Key)} {ws : List D}, Reps W ι H ds vs → pairsT ds = some (ks, ws) → ∃ (qs : List (Addr × List Key × Addr × V)), vs = qs.map (fun q => V.ref q.1) ∧ ks = qs.map (fun q => q.2.1) ∧ Reps W ι H ws (qs.map fun q => q.2.2.2) ∧
    ∀ q ∈ qs, H q.1 = some (.tup [.ref q.2.2.1, q.2.2.2]) ∧ H q.2.2.1 = some (.tup (q.2.1.map kV))
  | [], vs, ks, ws, h, e => by
    cases e
    exact ⟨[], by rw [h.nil_of]; rfl, rfl, Reps.nil, fun q hq => by simp at hq⟩
  | d :: ds, vs, ks, ws, h, e => by
    obtain ⟨v, r, rfl, hv, hr⟩ := h.uncons
    unfold pairsT at e
    split at e
    · rename_i z; cases z
    · rename_i k v2 r2 z
      cases z
      split at e
      · rename_i kk ks2 vs2 e1 e2
        cases e
        obtain ⟨qs, f1, f2, f3, f4⟩ := triples hr e2
        simp only [Rep] at hv
        obtain ⟨a, rfl, us, ha, hu⟩ := hv
        obtain ⟨u1, u2, rfl, hk, hw⟩ := reps2 hu
        unfold tkeyOf at e1
        split at e1
        · rename_i dk
          simp only [Rep] at hk
          obtain ⟨b, rfl, us2, hb, hu2⟩ := hk
          have e7 := keysOf_ok e1 hu2
          subst e7
          refine ⟨(a, kk, b, u2) :: qs, by rw [f1]; rfl, by rw [f2]; rfl, Reps.cons hw f3, fun q hq => ?_⟩
          rcases List.mem_cons.mp hq with z | z
          · subst z; exact ⟨ha, hb⟩
          · exact f4 q z
        · cases e1
      · cases e
    · cases e
theorem kt_of {H : Hp} {pins : List (Addr × Obj)} {σ : L2.St} {s : Shared} (I : Inv X pins σ H s) : ∀ {qs : List (Addr × List Key × Addr × V)}, (∀ q ∈ qs, H q.1 = some (.tup [.ref q.2.2.1, q.2.2.2]) ∧ H q.2.2.1 = some (.tup (q.2.1.map kV))) →
    ∃ xs : List (List Key × Addr × Value), KT H (qs.map fun q => (q.2.1, q.2.2.2)) xs ∧ xs.length = qs.length ∧ ∀ (j : Nat) (q : Addr × List Key × Addr × V), qs[j]? = some q → ∃ u, xs[j]? = some (q.2.1, q.2.2.1, u) ∧ s.heap.IsTuple q.1 #[.ref q.2.2.1, u]
  | [], _ => ⟨[], .nil, rfl, fun j q e => by simp at e⟩
  | q :: qs, h => by
    obtain ⟨xs, f1, f2, f3⟩ := kt_of I fun z hz => h z (List.mem_cons_of_mem _ hz)
    obtain ⟨h1, h2⟩ := h q List.mem_cons_self
    obtain ⟨its, rv, ht, _⟩ := I.tuple (.inl (.inl h1))
    obtain ⟨u, y, ei, ru, ry⟩ := vals2 rv
    subst ei
    cases (show u = Value.ref q.2.2.1 from ru)
    refine ⟨(q.2.1, q.2.2.1, y) :: xs, .cons ⟨rfl, h2, ry⟩ f1, by simp [f2], fun j z e => ?_⟩
    cases j with
    | zero =>
      simp at e
      subst e
      exact ⟨y, rfl, ht⟩
    | succ j =>
      obtain ⟨u', g1, g2⟩ := f3 j z (by simpa using e)
      exact ⟨u', by simpa using g1, g2⟩
theorem jc_dictPT (hc : X.calm = true) (hu : X.A.units + 2 < cLine) : CallR X (.type "dict") (MA W fDictPT) := by
  intro pins s σ H xs us Q I rx ⟨ι, st, ds, d, st', r, h, e, k⟩
  unfold fDictPT at e
  split at e
  · obtain ⟨v, rfl, hv⟩ := reps1 h
    split at e
    · rename_i ys q
      split at e
      · rename_i ks ws e2
        cases e
        obtain ⟨a, vs, rfl, ha, hvs⟩ := seqL_ok r hv q
        obtain ⟨qs, rfl, rfl, f3, f4⟩ := triples hvs e2
        obtain ⟨xs2, g1, g2, g3⟩ := kt_of I f4
        obtain ⟨z, its, n, rvs, hl⟩ := I.lstM ha
        obtain ⟨u, eu, ru⟩ := vals1 rx
        subst eu
        cases ru
        rw [List.length_map] at z
        have ei : its = (qs.map (·.1)).map Value.ref := by
          have rvs' : Vals ((qs.map (·.1)).map V.ref) its := by rw [List.map_map]; exact rvs
          exact refs_at rvs'
        have hlen : its.length = qs.length := by rw [ei]; simp
        have kin := KT.all I.hok g1
        let ps : List (Value × Value) := xs2.map fun x => (Value.ref x.2.1, x.2.2)
        let Ts : Nat → Addr := fun j => (qs.map (·.1)).getD j 0
        have hps : ps.length = qs.length := by simp [ps, g2]
        refine PySem.call_dict_pairsH (knd := tupleKind (mixKind X.prog X.w)) (ps := xs2) (PairArg.list a its.toArray Ts ps) (I.ok.hd hc) (show X.A.units + 2 < cLine from hu) ⟨⟨_, n, hl.2, rfl, rfl, rfl⟩, by simp only [List.size_toArray]; omega, fun j key vv e => ?_⟩ ⟨by rw [hps, g2], fun i key vv e => ?_⟩ (fun h' hk x hx => ?_) (by rw [hps]; exact z) fun h' tk hd' hk => ?_
        · have hj : j < qs.length := by rw [← hps]; exact (List.getElem?_eq_some_iff.mp e).1
          obtain ⟨u, f5, f6⟩ := g3 j _ (List.getElem?_eq_getElem hj)
          have e' : (ps[j]?) = some (Value.ref qs[j].2.2.1, u) := by
            show (xs2.map _)[j]? = _
            rw [List.getElem?_map, f5]; rfl
          rw [e'] at e
          cases e
          have hT : Ts j = qs[j].1 := by
            show (qs.map (·.1)).getD j 0 = _
            rw [List.getD_eq_getElem?_getD, List.getElem?_map, List.getElem?_eq_getElem hj]; rfl
          rw [hT]
          refine ⟨?_, .inl f6⟩
          rw [List.getElem?_toArray, ei, List.getElem?_map, List.getElem?_map, List.getElem?_eq_getElem hj]; rfl
        · have e' : (xs2.map fun x => (Value.ref x.2.1, x.2.2))[i]? = some (key, vv) := e
          rw [List.getElem?_map, Option.map_eq_some_iff] at e'
          obtain ⟨x, f5, f6⟩ := e'
          cases f6
          exact ⟨x.1, x.2.1, f5, rfl⟩
        · obtain ⟨o, items, m, w1, w2⟩ := (kin x hx).1
          exact ⟨o, items, m, hk _ _ (Nat.ne_of_lt (Heap.lt_size w1)) (by simp) w1, w2⟩
        · have hp : H s.heap.objs.size = none := I.hok.fresh (Nat.le_refl _)
          have km := KT.mrg g1 (.nil : KT H [] [])
          obtain ⟨us', m1, m2, m3⟩ := mrg_ok (κ := List Key) (ks2 := qs.map fun q => q.2.1) (ks := []) (ds := []) (us := []) (W := W) (ι := ι) (H := H) Reps.nil rfl f3 (by rw [f3.length]; simp)
          have ez : (qs.map fun q => q.2.1).zip (qs.map fun q => q.2.2.2) = qs.map fun q => (q.2.1, q.2.2.2) := by rw [List.zip_map']
          rw [ez] at m1
          have m1' : mrgZ [] (qs.map fun q => (q.2.1, q.2.2.2)) = (mrgK [] [] (qs.map fun q => q.2.1) ws).zip us' := m1
          rw [m1'] at km
          have hle : ((mrgK [] [] (qs.map fun q => q.2.1) ws).zip us').length ≤ sizeLine := by
            rw [← m1']
            have := mrgZ_len (qs.map fun q => (q.2.1, q.2.2.2)) []
            rw [List.length_map, List.length_nil] at this
            omega
          obtain ⟨o', es, ep, d1, d2, d3, d4, _, d5⟩ := hd'
          refine ⟨.ref s.heap.objs.size, upd H s.heap.objs.size (.dT ((mrgK [] [] (qs.map fun q => q.2.1) ws).zip us')), I.laid (t' := tk) (fun b o z => hk b o (by simp) z) (Nat.le_refl _)
            ⟨hle, beq_eq_false_iff_ne.mpr (Nat.ne_of_gt I.big), _, km.keeps (fun b ys z => kp_new hp z), o', es, ep, d1, d2, d3, d4, d5⟩, rfl, k _ ι _ (Grow.laid hp) (r.laid hp) ?_⟩
          simp only [Rep]
          exact ⟨_, rfl, r.free hp, us', upd_same, m2, Reps.grow (Grow.laid hp) _ _ m3⟩
      · cases e
    · cases e
  · cases e
/-- the same with keys that are ints or texts -/
theorem pairs_k {ι : Lay} {H : Hp} : ∀ {ds : List D} {vs : List V} {ks : List Key} {ws : List D}, Reps W ι H ds vs → pairsK ds = some (ks, ws) → ∃ (ps : List Addr) (us : List V), vs = ps.map V.ref ∧ ks.length = ws.length ∧ Reps W ι H ws us ∧ Paired (fun p kv => SqT W.K H p [kV kv.1, kv.2]) ps (ks.zip us)
  | [], vs, ks, ws, h, e => by
    cases e
    exact ⟨[], [], by rw [h.nil_of]; rfl, rfl, Reps.nil, .nil⟩
  | d :: ds, vs, ks, ws, h, e => by
    obtain ⟨v, r, rfl, hv, hr⟩ := h.uncons
    unfold pairsK at e
    split at e
    · rename_i z; cases z
    · rename_i k v2 r2 z
      cases z
      split at e
      · rename_i kk ks2 vs2 e1 e2
        cases e
        obtain ⟨ps, us, f1, f2, f3, f4⟩ := pairs_k hr e2
        simp only [Rep] at hv
        obtain ⟨a, rfl, us1, ha, hu⟩ := hv
        obtain ⟨u1, u2, rfl, hk, hw⟩ := reps2 hu
        cases keyOf_ok e1 hk
        exact ⟨a :: ps, u2 :: us, by rw [f1]; rfl, by simp [f2], Reps.cons hw f3, .cons (.inl (.inl ha)) f4⟩
      · cases e
    · cases e
theorem mergeK_eq : ∀ (more kvs : List (Key × V)), mergeK kvs more = mrgZ kvs more := fun _ _ => rfl
theorem jc_dictP (hK : X.K = W.K) (hc : X.calm = true) : CallR X (.type "dict") (MA W fDictP) := by
  intro pins s σ H xs us Q I rx ⟨ι, st, ds, d, st', r, h, e, k⟩
  unfold fDictP at e
  split at e
  · obtain ⟨v, rfl, hv⟩ := reps1 h
    split at e
    · rename_i ys q
      split at e
      · rename_i ks ws e2
        cases e
        obtain ⟨a, vs, rfl, ha, hvs⟩ := seqL_ok r hv q
        obtain ⟨ps, us1, rfl, f2, f3, f4⟩ := pairs_k hvs e2
        refine call_dictP hc pins s σ H _ us Q I rx ⟨a, ps, _, rfl, SqL.of ha, hK ▸ f4, fun p hp => ?_⟩
        obtain ⟨us', m1, m2, m3⟩ := mrg_ok (κ := Key) (ks2 := ks) (ks := []) (ds := []) (us := []) (W := W) (ι := ι) (H := H) Reps.nil rfl f3 f2
        have m1' : mergeK [] (ks.zip us1) = (mrgK [] [] ks ws).zip us' := m1
        rw [m1']
        refine k _ ι _ (Grow.laid hp) (r.laid hp) ?_
        simp only [Rep]
        exact ⟨_, rfl, r.free hp, us', upd_same, m2, Reps.grow (Grow.laid hp) _ _ m3⟩
      · cases e
    · cases e
  · cases e
theorem jm_updT (hu : X.A.units + 1 < cLine) : MtR X "dict.update" (MMt W mUpdT) := by
  intro pins s σ H x xs v us Q I rx rxs ⟨ι, st, o, as, d, st', r, ho, ha, e, k⟩
  unfold mUpdT at e
  split at e
  · rename_i n ks2 vs2
    obtain ⟨p, c, rfl, h1, h2, h3⟩ := rep_ref r ho
    obtain ⟨wv, rfl, hw⟩ := reps1 ha
    rw [h2] at e
    obtain ⟨z, hz, mz⟩ := h3.there
    split at e
    · rename_i ks vs q
      cases q
      split at e
      · rename_i hl
        cases e
        obtain ⟨hl, hint, hnd⟩ := hl
        obtain ⟨us1, h4, h5, h6⟩ := h3
        simp only [Rep] at hw
        obtain ⟨p2, rfl, nh, us2, h7, h8, h9⟩ := hw
        obtain rfl : v = Value.ref p := rx
        obtain ⟨u, eu, ru⟩ := vals1 rxs
        subst eu
        cases ru
        have hne : p ≠ p2 := fun z => nh (.inl (z ▸ List.mem_of_getElem? h1))
        obtain ⟨z1, y1, xs1, kt1, dd1⟩ := dt_of I.hok h4
        obtain ⟨z2, y2, xs2, kt2, dd2⟩ := dt_of I.hok h7
        obtain ⟨us', m1, m2, m3⟩ := mrg_ok h6 h5 h9 h8
        have l1 : (ks.zip us1).length = ks.length := by rw [List.length_zip, ← h6.length, h5, Nat.min_self]
        have l2 : (ks2.zip us2).length = ks2.length := by rw [List.length_zip, ← h9.length, h8, Nat.min_self]
        have km := KT.mrg kt2 kt1
        rw [m1] at km
        have hle : ((mrgK ks vs ks2 vs2).zip us').length ≤ sizeLine := by
          rw [← m1]
          have := mrgZ_len (ks2.zip us2) (ks.zip us1)
          omega
        have kin := KT.all I.hok kt2
        have keysEq : xs2.map (fun x => (tupleKind (mixKind X.prog X.w)).hash x.1) = ks2.map hKs := by
          have hk : xs2.map (·.1) = ks2 := by
            have : (ks2.zip us2).map Prod.fst = xs2.map (·.1) := kt_keys kt2
            rw [← this]
            exact List.map_fst_zip (by rw [← h9.length, h8]; exact Nat.le_refl _)
          rw [← hk, List.map_map]
          refine List.map_congr_left fun x hx => hKs_eq (hint x.1 ?_)
          rw [← hk]
          exact List.mem_map.mpr ⟨x, hx, rfl⟩
        refine PySem.call_update_dictH (knd := tupleKind (mixKind X.prog X.w)) (show X.A.units + 1 < cLine from hu) hne y2 dd1 dd2 (.inr ⟨fun x hx => ?_, by rw [keysEq]; exact hnd⟩) (by rw [← Paired.length kt1, ← Paired.length kt2, l1, l2]; exact hl) fun h' d1 _ sb => ?_
        · obtain ⟨o, items, m, w1, w2, _⟩ := (kin x hx).1
          exact ⟨o, w1, w2⟩
        · have g : Grow ι H ι (upd H p (.dT ((mrgK ks vs ks2 vs2).zip us'))) := Grow.put h1 hz mz
          obtain ⟨o', es, ep, e1, e2, e3, e4, _, e5⟩ := d1
          refine ⟨.non, upd H p (.dT ((mrgK ks vs ks2 vs2).zip us')), d_write (t' := s.toks) I (by rw [h4]; exact True.intro) sb ⟨o', e1⟩ ⟨hle, y1, _, km.keeps fun c ys ec => ?_, o', es, ep, e1, e2, e3, e4, e5⟩, rfl,
            k _ _ _ g (r.put h1 ⟨us', upd_same, m2, Reps.grow g _ _ m3⟩) non_rep⟩
          rw [upd_ne (ne_of ec h4 (fun z => nomatch z))]
          exact ec
      · cases e
    · cases e
  · cases e
end
end My

namespace My
open PySem PySem.Spec PyProof.Rows L2
theorem hu2_of {A : Around} {k : Nat} (hr : Room k A) : A.units + 2 < cLine := Nat.lt_of_le_of_lt (Nat.add_le_add_left (by decide : 2 ≤ 64) _) hr.units
/-! ### list(range(..)), tuple(range(..)) -/
def RgW (a b : Int) : Prop := -(2 ^ 62) ≤ a ∧ a < 2 ^ 62 ∧ -(2 ^ 62) ≤ b ∧ b < 2 ^ 62 ∧ (b - a).toNat ≤ 2 ^ 24
open Classical in
noncomputable def eLrg1 (m : EM) : EM := fun env st => match m env st with
  | some (.int j, s1) => if RgW 0 j then some (.lst (intsTo 0 j.toNat), s1) else none
  | _ => none
open Classical in
noncomputable def eLrg2 (m m2 : EM) : EM := fun env st => match m env st with
  | some (.int i, s1) => match m2 env s1 with
    | some (.int j, s2) => if RgW i j then some (.lst (intsTo i (j - i).toNat), s2) else none
    | _ => none
  | _ => none
open Classical in
noncomputable def eTrg1 (m : EM) : EM := fun env st => match m env st with
  | some (.int j, s1) => if RgW 0 j then some (.tup (intsTo 0 j.toNat), s1) else none
  | _ => none
open Classical in
noncomputable def eTrg2 (m m2 : EM) : EM := fun env st => match m env st with
  | some (.int i, s1) => match m2 env s1 with
    | some (.int j, s2) => if RgW i j then some (.tup (intsTo i (j - i).toNat), s2) else none
    | _ => none
  | _ => none
section
variable {X : Cx} {W : Wd} {e e2 : Expr} {p p2 pos pos2 : Pos} {m m2 : EM}
theorem rg_reps {ι : Lay} {H : Hp} (a b : Int) : Reps W ι H (intsTo a (b - a).toNat) (rgV a b) := by
  unfold intsTo rgV
  exact Reps.map fun i _ => by simp only [Rep]
theorem j_lrg1 (hc : X.calm = true) (hgl : Gl X "list") (hml : X.mg "list" = none) (hg : Gl X "range") (hm : X.mg "range" = none) (ha : PE X e (T W m)) (na : starEach [e] X.env = (false, eval e X.env) :: starEach [] X.env := by rfl)
    (no : starEach [.Call (.Name "range" p2) [e] [] pos2] X.env = (false, eval (.Call (.Name "range" p2) [e] [] pos2) X.env) :: starEach [] X.env := by rfl) : PE X (.Call (.Name "list" p) [.Call (.Name "range" p2) [e] [] pos2] [] pos) (T W (eLrg1 m)) :=
  (pe_listRg hc hgl hml (prg_1 hg hm ha na) no).imp fun σ H Q ⟨ι, st, env, d, st', r, n, q, k⟩ => by
    unfold eLrg1 at q
    split at q
    · rename_i j s1 e1
      split at q
      · rename_i hz
        cases q
        refine T.of r n e1 fun v ι1 H1 g1 r1 p1 => ?_
        simp only [Rep] at p1
        subst p1
        refine ⟨j, rfl, hz, fun q hq => ?_⟩
        have := rg_reps (W := W) (ι := ι1) (H := H1) 0 j
        rw [Int.sub_zero] at this
        exact (k.go g1).lst r1 this hq
      · cases q
    · cases q
theorem j_lrg2 (hc : X.calm = true) (hgl : Gl X "list") (hml : X.mg "list" = none) (hg : Gl X "range") (hm : X.mg "range" = none) (ha : PE X e (T W m)) (hb : PE X e2 (T W m2)) (na : starEach [e, e2] X.env = (false, eval e X.env) :: starEach [e2] X.env := by rfl) (nb : starEach [e2] X.env = (false, eval e2 X.env) :: starEach [] X.env := by rfl) (hp : (backTo pos2 (starEach [e2] X.env)).any (·.1) = false := by rfl)
    (no : starEach [.Call (.Name "range" p2) [e, e2] [] pos2] X.env = (false, eval (.Call (.Name "range" p2) [e, e2] [] pos2) X.env) :: starEach [] X.env := by rfl) : PE X (.Call (.Name "list" p) [.Call (.Name "range" p2) [e, e2] [] pos2] [] pos) (T W (eLrg2 m m2)) :=
  (pe_listRg hc hgl hml (prg_2 hg hm ha hb na nb hp) no).imp fun σ H Q ⟨ι, st, env, d, st', r, n, q, k⟩ => by
    unfold eLrg2 at q
    split at q
    · rename_i i s1 e1
      split at q
      · rename_i j s2 e2'
        split at q
        · rename_i hz
          cases q
          refine T.of r n e1 fun v ι1 H1 g1 r1 p1 => T.of r1 (n.grow g1) e2' fun v2 ι2 H2 g2 r2 p2 => ?_
          simp only [Rep] at p1 p2
          subst p1 p2
          exact ⟨i, j, rfl, rfl, hz, fun q hq => (k.go (g1.trans g2)).lst r2 (rg_reps i j) hq⟩
        · cases q
      · cases q
    · cases q
theorem j_trg1 (hc : X.calm = true) (hgl : Gl X "tuple") (hml : X.mg "tuple" = none) (hg : Gl X "range") (hm : X.mg "range" = none) (ha : PE X e (T W m)) (na : starEach [e] X.env = (false, eval e X.env) :: starEach [] X.env := by rfl)
    (no : starEach [.Call (.Name "range" p2) [e] [] pos2] X.env = (false, eval (.Call (.Name "range" p2) [e] [] pos2) X.env) :: starEach [] X.env := by rfl) : PE X (.Call (.Name "tuple" p) [.Call (.Name "range" p2) [e] [] pos2] [] pos) (T W (eTrg1 m)) :=
  (pe_tupRg hc hgl hml (prg_1 hg hm ha na) no).imp fun σ H Q ⟨ι, st, env, d, st', r, n, q, k⟩ => by
    unfold eTrg1 at q
    split at q
    · rename_i j s1 e1
      split at q
      · rename_i hz
        cases q
        refine T.of r n e1 fun v ι1 H1 g1 r1 p1 => ?_
        simp only [Rep] at p1
        subst p1
        refine ⟨j, rfl, hz, fun q hq => ?_⟩
        have := rg_reps (W := W) (ι := ι1) (H := H1) 0 j
        rw [Int.sub_zero] at this
        exact (k.go g1).tup r1 this hq
      · cases q
    · cases q
theorem j_trg2 (hc : X.calm = true) (hgl : Gl X "tuple") (hml : X.mg "tuple" = none) (hg : Gl X "range") (hm : X.mg "range" = none) (ha : PE X e (T W m)) (hb : PE X e2 (T W m2)) (na : starEach [e, e2] X.env = (false, eval e X.env) :: starEach [e2] X.env := by rfl) (nb : starEach [e2] X.env = (false, eval e2 X.env) :: starEach [] X.env := by rfl) (hp : (backTo pos2 (starEach [e2] X.env)).any (·.1) = false := by rfl)
    (no : starEach [.Call (.Name "range" p2) [e, e2] [] pos2] X.env = (false, eval (.Call (.Name "range" p2) [e, e2] [] pos2) X.env) :: starEach [] X.env := by rfl) : PE X (.Call (.Name "tuple" p) [.Call (.Name "range" p2) [e, e2] [] pos2] [] pos) (T W (eTrg2 m m2)) :=
  (pe_tupRg hc hgl hml (prg_2 hg hm ha hb na nb hp) no).imp fun σ H Q ⟨ι, st, env, d, st', r, n, q, k⟩ => by
    unfold eTrg2 at q
    split at q
    · rename_i i s1 e1
      split at q
      · rename_i j s2 e2'
        split at q
        · rename_i hz
          cases q
          refine T.of r n e1 fun v ι1 H1 g1 r1 p1 => T.of r1 (n.grow g1) e2' fun v2 ι2 H2 g2 r2 p2 => ?_
          simp only [Rep] at p1 p2
          subst p1 p2
          exact ⟨i, j, rfl, rfl, hz, fun q hq => (k.go (g1.trans g2)).tup r2 (rg_reps i j) hq⟩
        · cases q
      · cases q
    · cases q
end
section
variable {env : Env} {st : Store} {Q : D → Store → Prop} {m m2 : EM}
theorem ev_lrg1 : EvE (eLrg1 m) env st Q ↔ EvE m env st fun d s1 => ∃ j, d = .int j ∧ RgW 0 j ∧ Q (.lst (intsTo 0 j.toNat)) s1 := by
  unfold EvE eLrg1
  constructor
  · rintro ⟨d, s, e, q⟩
    split at e
    · rename_i j s1 h
      split at e
      · rename_i hz
        cases e
        exact ⟨_, _, h, j, rfl, hz, q⟩
      · cases e
    · cases e
  · rintro ⟨d, s, h, j, rfl, hz, q⟩
    exact ⟨_, s, by rw [h]; simp only [if_pos hz], q⟩
theorem ev_lrg2 : EvE (eLrg2 m m2) env st Q ↔ EvE m env st fun d s1 => EvE m2 env s1 fun d2 s2 => ∃ i j, d = .int i ∧ d2 = .int j ∧ RgW i j ∧ Q (.lst (intsTo i (j - i).toNat)) s2 := by
  unfold EvE eLrg2
  constructor
  · rintro ⟨d, s, e, q⟩
    split at e
    · rename_i i s1 h
      split at e
      · rename_i j s2 h2
        split at e
        · rename_i hz
          cases e
          exact ⟨_, _, h, _, _, h2, i, j, rfl, rfl, hz, q⟩
        · cases e
      · cases e
    · cases e
  · rintro ⟨d, s, h, d2, s2, h2, i, j, rfl, rfl, hz, q⟩
    exact ⟨_, s2, by rw [h]; simp only [h2, if_pos hz], q⟩
theorem ev_trg1 : EvE (eTrg1 m) env st Q ↔ EvE m env st fun d s1 => ∃ j, d = .int j ∧ RgW 0 j ∧ Q (.tup (intsTo 0 j.toNat)) s1 := by
  unfold EvE eTrg1
  constructor
  · rintro ⟨d, s, e, q⟩
    split at e
    · rename_i j s1 h
      split at e
      · rename_i hz
        cases e
        exact ⟨_, _, h, j, rfl, hz, q⟩
      · cases e
    · cases e
  · rintro ⟨d, s, h, j, rfl, hz, q⟩
    exact ⟨_, s, by rw [h]; simp only [if_pos hz], q⟩
theorem ev_trg2 : EvE (eTrg2 m m2) env st Q ↔ EvE m env st fun d s1 => EvE m2 env s1 fun d2 s2 => ∃ i j, d = .int i ∧ d2 = .int j ∧ RgW i j ∧ Q (.tup (intsTo i (j - i).toNat)) s2 := by
  unfold EvE eTrg2
  constructor
  · rintro ⟨d, s, e, q⟩
    split at e
    · rename_i i s1 h
      split at e
      · rename_i j s2 h2
        split at e
        · rename_i hz
          cases e
          exact ⟨_, _, h, _, _, h2, i, j, rfl, rfl, hz, q⟩
        · cases e
      · cases e
    · cases e
  · rintro ⟨d, s, h, d2, s2, h2, i, j, rfl, rfl, hz, q⟩
    exact ⟨_, s2, by rw [h]; simp only [h2, if_pos hz], q⟩
end
/-! ### what dict(..) of pairs holds -/
theorem pairsK_map {α : Type} (f : α → Int) (g : α → D) : ∀ xs : List α, pairsK (xs.map fun x => .tup [.int (f x), g x]) = some (xs.map fun x => Sum.inl (f x), xs.map g)
  | [] => rfl
  | x :: xs => by
    simp only [List.map_cons, pairsK, keyOf, pairsK_map f g xs]
theorem pairsT_map {α : Type} (f f2 : α → Int) (g : α → D) : ∀ xs : List α, pairsT (xs.map fun x => .tup [.tup [.int (f x), .int (f2 x)], g x]) = some (xs.map fun x => [Sum.inl (f x), Sum.inl (f2 x)], xs.map g)
  | [] => rfl
  | x :: xs => by
    simp only [List.map_cons, pairsT, tkeyOf, keysOf, keyOf, Option.map_some, pairsT_map f f2 g xs]
section
variable {κ : Type} [DecidableEq κ]
theorem kHas_iff {k : κ} : ∀ {ks : List κ}, kHas ks k = true ↔ k ∈ ks
  | [] => by simp [kHas]
  | j :: ks => by
    show (decide (j = k) || kHas ks k) = true ↔ _
    rw [Bool.or_eq_true, kHas_iff, List.mem_cons, decide_eq_true_eq]
    constructor
    · rintro (h | h)
      · exact .inl h.symm
      · exact .inr h
    · rintro (h | h)
      · exact .inl h.symm
      · exact .inr h
/-- new keys stand behind the old ones -/
theorem mrg_new : ∀ {k2 : List κ} {v2 : List D} {ks : List κ} {vs : List D}, k2.length = v2.length → k2.Nodup → (∀ k ∈ k2, k ∉ ks) → mrgK ks vs k2 v2 = ks ++ k2 ∧ mrgV ks vs k2 v2 = vs ++ v2
  | [], [], ks, vs, _, _, _ => ⟨by unfold mrgK; simp, by unfold mrgV; simp⟩
  | [], _ :: _, _, _, h, _, _ => by simp at h
  | _ :: _, [], _, _, h, _, _ => by simp at h
  | k :: k2, v :: v2, ks, vs, h, nd, hf => by
    have hn : ¬ kHas ks k = true := fun z => hf k List.mem_cons_self (kHas_iff.mp z)
    have e1 : kPutK ks k = ks ++ [k] := by unfold kPutK; rw [if_neg hn]
    have e2 : kPutV ks vs k v = vs ++ [v] := by unfold kPutV; rw [if_neg hn]
    have nd2 := List.nodup_cons.mp nd
    have ih := mrg_new (k2 := k2) (v2 := v2) (ks := ks ++ [k]) (vs := vs ++ [v]) (by simpa using h) nd2.2 fun j hj z => by
      rcases List.mem_append.mp z with z | z
      · exact hf j (List.mem_cons_of_mem _ hj) z
      · rw [List.mem_singleton] at z
        subst z
        exact nd2.1 hj
    unfold mrgK mrgV
    rw [e1, e2, ih.1, ih.2]
    simp
end
end My

namespace My
open PySem PySem.Spec PyProof.Rows L2
/-! ### pairs of small numbers have hash values of their own -/
def gT (m p1 p2 p5 c a31 a33 a63 : Nat) (hashes : List Int) : Int :=
  let acc := hashes.foldl (init := p5) fun acc h =>
    let acc := (acc + (h % (m : Int)).toNat * p2) % m
    let acc := (acc * a31) % m + acc / a33
    (acc * p1) % m
  let acc := (acc + (hashes.length ^^^ (p5 ^^^ c))) % m
  if acc == m - 1 then 1546275796 else if acc < a63 then acc else (acc : Int) - m
theorem gT_eq (hs : List Int) : Builtin.Tuple.tupleHashOf hs = gT (2 ^ 64) 11400714785074694791 14029467366897019727 2870177450012600261 3527539 (2 ^ 31) (2 ^ 33) (2 ^ 63) hs := rfl
def gA (m p2 : Nat) (x : Nat) (h : Nat) : Nat := (x + h * p2) % m
def gR (m a31 a33 : Nat) (a : Nat) : Nat := (a * a31) % m + a / a33
def gS (m p1 p2 a31 a33 : Nat) (x : Nat) (h : Nat) : Nat := (gR m a31 a33 (gA m p2 x h) * p1) % m
def gE (m c : Nat) (x : Nat) : Nat := (x + c) % m
def gF (m a63 : Nat) (x : Nat) : Int := if x == m - 1 then 1546275796 else if x < a63 then x else (x : Int) - m
theorem gT_two (m p1 p2 p5 c a31 a33 a63 : Nat) (x y : Int) : gT m p1 p2 p5 c a31 a33 a63 [x, y] = gF m a63 (gE m (2 ^^^ (p5 ^^^ c)) (gS m p1 p2 a31 a33 (gS m p1 p2 a31 a33 p5 (x % (m : Int)).toNat) (y % (m : Int)).toNat)) := rfl
theorem p64 : (2 : Nat) ^ 64 = 18446744073709551616 := by decide
theorem p31 : (2 : Nat) ^ 31 = 2147483648 := by decide
theorem p33 : (2 : Nat) ^ 33 = 8589934592 := by decide
theorem p63 : (2 : Nat) ^ 63 = 9223372036854775808 := by decide
theorem pxr : (2 ^^^ (2870177450012600261 ^^^ 3527539) : Nat) = 2870177450013471924 := by decide
def hA (x : Nat) (h : Nat) : Nat := gA 18446744073709551616 14029467366897019727 x h
def hR (a : Nat) : Nat := gR 18446744073709551616 2147483648 8589934592 a
def hS (x : Nat) (h : Nat) : Nat := gS 18446744073709551616 11400714785074694791 14029467366897019727 2147483648 8589934592 x h
def hE (x : Nat) : Nat := gE 18446744073709551616 2870177450013471924 x
def hF (x : Nat) : Int := gF 18446744073709551616 9223372036854775808 x
theorem hS_eq (x h : Nat) : hS x h = (hR (hA x h) * 11400714785074694791) % 18446744073709551616 := by
  unfold hS gS hR hA
  rfl
theorem hash_two (x y : Int) : Builtin.Tuple.tupleHashOf [x, y] = hF (hE (hS (hS 2870177450012600261 (x % ((2 ^ 64 : Nat) : Int)).toNat) (y % ((2 ^ 64 : Nat) : Int)).toNat)) := by
  rw [gT_eq, gT_two, pxr]
  unfold hF hE hS
  rw [p64, p31, p33, p63]
theorem hA_lt {x h : Nat} : hA x h < 18446744073709551616 := Nat.mod_lt _ (by decide)
theorem hS_lt {x h : Nat} : hS x h < 18446744073709551616 := Nat.mod_lt _ (by decide)
theorem hR_eq (a : Nat) : hR a = (a % 8589934592) * 2147483648 + a / 8589934592 := by
  unfold hR gR
  rw [show (18446744073709551616 : Nat) = 8589934592 * 2147483648 from rfl, Nat.mul_mod_mul_right]
theorem hR_lt {a : Nat} (h : a < 18446744073709551616) : hR a < 18446744073709551616 := by
  rw [hR_eq]
  have h1 : a % 8589934592 < 8589934592 := Nat.mod_lt _ (by decide)
  have h2 : a / 8589934592 < 2147483648 := Nat.div_lt_of_lt_mul (by show a < 8589934592 * 2147483648; exact h)
  generalize a % 8589934592 = r at *
  generalize a / 8589934592 = q at *
  omega
theorem hR_inj {a b : Nat} (h : a < 18446744073709551616) (k : b < 18446744073709551616) (e : hR a = hR b) : a = b := by
  rw [hR_eq, hR_eq] at e
  have h2 : a / 8589934592 < 2147483648 := Nat.div_lt_of_lt_mul (by show a < 8589934592 * 2147483648; exact h)
  have k2 : b / 8589934592 < 2147483648 := Nat.div_lt_of_lt_mul (by show b < 8589934592 * 2147483648; exact k)
  rw [← Nat.div_add_mod a 8589934592, ← Nat.div_add_mod b 8589934592]
  generalize a % 8589934592 = r at *
  generalize a / 8589934592 = q at *
  generalize b % 8589934592 = r2 at *
  generalize b / 8589934592 = q2 at *
  have e1 : r = r2 := by omega
  have e2 : q = q2 := by omega
  rw [e1, e2]
theorem mul_inj {x y : Nat} (h : x < 18446744073709551616) (k : y < 18446744073709551616) (e : (x * 11400714785074694791) % 18446744073709551616 = (y * 11400714785074694791) % 18446744073709551616) : x = y := by
  have h1 : ∀ z : Nat, z < 18446744073709551616 → (((z * 11400714785074694791) % 18446744073709551616) * 614540362697595703) % 18446744073709551616 = z := fun z hz => by
    rw [Nat.mod_mul_mod, Nat.mul_assoc, Nat.mul_mod, show 11400714785074694791 * 614540362697595703 % 18446744073709551616 = 1 from rfl, Nat.mul_one, Nat.mod_mod, Nat.mod_eq_of_lt hz]
  rw [← h1 x h, ← h1 y k, e]
theorem mul_inj2 {x y : Nat} (h : x < 18446744073709551616) (k : y < 18446744073709551616) (e : (x * 14029467366897019727) % 18446744073709551616 = (y * 14029467366897019727) % 18446744073709551616) : x = y := by
  have h1 : ∀ z : Nat, z < 18446744073709551616 → (((z * 14029467366897019727) % 18446744073709551616) * 839798700976720815) % 18446744073709551616 = z := fun z hz => by
    rw [Nat.mod_mul_mod, Nat.mul_assoc, Nat.mul_mod, show 14029467366897019727 * 839798700976720815 % 18446744073709551616 = 1 from rfl, Nat.mul_one, Nat.mod_mod, Nat.mod_eq_of_lt hz]
  rw [← h1 x h, ← h1 y k, e]
theorem add_c {x : Nat} (y1 y2 : Nat) (e : (x + y1) % 18446744073709551616 = (x + y2) % 18446744073709551616) : y1 % 18446744073709551616 = y2 % 18446744073709551616 := by omega
theorem hA_inj {x h1 h2 : Nat} (a : h1 < 18446744073709551616) (b : h2 < 18446744073709551616) (e : hA x h1 = hA x h2) : h1 = h2 := by
  exact mul_inj2 a b (add_c (h1 * 14029467366897019727) (h2 * 14029467366897019727) e)
theorem hS_inj {x h1 h2 : Nat} (a : h1 < 18446744073709551616) (b : h2 < 18446744073709551616) (e : hS x h1 = hS x h2) : h1 = h2 :=
  by
  rw [hS_eq, hS_eq] at e
  exact hA_inj a b (hR_inj hA_lt hA_lt (mul_inj (hR_lt hA_lt) (hR_lt hA_lt) e))
theorem hE_lt {x : Nat} : hE x < 18446744073709551616 := Nat.mod_lt _ (by decide)
theorem hE_inj {x y : Nat} (a : x < 18446744073709551616) (b : y < 18446744073709551616) (e : hE x = hE y) : x = y := by
  unfold hE gE at e
  omega
theorem hF_inj {x y : Nat} (a : x < 18446744073709551615) (b : y < 18446744073709551615) (e : hF x = hF y) : x = y := by
  unfold hF gF at e
  rw [if_neg (fun z => absurd (eq_of_beq z) (Nat.ne_of_lt a)), if_neg (fun z => absurd (eq_of_beq z) (Nat.ne_of_lt b))] at e
  split at e <;> split at e <;> omega
theorem hF_in {x : Nat} (a : x < 18446744073709551615) : -(9223372036854775808 : Int) ≤ hF x ∧ hF x < 9223372036854775808 ∧ hF x ≠ -1 := by
  unfold hF gF
  rw [if_neg (fun z => absurd (eq_of_beq z) (Nat.ne_of_lt a))]
  split <;> omega
/-- none of them is the odd one -/
theorem hE_odd : ∀ b, b < 101 → ∀ e, e < 101 → hE (hS (hS 2870177450012600261 b) e) ≠ 18446744073709551615 := by decide +kernel
theorem hKs_two {b e : Nat} (hb : b < 101) (he : e < 101) : hKs [Sum.inl (b : Int), Sum.inl (e : Int)] = hF (hE (hS (hS 2870177450012600261 b) e)) := by
  have hi : ∀ n : Nat, n < 101 → hashInt (n : Int) = (n : Int) := by decide +kernel
  have hm : ∀ n : Nat, n < 101 → ((n : Int) % ((2 ^ 64 : Nat) : Int)).toNat = n := fun n hn => by
    have : ((2 ^ 64 : Nat) : Int) = 18446744073709551616 := by decide
    rw [this]
    omega
  have e1 : Builtin.Tuple.tupleHashOf ([Sum.inl (b : Int), Sum.inl (e : Int)].map hK0) = hF (hE (hS (hS 2870177450012600261 b) e)) := by
    rw [List.map_cons, List.map_cons, List.map_nil]
    have k0 : ∀ i : Int, hK0 (Sum.inl i) = hashInt i := fun _ => rfl
    rw [k0, k0, hi b hb, hi e he, hash_two, hm b hb, hm e he]
  unfold hKs
  rw [e1]
  have hlt : hE (hS (hS 2870177450012600261 b) e) < 18446744073709551615 := by
    have h1 := hE_odd b hb e he
    have h2 := hE_lt (x := hS (hS 2870177450012600261 b) e)
    omega
  obtain ⟨q1, q2, q3⟩ := hF_in hlt
  unfold reduceHash
  rw [if_pos (by simp only [Bool.and_eq_true, decide_eq_true_eq]; exact ⟨q1, q2⟩), if_neg (by simpa using q3)]
theorem hKs_inj {b e1 e2 : Nat} (hb : b < 101) (h1 : e1 < 101) (h2 : e2 < 101) (e : hKs [Sum.inl (b : Int), Sum.inl (e1 : Int)] = hKs [Sum.inl (b : Int), Sum.inl (e2 : Int)]) : e1 = e2 := by
  rw [hKs_two hb h1, hKs_two hb h2] at e
  have o : ∀ z, z < 101 → hE (hS (hS 2870177450012600261 b) z) < 18446744073709551615 := fun z hz => by
    have h1 := hE_odd b hb z hz
    have h2 := hE_lt (x := hS (hS 2870177450012600261 b) z)
    omega
  exact hS_inj (by omega) (by omega) (hE_inj hS_lt hS_lt (hF_inj (o _ h1) (o _ h2) e))
theorem nat_of {b : Int} (h : 1 ≤ b) (k : b ≤ 100) : ∃ n : Nat, b = (n : Int) ∧ n < 101 := ⟨b.toNat, by omega, by omega⟩
theorem keys_inj {b x y : Int} (b1 : 1 ≤ b) (b2 : b ≤ 100) (x1 : 1 ≤ x) (x2 : x ≤ 100) (y1 : 1 ≤ y) (y2 : y ≤ 100) (e : hKs [Sum.inl b, Sum.inl x] = hKs [Sum.inl b, Sum.inl y]) : x = y := by
  obtain ⟨b', rfl, hb⟩ := nat_of b1 b2
  obtain ⟨x', rfl, hx⟩ := nat_of x1 x2
  obtain ⟨y', rfl, hy⟩ := nat_of y1 y2
  rw [hKs_inj hb hx hy e]
theorem nodup_on {α β : Type} {f : α → β} : ∀ {l : List α}, (∀ x ∈ l, ∀ y ∈ l, f x = f y → x = y) → l.Nodup → (l.map f).Nodup
  | [], _, _ => List.nodup_nil
  | a :: l, h, nd => by
    have nd2 := List.nodup_cons.mp nd
    rw [List.map_cons, List.nodup_cons]
    refine ⟨fun m => ?_, nodup_on (fun x hx y hy => h x (List.mem_cons_of_mem _ hx) y (List.mem_cons_of_mem _ hy)) nd2.2⟩
    obtain ⟨y, hy, e⟩ := List.mem_map.mp m
    exact nd2.1 (h y (List.mem_cons_of_mem _ hy) a List.mem_cons_self e ▸ hy)
/-- the keys (b, e), e from rules -/
theorem keys_ints {b : Int} {ls : List Int} : ∀ k ∈ ls.map (fun e => ([Sum.inl b, Sum.inl e] : List Key)), intsK k = true := by
  intro k hk
  obtain ⟨e, _, rfl⟩ := List.mem_map.mp hk
  rfl
theorem keys_apart {S b : Int} {ls : List Int} (R : Rules S ls) (hb : b ∈ ls) : ((ls.map fun e => ([Sum.inl b, Sum.inl e] : List Key)).map hKs).Nodup := by
  rw [List.map_map]
  refine nodup_on (f := fun e => hKs [Sum.inl b, Sum.inl e]) ?_ (R.asc.imp fun {x y} h => Int.ne_of_lt h)
  intro x hx y hy e
  exact keys_inj (R.mem b hb).1 (Int.le_trans (R.mem b hb).2 R.s2) (R.mem x hx).1 (Int.le_trans (R.mem x hx).2 R.s2) (R.mem y hy).1 (Int.le_trans (R.mem y hy).2 R.s2) e
end My

namespace My
open PySem PySem.Spec PyProof.Rows L2
/-! ### zip of a list and a tuple (after HandS.Zip0 and HandS.Zip) -/
section
variable {prog : Program} {w : World} {A : Around} {E : Value → Shared → Prop} {s : Shared}
theorem zipM_next_item {z TI TO i1 i2 l1 l2 : Addr} {p1 p2 : Nat} {us ws : Array Value} {x y a b : Value} {Q : Value → Shared → Prop} (ap : ZipApart z TI TO i1 i2 l1 l2)
    (ez : IsZip s.heap z TI TO .none) (eTI : IsPair s.heap TI (.ref i1) (.ref i2)) (eTO : IsPair s.heap TO a b)
    (h1 : s.heap.IsListIter i1 l1 p1) (h2 : s.heap.IsTupleIter i2 l2 p2) (el1 : s.heap.IsList l1 us) (el2 : s.heap.IsTuple l2 ws) (ex : us[p1]? = some x) (ey : ws[p2]? = some y)
    (want : ∀ h', IsZip h' z TI TO (rawInt s.heap.objs.size) → IsPair h' TO x y → h'.IsListIter i1 l1 (p1 + 1) → h'.IsTupleIter i2 l2 (p2 + 1) → IsPair h' s.heap.objs.size x y → h'.objs.size = s.heap.objs.size + 1 →
      (∀ c o, c ≠ z → c ≠ TO → c ≠ i1 → c ≠ i2 → s.heap.get? c = some o → h'.get? c = some o) → Q (.ref s.heap.objs.size) { s with heap := h' }) :
    wpAny (model prog w) A (Builtin.«zip.__next__» ⟨[.ref z], []⟩) (fun fin s' => ∃ v, fin = .done (.ret v) ∧ Q v s') E s := by
  show wpAny _ _ (field (.ref z) 2 >>= _) _ _ _
  refine wpAny_bind (wpAny_field ez rfl (x := .bool false) rfl ?_)
  show wpAny _ _ (field (.ref z) 3 >>= _) _ _ _
  refine wpAny_bind (wpAny_field ez rfl (x := .ref TI) rfl ?_)
  refine wpAny_bind (wpAny_seqItems eTI rfl ?_)
  show wpAny _ _ (Builtin.SmallTypes.ownedTupleIsFree (.ref z) >>= _) _ _ _
  refine wpAny_bind ?_
  unfold Builtin.SmallTypes.ownedTupleIsFree
  refine wpAny_bind (wpAny_field ez rfl (x := .none) rfl (wpAny_pure ?_))
  simp only [if_true]
  refine wpAny_bind (wpAny_rule ?_)
  refine wpAny_bind (wpAny_field ez rfl (x := .ref TO) rfl ?_)
  refine wpAny_bind (wpAny_setField_rec ez (by simp) fun gx₁ ezx₁ sbx₁ => ?_)
  replace ezx₁ : IsZip gx₁ z TI TO .ellipsis := ezx₁
  refine wpAny_bind ?_
  simp only [List.zipIdx_cons, List.zipIdx_nil, List.forIn_cons, List.forIn_nil]

  refine wpAny_bind (wpAny_bind (wpAny_onRaise ?_))
  show wpAny _ _ (Builtin.SmallTypes.nextOf (.ref i1) >>= _) _ _ _
  refine wpAny_bind (wpAny_nextOf_list_item (h1.extBut sbx₁.extBut ap.i1z) (el1.extBut sbx₁.extBut ap.l1z) ex fun gx₂ i1x₂ sbx₂ => wpAny_pure ?_)
  have eTOx₂ : IsPair gx₂ TO a b := sbx₂.extBut _ _ ap.TOi1 (sbx₁.extBut _ _ ap.TOz eTO)
  refine wpAny_bind (wpAny_seqItems eTOx₂ rfl ?_)
  refine wpAny_bind (wpAny_updateSeq_pair eTOx₂ fun gx₃ eTOx₃ sbx₃ => ?_)
  replace eTOx₃ : IsPair gx₃ TO x b := eTOx₃
  refine wpAny_bind (wpAny_letGo (wpAny_pure ?_))

  refine wpAny_bind (wpAny_bind (wpAny_onRaise ?_))
  show wpAny _ _ (Builtin.SmallTypes.nextOf (.ref i2) >>= _) _ _ _
  refine wpAny_bind (RZ.nextOf_tuple_item (((h2.extBut sbx₁.extBut ap.i2z).extBut sbx₂.extBut ap.i12.symm).extBut sbx₃.extBut ap.TOi2.symm)
    (((el2.extBut sbx₁.extBut ap.l2z).extBut sbx₂.extBut ap.l2i1).extBut sbx₃.extBut ap.l2TO) ey fun gx₄ i2x₄ sbx₄ => wpAny_pure ?_)
  have eTOx₄ : IsPair gx₄ TO x b := sbx₄.extBut _ _ ap.TOi2 eTOx₃
  refine wpAny_bind (wpAny_seqItems eTOx₄ rfl ?_)
  refine wpAny_bind (wpAny_updateSeq_pair eTOx₄ fun gx₅ eTOx₅ sbx₅ => ?_)
  replace eTOx₅ : IsPair gx₅ TO x y := eTOx₅
  refine wpAny_bind (wpAny_letGo (wpAny_pure (wpAny_pure ?_)))

  refine wpAny_bind (wpAny_seqItems eTOx₅ rfl ?_)
  refine wpAny_bind (wpAny_newTuple ?_)
  have esz : gx₅.objs.size = s.heap.objs.size := by rw [sbx₅.1, sbx₄.1, sbx₃.1, sbx₂.1, sbx₁.1]
  have ezx₅ : IsZip gx₅ z TI TO .ellipsis := sbx₅.extBut _ _ ap.TOz.symm (sbx₄.extBut _ _ ap.i2z.symm (sbx₃.extBut _ _ ap.TOz.symm (sbx₂.extBut _ _ ap.i1z.symm ezx₁)))
  have kpx₅ : ∀ c o, c ≠ z → c ≠ TO → c ≠ i1 → c ≠ i2 → s.heap.get? c = some o → gx₅.get? c = some o := fun c o c1 c2 c3 c4 e =>
    sbx₅.extBut _ _ c2 (sbx₄.extBut _ _ c4 (sbx₃.extBut _ _ c2 (sbx₂.extBut _ _ c3 (sbx₁.extBut _ _ c1 e))))
  have i1x₅ : gx₅.IsListIter i1 l1 (p1 + 1) := ((i1x₂.extBut sbx₃.extBut ap.TOi1.symm).extBut sbx₄.extBut ap.i12).extBut sbx₅.extBut ap.TOi1.symm
  have i2x₅ : gx₅.IsTupleIter i2 l2 (p2 + 1) := i2x₄.extBut sbx₅.extBut ap.TOi2.symm
  have zlt : z < gx₅.objs.size := Heap.lt_size ezx₅
  have tlt : TO < gx₅.objs.size := Heap.lt_size eTOx₅
  have i1lt : i1 < gx₅.objs.size := by obtain ⟨_, e, _⟩ := i1x₅; exact Heap.lt_size e
  have i2lt : i2 < gx₅.objs.size := by obtain ⟨_, e, _⟩ := i2x₅; exact Heap.lt_size e
  show wpAny _ _ (Builtin.SmallTypes.ownedTupleHandOut (.ref z) (.ref gx₅.objs.size) >>= _) _ _ _
  refine wpAny_bind ?_
  unfold Builtin.SmallTypes.ownedTupleHandOut
  have ezx₆ : IsZip (gx₅.push { cls := .type "tuple", data := .seq #[x, y] }) z TI TO .ellipsis := Heap.get?_push_of_some _ ezx₅
  refine wpAny_bind (wpAny_setField_rec ezx₆ (by simp) fun gx₇ ezx₇ sbx₇ => ?_)
  replace ezx₇ : IsZip gx₇ z TI TO (rawInt gx₅.objs.size) := ezx₇
  refine wpAny_setField_rec ezx₇ (by simp) fun gx₈ ezx₈ sbx₈ => ?_
  replace ezx₈ : IsZip gx₈ z TI TO (rawInt gx₅.objs.size) := ezx₈
  have upk : ∀ c o, c ≠ z → gx₅.get? c = some o → gx₈.get? c = some o := fun c o c1 e => sbx₈.extBut _ _ c1 (sbx₇.extBut _ _ c1 (Heap.get?_push_of_some _ e))
  have eTx₈ : IsPair gx₈ gx₅.objs.size x y := sbx₈.extBut _ _ (Nat.ne_of_gt zlt) (sbx₇.extBut _ _ (Nat.ne_of_gt zlt) (Heap.get?_push_size _ rfl))
  have hz8 : gx₈.objs.size = gx₅.objs.size + 1 := by rw [sbx₈.1, sbx₇.1, Heap.size_push]
  rw [esz] at ezx₈ eTx₈ hz8
  refine wpAny_pure ⟨_, rfl, ?_⟩
  show Q (.ref gx₅.objs.size) _
  rw [esz]
  exact want gx₈ ezx₈ (upk _ _ ap.TOz eTOx₅) (i1x₅.at fun o e => upk _ o ap.i1z e) (i2x₅.at fun o e => upk _ o ap.i2z e) eTx₈ hz8 fun c o c1 c2 c3 c4 e => upk c o c1 (kpx₅ c o c1 c2 c3 c4 e)

theorem zipM_next_end {z TI TO i1 i2 l1 l2 : Addr} {p1 p2 : Nat} {us ws : Array Value} {a b : Value} {Q : Fin → Shared → Prop} (calm : A.handled = none) (ap : ZipApart z TI TO i1 i2 l1 l2)
    (ez : IsZip s.heap z TI TO .none) (eTI : IsPair s.heap TI (.ref i1) (.ref i2)) (eTO : IsPair s.heap TO a b)
    (h1 : s.heap.IsListIter i1 l1 p1) (h2 : s.heap.IsTupleIter i2 l2 p2) (el1 : s.heap.IsList l1 us) (el2 : s.heap.IsTuple l2 ws) (fin : us[p1]? = none ∨ ws[p2]? = none)
    (hE : ∀ h' e, (∀ c o, c ≠ z → c ≠ TO → c ≠ i1 → c ≠ i2 → s.heap.get? c = some o → h'.get? c = some o) → (∃ o, h'.get? e = some o ∧ o.cls = .type "StopIteration") → E (.ref e) { s with heap := h' }) :
    wpAny (model prog w) A (Builtin.«zip.__next__» ⟨[.ref z], []⟩) Q E s := by
  show wpAny _ _ (field (.ref z) 2 >>= _) _ _ _
  refine wpAny_bind (wpAny_field ez rfl (x := .bool false) rfl ?_)
  show wpAny _ _ (field (.ref z) 3 >>= _) _ _ _
  refine wpAny_bind (wpAny_field ez rfl (x := .ref TI) rfl ?_)
  refine wpAny_bind (wpAny_seqItems eTI rfl ?_)
  show wpAny _ _ (Builtin.SmallTypes.ownedTupleIsFree (.ref z) >>= _) _ _ _
  refine wpAny_bind ?_
  unfold Builtin.SmallTypes.ownedTupleIsFree
  refine wpAny_bind (wpAny_field ez rfl (x := .none) rfl (wpAny_pure ?_))
  simp only [if_true]
  refine wpAny_bind (wpAny_rule ?_)
  refine wpAny_bind (wpAny_field ez rfl (x := .ref TO) rfl ?_)
  refine wpAny_bind (wpAny_setField_rec ez (by simp) fun gx₁ ezx₁ sbx₁ => ?_)
  replace ezx₁ : IsZip gx₁ z TI TO .ellipsis := ezx₁
  refine wpAny_bind ?_
  simp only [List.zipIdx_cons, List.zipIdx_nil, List.forIn_cons, List.forIn_nil]
  refine wpAny_bind (wpAny_bind (wpAny_onRaise ?_))
  show wpAny _ _ (Builtin.SmallTypes.nextOf (.ref i1) >>= _) _ _ _
  cases ex : us[p1]? with
  | none =>
    refine wpAny_bind (wpAny_nextOf_list_end calm (h1.extBut sbx₁.extBut ap.i1z) (el1.extBut sbx₁.extBut ap.l1z) ex fun gx₂ e sbx₂ he => ?_)
    obtain ⟨oe, eoe, ece⟩ := he
    have ezx₂ : IsZip gx₂ z TI TO .ellipsis := sbx₂ _ _ ap.i1z.symm ezx₁
    have nez : e ≠ z := fun x => by subst x; rw [ezx₂] at eoe; cases eoe; simp at ece
    refine wpAny_setField_rec ezx₂ (by simp) fun gx₃ _ sbx₃ => hE gx₃ e (fun c o c1 _ c3 _ x => sbx₃.extBut _ _ c1 (sbx₂ _ _ c3 (sbx₁.extBut _ _ c1 x))) ⟨oe, sbx₃.extBut _ _ nez eoe, ece⟩
  | some x =>
    have ey : ws[p2]? = none := by rcases fin with h | h; rw [ex] at h; cases h; exact h
    refine wpAny_bind (wpAny_nextOf_list_item (h1.extBut sbx₁.extBut ap.i1z) (el1.extBut sbx₁.extBut ap.l1z) ex fun gx₂ i1x₂ sbx₂ => wpAny_pure ?_)
    have eTOx₂ : IsPair gx₂ TO a b := sbx₂.extBut _ _ ap.TOi1 (sbx₁.extBut _ _ ap.TOz eTO)
    refine wpAny_bind (wpAny_seqItems eTOx₂ rfl ?_)
    refine wpAny_bind (wpAny_updateSeq_pair eTOx₂ fun gx₃ eTOx₃ sbx₃ => ?_)
    refine wpAny_bind (wpAny_letGo (wpAny_pure ?_))
    refine wpAny_bind (wpAny_bind (wpAny_onRaise ?_))
    show wpAny _ _ (Builtin.SmallTypes.nextOf (.ref i2) >>= _) _ _ _
    refine wpAny_bind (RZ.nextOf_tuple_end calm (((h2.extBut sbx₁.extBut ap.i2z).extBut sbx₂.extBut ap.i12.symm).extBut sbx₃.extBut ap.TOi2.symm)
      (((el2.extBut sbx₁.extBut ap.l2z).extBut sbx₂.extBut ap.l2i1).extBut sbx₃.extBut ap.l2TO) ey fun gx₄ e sbx₄ he => ?_)
    obtain ⟨oe, eoe, ece⟩ := he
    have ezx₄ : IsZip gx₄ z TI TO .ellipsis := sbx₄ _ _ ap.i2z.symm (sbx₃.extBut _ _ ap.TOz.symm (sbx₂.extBut _ _ ap.i1z.symm ezx₁))
    have nez : e ≠ z := fun x => by subst x; rw [ezx₄] at eoe; cases eoe; simp at ece
    refine wpAny_setField_rec ezx₄ (by simp) fun gx₅ _ sbx₅ => hE gx₅ e (fun c o c1 c2 c3 c4 x => sbx₅.extBut _ _ c1 (sbx₄ _ _ c4 (sbx₃.extBut _ _ c2 (sbx₂.extBut _ _ c3 (sbx₁.extBut _ _ c1 x))))) ⟨oe, sbx₅.extBut _ _ nez eoe, ece⟩

theorem pyNext_zipM_item {z TI TO i1 i2 l1 l2 : Addr} {p1 p2 : Nat} {us ws : Array Value} {x y a b : Value} {Q : Option Value → Shared → Prop} (ap : ZipApart z TI TO i1 i2 l1 l2)
    (ez : IsZip s.heap z TI TO .none) (eTI : IsPair s.heap TI (.ref i1) (.ref i2)) (eTO : IsPair s.heap TO a b)
    (h1 : s.heap.IsListIter i1 l1 p1) (h2 : s.heap.IsTupleIter i2 l2 p2) (el1 : s.heap.IsList l1 us) (el2 : s.heap.IsTuple l2 ws) (ex : us[p1]? = some x) (ey : ws[p2]? = some y)
    (want : ∀ h', IsZip h' z TI TO (rawInt s.heap.objs.size) → IsPair h' TO x y → h'.IsListIter i1 l1 (p1 + 1) → h'.IsTupleIter i2 l2 (p2 + 1) → IsPair h' s.heap.objs.size x y → h'.objs.size = s.heap.objs.size + 1 →
      (∀ c o, c ≠ z → c ≠ TO → c ≠ i1 → c ≠ i2 → s.heap.get? c = some o → h'.get? c = some o) → Q (some (.ref s.heap.objs.size)) { s with heap := h' }) :
    wpAny (model prog w) A (pyNext (.ref z)) Q E s := by
  have eT : s.TypeIs (.ref z) "zip" := ⟨_, ez, rfl⟩
  unfold pyNext
  exact wpAny_bind (wpAny_attempt (wpAny_callSpecial?_slot (name := Str.ofString "__next__") eT PySem.F.slot_zip_next
    (wpAny_call_entry PySem.F.slot_zip_next eT PySem.F.entry_zip_next
      (zipM_next_item ap ez eTI eTO h1 h2 el1 el2 ex ey fun h' y1 y2 y3 y4 y5 y6 y7 => wpAny_pure (want h' y1 y2 y3 y4 y5 y6 y7)) (PySem.F.args_zip_next_1 _))))

theorem pyNext_zipM_end {z TI TO i1 i2 l1 l2 : Addr} {p1 p2 : Nat} {us ws : Array Value} {a b : Value} {Q : Option Value → Shared → Prop} (calm : A.handled = none) (ap : ZipApart z TI TO i1 i2 l1 l2)
    (ez : IsZip s.heap z TI TO .none) (eTI : IsPair s.heap TI (.ref i1) (.ref i2)) (eTO : IsPair s.heap TO a b)
    (h1 : s.heap.IsListIter i1 l1 p1) (h2 : s.heap.IsTupleIter i2 l2 p2) (el1 : s.heap.IsList l1 us) (el2 : s.heap.IsTuple l2 ws) (fin : us[p1]? = none ∨ ws[p2]? = none)
    (want : ∀ h', (∀ c o, c ≠ z → c ≠ TO → c ≠ i1 → c ≠ i2 → s.heap.get? c = some o → h'.get? c = some o) → Q none { s with heap := h' }) : wpAny (model prog w) A (pyNext (.ref z)) Q E s := by
  have eT : s.TypeIs (.ref z) "zip" := ⟨_, ez, rfl⟩
  unfold pyNext
  refine wpAny_bind (wpAny_attempt (wpAny_callSpecial?_slot (name := Str.ofString "__next__") eT PySem.F.slot_zip_next
    (wpAny_call_entry PySem.F.slot_zip_next eT PySem.F.entry_zip_next (zipM_next_end calm ap ez eTI eTO h1 h2 el1 el2 fin fun h' e hk he => ?_) (PySem.F.args_zip_next_1 _))))
  obtain ⟨o, ho, hc⟩ := he
  refine wpAny_bind (wpAny_isInstance (T := "StopIteration") (b := true) ⟨o, ho, hc⟩ isSubtype_stop ?_)
  exact wpAny_pure (want _ hk)

abbrev zipMH1 (h : Heap) (l1 : Addr) : Heap := h.push { cls := .type "list_iterator", data := .fields #[.ref l1, .int 0 0] }
abbrev zipMH2 (h : Heap) (l1 l2 : Addr) : Heap := (zipMH1 h l1).push { cls := .type "tuple_iterator", data := .fields #[.ref l2, .int 0 0] }
abbrev zipMH3 (h : Heap) (l1 l2 : Addr) : Heap := (zipMH2 h l1 l2).push { cls := .type "tuple", data := .seq #[.ref h.objs.size, .ref (zipMH1 h l1).objs.size] }
abbrev zipMH4 (h : Heap) (l1 l2 : Addr) : Heap := (zipMH3 h l1 l2).push { cls := .type "tuple", data := .seq #[.none, .none] }
abbrev zipMH5 (h : Heap) (l1 l2 : Addr) : Heap := (zipMH4 h l1 l2).push { cls := .type "zip", data := .fields #[.none, .bool false, .bool false, .ref (zipMH2 h l1 l2).objs.size, .ref (zipMH3 h l1 l2).objs.size] }

theorem meets_zipM_new (l1 l2 : Addr) (us ws : Array Value) :
    Meets (Builtin.«zip.__new__» ⟨[.type "zip", .ref l1, .ref l2], []⟩) (fun _ R s => s.heap.IsList l1 us ∧ s.heap.IsTuple l2 ws ∧
      R (.ok (.ret (.ref (zipMH4 s.heap l1 l2).objs.size))) { s with heap := zipMH5 s.heap l1 l2 }) :=
  .of_wp fun prog w A R s h => by
    obtain ⟨hp, g, d, tk, os⟩ := s; obtain ⟨el1, el2, h⟩ := h
    have esub := sub_zip
    have eL1 : Heap.IsList (Shared.heap ⟨hp, g, d, tk, os⟩) l1 us := el1
    have eL2 : Heap.IsTuple (Shared.heap ⟨hp.push { cls := .type "list_iterator", data := .fields #[.ref l1, .int 0 0] }, g, d, tk, os⟩) l2 ws := Heap.IsTuple.push el2 _
    wp_walk using wpAny_pyIter_list eL1, wpAny_pyIter_tuple eL2
    exact ⟨_, rfl, h⟩

section
variable {prog : Program} {w : World} {A : Around} {E : Value → Shared → Prop} {s : Shared}

theorem call_zipM {l1 l2 : Addr} {us ws : Array Value} {Q : Value → Shared → Prop} (el1 : s.heap.IsList l1 us) (el2 : s.heap.IsTuple l2 ws)
    (h : ∀ h', IsZip h' (s.heap.objs.size + 4) (s.heap.objs.size + 2) (s.heap.objs.size + 3) .none → IsPair h' (s.heap.objs.size + 2) (.ref s.heap.objs.size) (.ref (s.heap.objs.size + 1)) →
      IsPair h' (s.heap.objs.size + 3) .none .none → h'.IsListIter s.heap.objs.size l1 0 → h'.IsTupleIter (s.heap.objs.size + 1) l2 0 → h'.objs.size = s.heap.objs.size + 5 →
      (∀ c o, s.heap.get? c = some o → h'.get? c = some o) → Q (.ref (s.heap.objs.size + 4)) { s with heap := h' }) :
    wpAny (model prog w) A (call (.type "zip") [.ref l1, .ref l2]) Q E s := by
  refine callType_new PySem.F.called_zip (by decide) (PySem.F.typeCall_zip_2 _ _) (PySem.F.newCall_zip_2 _ _) (fun obj => PySem.F.args_object_init_3 obj _ _) PySem.F.entry_zip_new
    (meets_zipM_new l1 l2 us ws) ⟨el1, el2, ?_⟩
  have q1 : (zipMH1 s.heap l1).objs.size = s.heap.objs.size + 1 := Heap.size_push ..
  have q2 : (zipMH2 s.heap l1 l2).objs.size = s.heap.objs.size + 2 := by rw [Heap.size_push, q1]
  have q3 : (zipMH3 s.heap l1 l2).objs.size = s.heap.objs.size + 3 := by rw [Heap.size_push, q2]
  have q4 : (zipMH4 s.heap l1 l2).objs.size = s.heap.objs.size + 4 := by rw [Heap.size_push, q3]
  have q5 : (zipMH5 s.heap l1 l2).objs.size = s.heap.objs.size + 5 := by rw [Heap.size_push, q4]
  have w5 : (zipMH5 s.heap l1 l2).get? (zipMH4 s.heap l1 l2).objs.size = some _ := Heap.get?_push_size _ rfl
  have w4 : (zipMH5 s.heap l1 l2).get? (zipMH3 s.heap l1 l2).objs.size = some _ := Heap.get?_push_of_some _ (Heap.get?_push_size _ rfl)
  have w3 : (zipMH5 s.heap l1 l2).get? (zipMH2 s.heap l1 l2).objs.size = some _ := Heap.get?_push_of_some _ (Heap.get?_push_of_some _ (Heap.get?_push_size _ rfl))
  have w2 : (zipMH5 s.heap l1 l2).get? (zipMH1 s.heap l1).objs.size = some _ := Heap.get?_push_of_some _ (Heap.get?_push_of_some _ (Heap.get?_push_of_some _ (Heap.get?_push_size _ rfl)))
  have w1 : (zipMH5 s.heap l1 l2).get? s.heap.objs.size = some _ := Heap.get?_push_of_some _ (Heap.get?_push_of_some _ (Heap.get?_push_of_some _ (Heap.get?_push_of_some _ (Heap.get?_push_size _ rfl))))
  show _ ∧ _
  rw [q2, q3, q4] at w5
  rw [q1, q2] at w3
  rw [q3] at w4
  rw [q1] at w2
  rw [q4]
  exact ⟨⟨_, w5, rfl⟩, h _ w5 w3 w4 ⟨_, w1, rfl, rfl⟩ ⟨_, w2, rfl, rfl⟩ q5 fun c o x =>
    Heap.get?_push_of_some _ (Heap.get?_push_of_some _ (Heap.get?_push_of_some _ (Heap.get?_push_of_some _ (Heap.get?_push_of_some _ x))))⟩
/-- the tuples at a and b as they stand at each turn, the items in fresh pairs -/
def ItzM (K : PySem.W.Frag) (a b : Addr) : It :=
  ⟨fun i H => ∃ (us ws : List V) (x y : V), SqL K H a us ∧ SqT K H b ws ∧ us[i]? = some x ∧ ws[i]? = some y,
    fun i H v H' => ∃ T x y, v = .ref T ∧ H T = none ∧ H' = upd H T (.tup [x, y]) ∧ (∀ us, SqL K H a us → us[i]? = some x) ∧ ∀ ws, SqT K H b ws → ws[i]? = some y,
    fun i H => ∃ us ws : List V, SqL K H a us ∧ SqT K H b ws ∧ (us.length ≤ i ∨ ws.length ≤ i)⟩
theorem turn_zipM {P : Program} {w : World} {K : PySem.W.Frag} {els : List Expr} {kq : Nat} {tps : Pos} {a b z TI TO i1 i2 : Addr} (ap : ZipApart z TI TO i1 i2 a b) :
    Turn P w K (.Tuple els kq tps) (ItzM K a b) [z, TI, TO, i1, i2] z (fun i h => IsZip h z TI TO .none ∧ IsPair h TI (.ref i1) (.ref i2) ∧ (∃ x y, IsPair h TO x y) ∧ h.IsListIter i1 a i ∧ h.IsTupleIter i2 b i) where
  mem := by simp
  obj := fun i h st c hc => by
    obtain ⟨ez, eTI, ⟨x, y, eTO⟩, ⟨o1, e1, _, d1⟩, ⟨o2, e2, _, d2⟩⟩ := st
    have e' : c = z ∨ c = TI ∨ c = TO ∨ c = i1 ∨ c = i2 := by simpa using hc
    rcases e' with q | q | q | q | q
    · rw [q]; exact ⟨_, ez, fun v q => nomatch q⟩
    · rw [q]; exact ⟨_, eTI, fun v q => nomatch q⟩
    · rw [q]; exact ⟨_, eTO, fun v q => nomatch q⟩
    · rw [q]; exact ⟨o1, e1, fun v q => by rw [d1] at q; cases q⟩
    · rw [q]; exact ⟨o2, e2, fun v q => by rw [d2] at q; cases q⟩
  keep := fun i h h' st k => by
    obtain ⟨ez, eTI, ⟨x, y, eTO⟩, h1, h2⟩ := st
    exact ⟨k z (by simp) _ ez, k TI (by simp) _ eTI, ⟨x, y, k TO (by simp) _ eTO⟩, h1.at fun o q => k i1 (by simp) o q, h2.at fun o q => k i2 (by simp) o q⟩
  item := by
    intro X eP ew eK hc i pins s σ H E I hf st hg
    subst eP ew eK
    obtain ⟨ez, eTI, ⟨x0, y0, eTO⟩, h1, h2⟩ := st
    obtain ⟨us, ws, x, y, qx, qy, ex, ey⟩ := hg
    obtain ⟨its, rx, p, _⟩ := I.list qx
    obtain ⟨its2, ry, p2, _⟩ := I.tuple qy
    obtain ⟨u, eu, rb⟩ := rx.get ex
    obtain ⟨u2, eu2, rb2⟩ := ry.get ey
    have zlt : z < s.heap.objs.size := Heap.lt_size ez
    refine pyNext_zipM_item ap ez eTI eTO h1 h2 p.isList p2 (x := u) (y := u2) (by simpa using eu) (by simpa using eu2) fun h' z' TO' h1' h2' eT esz hk => ?_
    refine ⟨_, rfl, PySem.wpAny_letOwnedTupleGo_zip (s := { s with heap := h' }) z' fun h'' z'' sb => ?_⟩
    have eT2 : h''.get? s.heap.objs.size = some { cls := .type "tuple", data := .seq #[u, u2] } := (sb.2 _ (Nat.ne_of_gt zlt)).trans eT
    have fresh : ObjOk X.prog X.w (upd H s.heap.objs.size (.tup [x, y])) h'' s.heap.objs.size (.tup [x, y]) :=
      ⟨by show 2 ≤ sizeLine; decide, [u, u2], .cons rb (.cons rb2 .nil), ⟨_, eT2, rfl, _, rfl⟩⟩
    have J1 : Inv X pins σ (upd H s.heap.objs.size (.tup [x, y])) { s with heap := h'' } :=
      I.turnedNew (t' := s.toks) (ch := [z, TI, TO, i1, i2]) (fun c o hb q => (sb.2 c (fun q' => hb (by simp [q']))).trans (hk c o (fun q' => hb (by simp [q'])) (fun q' => hb (by simp [q'])) (fun q' => hb (by simp [q'])) (fun q' => hb (by simp [q'])) q)) hf (Nat.le_refl _) fresh
    refine ⟨.ref s.heap.objs.size, _, J1, rfl, ⟨_, x, y, rfl, I.hok.fresh (Nat.le_refl _), rfl, fun l hl => by rw [I.list_inj hl qx]; exact ex, fun l hl => by rw [I.tuple_inj hl qy]; exact ey⟩, ⟨z'', ?_, ⟨u, u2, ?_⟩, ?_, ?_⟩, fun c cm => ?_⟩
    · exact (sb.2 _ ap.TIz).trans (hk _ _ ap.TIz ap.TITO ap.TIi1 ap.TIi2 eTI)
    · exact (sb.2 _ ap.TOz).trans TO'
    · exact h1'.at fun o q => (sb.2 _ ap.i1z).trans q
    · exact h2'.at fun o q => (sb.2 _ ap.i2z).trans q
    · have zl : c < s.heap.objs.size := by
        have e' : c = z ∨ c = TI ∨ c = TO ∨ c = i1 ∨ c = i2 := by simpa using cm
        rcases e' with q | q | q | q | q
        · rw [q]; exact zlt
        · rw [q]; exact Heap.lt_size eTI
        · rw [q]; exact Heap.lt_size eTO
        · rw [q]; obtain ⟨_, e1, _⟩ := h1; exact Heap.lt_size e1
        · rw [q]; obtain ⟨_, e2, _⟩ := h2; exact Heap.lt_size e2
      rw [upd_ne (Nat.ne_of_lt zl)]
      exact (hf c cm).1
  done := by
    intro X eP ew eK hc i pins s σ H E I hf st hg
    subst eP ew eK
    obtain ⟨ez, eTI, ⟨x0, y0, eTO⟩, h1, h2⟩ := st
    obtain ⟨us, ws, qx, qy, fin⟩ := hg
    obtain ⟨its, rx, p, _⟩ := I.list qx
    obtain ⟨its2, ry, p2, _⟩ := I.tuple qy
    have l1 := rx.length
    have l2 := ry.length
    have he : its.toArray[i]? = none ∨ its2.toArray[i]? = none := by
      rcases fin with q | q
      · exact .inl (by simp; omega)
      · exact .inr (by simp; omega)
    exact pyNext_zipM_end (I.ok.hd hc) ap ez eTI eTO h1 h2 p.isList p2 he fun h' hk => ⟨rfl, I.turnedL (t' := s.toks) (ch := [z, TI, TO, i1, i2]) (fun c o hb q =>
      hk c o (fun q' => hb (by simp [q'])) (fun q' => hb (by simp [q'])) (fun q' => hb (by simp [q'])) (fun q' => hb (by simp [q'])) q) hf⟩
  self := fun A i s Q E st h => wpAny_pyIter_zip st.1 h

end
end
section
variable {W : Wd}
def iZipM (m m2 : EM) : IM := fun env st => match m env st with
  | some (d, s1) => match m2 env s1 with
    | some (e, s2) => match walked s2 d, walked s2 e with
      | some (xs, gd), some (ys, gd2) => if (tupB d) = false ∧ (tupB e) = true then some (zipped xs ys, fun s => gd s ∧ gd2 s, s2) else none
      | _, _ => none
    | none => none
  | none => none
theorem itOk_zipM {a b : Addr} {ι0 : Lay} {H0 : Hp} {xs ys : List D} {gd g2 : Store → Prop} (h : ∀ ι H st, Gro ι0 H0 ι H → RelH W ι H st → gd st → ∃ vs, SqL W.K H a vs ∧ Reps W ι H xs vs) (k : ∀ ι H st, Gro ι0 H0 ι H → RelH W ι H st → g2 st → ∃ vs, SqT W.K H b vs ∧ Reps W ι H ys vs) : ItOk W (ItzM W.K a b) ι0 H0 (zipped xs ys) (fun s => gd s ∧ g2 s) where
  go := fun i ι H st d g r q e => by
    obtain ⟨vs, h1, h2⟩ := h ι H st g r q.1
    obtain ⟨us, k1, k2⟩ := k ι H st g r q.2
    obtain ⟨x, y, e1, e2, rfl⟩ := zipped_get e
    obtain ⟨v, h3, h4⟩ := h2.get e1
    obtain ⟨u, k3, k4⟩ := k2.get e2
    refine ⟨⟨vs, us, v, u, h1, k1, h3, k3⟩, fun z H' ⟨p, v', u', q1, q2, q3, q4, q5⟩ => ?_⟩
    subst q1 q3
    have z1 := q4 _ h1
    have z2 := q5 _ k1
    rw [h3] at z1
    rw [k3] at z2
    cases z1
    cases z2
    exact pair_laid r h4 k4 q2
  stop := fun ι H st g r q => by
    obtain ⟨vs, h1, h2⟩ := h ι H st g r q.1
    obtain ⟨us, k1, k2⟩ := k ι H st g r q.2
    refine ⟨vs, us, h1, k1, ?_⟩
    rw [← h2.length, ← k2.length]
    simp only [zipped, List.length_zipWith]
    omega
variable {X : Cx} {e e2 : Expr} {p pos tpos : Pos} {elts : List Expr} {kk : Nat} {m m2 : EM}
theorem ji_zipM (hK : X.K = W.K) (hg : Gl X "zip") (hm : X.mg "zip" = none) (ha : PE X e (T W m)) (hb : PE X e2 (T W m2))
    (hs : starEach [e, e2] X.env = (false, eval e X.env) :: starEach [e2] X.env := by rfl) (hs2 : starEach [e2] X.env = [(false, eval e2 X.env)] := by rfl) (hpl : (backTo pos (starEach [e2] X.env)).any (·.1) = false := by rfl) :
    PI X (.Tuple elts kk tpos) (.Call (.Name "zip" p) [e, e2] [] pos) (TIm W (iZipM m m2)) := by
  refine ⟨fun pins s σ H R I ⟨ι, st, env, ds, gd, st', r, n, q, k⟩ => ?_⟩
  unfold iZipM at q
  split at q
  · rename_i d s1 e1
    split at q
    · rename_i d2 s2 e2
      split at q
      · rename_i xs gd1 ys gd2 w1 w2
        split at q
        · rename_i hT
          cases q
          refine Call_ (ld_blt I hg hm PyProof.Rows.boot_zip (PyProof.Rows.callWith_type1 (thn ((ja_cons ha (ja_cons hb ja_nil hs2) hs).run pos pins s σ H _ I (TA.of r n (d := [d, d2]) (st' := st') (by unfold aCons; rw [e1]; dsimp only; rw [e2]; rfl) fun vs ι1 H1 g1 r1 p1 => ⟨ι1, rfl, g1, r1, p1⟩ : TAs W _ σ H fun vs H1 => ∃ ι1, True = True ∧ Grow ι H ι1 H1 ∧ RelH W ι1 H1 st' ∧ Reps W ι1 H1 [d, d2] vs)) fun us c1 ⟨vs, H1, J1, rr, ι1, _, g1, r1, p1⟩ => ?_) hs hpl))
          obtain ⟨v, u, rfl, hv, hu⟩ := reps2 p1
          obtain ⟨a, rfl, g0, y1⟩ := walked_ok r1 hv w1
          obtain ⟨b, rfl, g02, y2⟩ := walked_ok r1 hu w2
          have y1 := y1.resolve_left fun z => by rw [hT.1] at z; exact absurd z.1 (by decide)
          have y2 := y2.resolve_right fun z => by rw [hT.2] at z; exact absurd z.1 (by decide)
          obtain ⟨va, sa, _⟩ := y1.2 ι1 H1 st' Grow.refl.gro r1 g0
          obtain ⟨vb, sb, _⟩ := y2.2 ι1 H1 st' Grow.refl.gro r1 g02
          have us2 : us = [Value.ref a, Value.ref b] := by
            cases rr with
            | cons r' rr =>
              cases rr with
              | cons r'' rr =>
                cases rr
                cases r'
                cases r''
                rfl
          subst us2
          obtain ⟨its, rv, pa, _⟩ := J1.list (hK.symm ▸ sa)
          obtain ⟨its2, rv2, pb, _⟩ := J1.tuple (hK.symm ▸ sb)
          obtain ⟨o2, ho2, _⟩ := id pb
          have low : ∀ c, c ∈ [c1.heap.objs.size + 4, c1.heap.objs.size + 2, c1.heap.objs.size + 3, c1.heap.objs.size, c1.heap.objs.size + 1] → c1.heap.objs.size ≤ c := fun c m => by
            simp only [List.mem_cons, List.not_mem_nil, or_false] at m
            rcases m with z | z | z | z | z <;> rw [z]
            · exact Nat.le_add_right _ _
            · exact Nat.le_add_right _ _
            · exact Nat.le_add_right _ _
            · exact Nat.le_refl _
            · exact Nat.le_add_right _ _
          refine call_zipM pa.isList (show c1.heap.IsTuple b its2.toArray from pb) fun h' ez eTI eTO h1 h2 esz hk => PySem.wpAny_pyIter_zip ez ?_
          have J2 : Inv X pins σ H1 { c1 with heap := h' } := J1.kept (t' := c1.toks) hk
          have io := itOk_zipM y1.2 y2.2
          rw [← hK] at io
          exact ⟨c1.heap.objs.size + 4, [c1.heap.objs.size + 4, c1.heap.objs.size + 2, c1.heap.objs.size + 3, c1.heap.objs.size, c1.heap.objs.size + 1], _, _, H1, rfl, J2, turn_zipM (PySem.W.ktu_apart c1.heap.objs.size a b pa.lt (Heap.lt_size ho2)), ⟨ez, eTI, ⟨_, _, eTO⟩, h1, h2⟩, fun c m => J1.fpOk (low c m) (J1.hok.fresh (low c m)), k _ ι1 H1 g1 r1 io⟩
        · cases q
      · cases q
    · cases q
  · cases q
end
section
variable {env : Env} {st : Store} {QI : List D → (Store → Prop) → Store → Prop}
theorem ev_zipM {m m2 : EM} : EvI (iZipM m m2) env st QI ↔ EvE m env st fun d s1 => EvE m2 env s1 fun e s2 => ∃ xs gd ys gd2, walked s2 d = some (xs, gd) ∧ walked s2 e = some (ys, gd2) ∧ (tupB d) = false ∧ (tupB e) = true ∧ QI (zipped xs ys) (fun s => gd s ∧ gd2 s) s2 := by
  unfold EvI EvE iZipM
  constructor
  · rintro ⟨ds, gd, s, e, q⟩
    split at e
    · rename_i d s1 h
      split at e
      · rename_i d2 s2 h2
        split at e
        · rename_i xs gd1 ys gd2 w1 w2
          split at e
          · rename_i ht
            cases e
            exact ⟨_, _, h, _, _, h2, xs, _, ys, _, w1, w2, ht.1, ht.2, q⟩
          · cases e
        · cases e
      · cases e
    · cases e
  · rintro ⟨d, s1, h, e, s2, h2, xs, gd, ys, gd2, w1, w2, ht, ht2, q⟩
    exact ⟨_, _, s2, by rw [h]; simp only [h2, w1, w2, if_pos (And.intro ht ht2)], q⟩
end
/-- a comprehension within one that stands within one -/
theorem blk_in2 {Y : Cx} {s s2 : Shared} {H H2 : Hp} {sc0 sc1 sc scY : Scope} {cl cl2 : List (Str × Addr)} {C C2 : Addr} {fp fp2 : List Addr} {N : List Str} {own : List (Str × Nat)} (hN : Y.N = N) (hS : Y.env.scope = scY) (h : blkC N (relS sc1 (relS sc0 scY)) sc own = true) :
    BlkOk ((Y.blk s H sc0 (compEnvC sc0 cl C Y.env) fp).blk s2 H2 sc1 (compEnvC sc1 cl2 C2 (Y.blk s H sc0 (compEnvC sc0 cl C Y.env) fp).env) fp2).N ((Y.blk s H sc0 (compEnvC sc0 cl C Y.env) fp).blk s2 H2 sc1 (compEnvC sc1 cl2 C2 (Y.blk s H sc0 (compEnvC sc0 cl C Y.env) fp).env) fp2).env.scope sc own := by
  subst hN hS
  exact blkOk_by h
end My

namespace My
open PySem PySem.Spec PyProof.Rows L2
/-! ### properties, instances that are called, constructors with keywords -/
section
variable {X : Cx} {W : Wd} {k ar : Nat} {g : Addr} {fd : FuncData} {ps ks : List Str} {n x f m : Str} {F : FM} {am km : AM} {dvs : List V} {ds : List Value} {dds : List D} {E : XK} {o e fe : Expr} {es : List Expr} {pos p : Pos} {mo : EM} {kws : List Keyword}
theorem j_prop {q : Addr} (c : Cls X.K (W.cl n)) (hp : PropOf X.K (W.cl n) f q g) (F0 : FnOk X.prog X.w X.K X.mg X.base CX0 k g fd ps (spM W 1 F)) (hr : Room (k + 1) X.A) (hb : Binds X.K fd ps []) (hx : Passes CX0 X.nox E) (he : PE X o (T W mo)) (hab : attributeBase o f X.env (eval o X.env) = eval o X.env := by rfl) :
    PE X (.Attribute o f pos) (T W (eMeth n f 1 F [] mo aNil)) := (pe_prop (pos := pos) he c hp F0 hr hb .nil hx hab).imp fun σ H Q h => by
  obtain ⟨ι, st, env, d, st', r, q, e, kk⟩ := tMeth_of (E := E) (dvs := []) (fun _ _ => Reps.nil) h
  refine ⟨ι, st, env, d, st', r, q, e, fun v ι' H' g' r' p' => ?_⟩
  obtain ⟨a, dx, fs, h1, h2, h3, h4⟩ := kk v ι' H' g' r' p'
  subst h1
  obtain ⟨ι2, st2, env2, d2, st2', r2, q2, e2, k2⟩ := h4
  cases e2
  exact ⟨a, dx, fs, rfl, h2, k2 [] _ _ Grow.refl r2 Reps.nil⟩
/-- o(e, ..), o an instance -/
noncomputable def eCallO (n : Str) (ar : Nat) (F : FM) (mo : EM) (am : AM) : EM := fun env st => match mo env st with
  | some (x, s1) => match am env s1 with
    | some (xs, s2) => match insA s2 x with
      | some (n', _, _) => if n' = n ∧ xs.length + 1 = ar then F (x :: xs) s2 else none
      | none => none
    | none => none
  | none => none
theorem j_callO (cO : StX.CallO X.K (W.cl n) g) (F0 : FnOk X.prog X.w X.K X.mg X.base CX0 k g fd ps (spM W ar F)) (hr : Room k X.A) (hb : Binds X.K fd ps []) (hx : Passes CX0 X E) (ho : PE X fe (T W mo)) (ha : PA X (e :: es) (TAs W am))
    (ht : eval (.Call fe (e :: es) [] pos) X.env = (do callWith pos (← eval fe X.env) [] (backTo pos (starEach (e :: es) X.env)) (backToKw pos (keywordEach [] X.env))) := by rfl)
    (hs : starEach (e :: es) X.env = (false, eval e X.env) :: starEach es X.env := by rfl) (hpl : (backTo pos (starEach es X.env)).any (·.1) = false := by rfl) : PE X (.Call fe (e :: es) [] pos) (T W (eCallO n ar F mo am)) :=
  (StX.pe_callO (pos := pos) ho cO (F0.raw hb .nil) hr hx ha ht hs hpl).imp fun σ H Q ⟨ι, st, env, d, st', r, q, e, kk⟩ => by
    unfold eCallO at e
    split at e
    · rename_i y s1 e1
      split at e
      · rename_i xs s2 e2
        split at e
        · rename_i n' fs vs e3
          split at e
          · rename_i hc
            obtain ⟨rfl, hl⟩ := hc
            refine T.of r q e1 fun v ι1 H1 g1 r1 p1 => ?_
            obtain ⟨a, rfl⟩ : ∃ a, v = .ref a := by
              cases y with
              | ins m fs ds => simp only [Rep] at p1; obtain ⟨a, h, _⟩ := p1; exact ⟨a, h⟩
              | ref i => simp only [Rep] at p1; obtain ⟨a, h, _⟩ := p1; exact ⟨a, h⟩
              | _ => cases e3
            refine ⟨a, rfl, TA.of r1 (q.grow g1) e2 fun ws ι2 H2 g2 r2 p2 => ?_⟩
            obtain ⟨a', dx, us, ea, h1, h2, h3⟩ := insA_ok r2 (Rep.grow g2 _ _ p1) e3
            cases ea
            refine ⟨.inr ⟨dx, _, h1⟩, ι2, s2, y :: xs, d, st', r2, ?_, by simpa using hl, e, kk.go (g1.trans g2)⟩
            rw [List.append_nil]
            exact Reps.cons (Rep.grow g2 _ _ p1) p2
          · cases e
        · cases e
      · cases e
    · cases e
open Classical in
/-- C(e, .., k = v, ..): an instance, told as a tree -/
noncomputable def eNewN (n : Str) (ar j m : Nat) (F : FM) (g : List D → List D → List D) (am km : AM) : EM := fun env st => match am env st with
  | some (xs, s1) => match km env s1 with
    | some (zs, s2) => if xs.length = j ∧ zs.length = m ∧ (g (.ref s2.length :: xs) zs).length = ar then match F (g (.ref s2.length :: xs) zs) (s2 ++ [.ins n [] []]) with
        | some (.non, s3) => fin s2 (.ref s2.length) s3
        | _ => none
      else none
    | none => none
  | none => none
theorem j_makeN {C : Addr} {j mm : Nat} {gg : List Value → List Value → List Value} {gV : List V → List V → List V} {gD : List D → List D → List D} (eC : C = W.cl n) (M : Mk X.K C g) (F0 : FnOk X.prog X.w X.K X.mg X.base CX0 k g fd ps (spM W ar F)) (hr : Room (k + 1) X.A) (hg : Gl X x) (hm : X.mg x = some (.ref C)) (hb : KBn X.K fd ps (j + 1) ks gg gV)
    (hgD : ∀ ι H (xs zs : List D) (vs us : List V), Reps W ι H xs vs → Reps W ι H zs us → Reps W ι H (gD xs zs) (gV vs us)) (hx : Passes CX0 X E)
    (ha : PA X (e :: es) (TAs W am)) (hkw : PK X kws (TAs W km)) (hall : (backToKw pos (keywordEach kws X.env)).all (·.1.isSome) = true := by rfl) (hks : (backToKw pos (keywordEach kws X.env)).filterMap (·.1) = ks := by rfl)
    (hdb : (x == ("__debug__" : Str)) = false := by decide) (he : starEach (e :: es) X.env = (false, eval e X.env) :: starEach es X.env := by rfl)
    (hpl : ((backTo pos (starEach (e :: es) X.env)).any (·.1) || (backToKw pos (keywordEach kws X.env)).any (·.1.isNone)) = false := by rfl) (hmk : ks.length = mm := by rfl) :
    PE X (.Call (.Name x p) (e :: es) kws pos) (T W (eNewN n ar j mm F gD am km)) := hmk ▸ (pe_makeK M F0 hr hg hm hb hx ha hkw hall hks hdb he hpl).imp fun σ H Q ⟨ι, st, env, d, st', r, q, e, kk⟩ => by
  unfold eNewN at e
  split at e
  · rename_i xs s1 e1
    split at e
    · rename_i zs s2 e2
      split at e
      · rename_i hl
        split at e
        · rename_i s3 e3
          refine TA.of r q e1 fun vs ι1 H1 g1 r1 p1 => TA.of r1 (q.grow g1) e2 fun us ι2 H2 g2 r2 p2 => ⟨by rw [← p1.length]; exact hl.1, by rw [← p2.length]; exact hl.2.1, fun y dx hy hdx hne => ?_⟩
          subst eC
          obtain ⟨g3, r3⟩ := made_ok (n := n) r2 hy hdx hne
          have hy2 : Rep W (ι2.add y) (upd (upd H2 dx (.own y)) y (.ins (W.cl n) dx [])) (.ref s2.length) (.ref y) := by
            simp only [Rep]
            exact ⟨y, rfl, by rw [← r2.len]; show (ι2.c ++ [y])[_]? = _; simp⟩
          refine ⟨_, _, gD (.ref s2.length :: xs) zs, .non, s3, r3, hgD _ _ _ _ _ _ (Reps.cons hy2 (Reps.grow g3 _ _ (Reps.grow g2 _ _ p1))) (Reps.grow g3 _ _ p2), hl.2.2, e3, fun v ι3 H3 g4 r4 p4 => ⟨rep_non p4, ?_⟩⟩
          exact fin_ok r2 (kk.go (g1.trans g2)) e (g3.trans g4) r4 (Rep.grow g4 _ _ hy2)
        · cases e
      · cases e
    · cases e
  · cases e
end
section
variable {env : Env} {st : Store} {Q : D → Store → Prop}
theorem ev_callO {n : Str} {ar : Nat} {F : FM} {mo : EM} {am : AM} : EvE (eCallO n ar F mo am) env st Q ↔ EvE mo env st fun x s1 => EvA am env s1 fun xs s2 => ∃ fs vs, insA s2 x = some (n, fs, vs) ∧ xs.length + 1 = ar ∧ EvF F (x :: xs) s2 Q := by
  unfold EvE EvA EvF eCallO
  constructor
  · rintro ⟨d, s, e, q⟩
    split at e
    · rename_i x s1 h
      split at e
      · rename_i xs s2 h2
        split at e
        · rename_i n' fs vs h3
          split at e
          · rename_i hc
            obtain ⟨rfl, hl⟩ := hc
            exact ⟨_, _, h, _, _, h2, fs, vs, h3, hl, _, _, e, q⟩
          · cases e
        · cases e
      · cases e
    · cases e
  · rintro ⟨x, s1, h, xs, s2, h2, fs, vs, h3, hl, d, s, e, q⟩
    exact ⟨d, s, by rw [h]; simp only [h2, h3]; rw [if_pos ⟨trivial, hl⟩]; exact e, q⟩
theorem ev_newN {n : Str} {ar j m : Nat} {F : FM} {g : List D → List D → List D} {am km : AM} : EvE (eNewN n ar j m F g am km) env st Q ↔ EvA am env st fun xs s1 => EvA km env s1 fun zs s2 => (xs.length = j ∧ zs.length = m ∧ (g (.ref s2.length :: xs) zs).length = ar) ∧ EvF F (g (.ref s2.length :: xs) zs) (s2 ++ [.ins n [] []]) fun d s3 => d = .non ∧ EvF (fun _ s => fin s2 (.ref s2.length) s) [] s3 Q := by
  unfold EvE EvA EvF eNewN
  constructor
  · rintro ⟨d, s, e, q⟩
    split at e
    · rename_i xs s1 h
      split at e
      · rename_i zs s2 h2
        split at e
        · rename_i hl
          split at e
          · rename_i s3 h3
            exact ⟨_, _, h, _, _, h2, hl, _, _, h3, rfl, _, _, e, q⟩
          · cases e
        · cases e
      · cases e
    · cases e
  · rintro ⟨xs, s1, h, zs, s2, h2, hl, d, s3, h3, rfl, d2, s, e, q⟩
    exact ⟨d2, s, by rw [h]; simp only [h2, h3]; rw [if_pos hl]; exact e, q⟩
end
/-! ### facts about classes -/
structure MkFK (K : PySem.W.Frag) (C : Addr) (qual : Str) (st : Stmt) (ps : List Str) (kws : List (Str × V)) : Prop where
  ex : ∃ (f : Addr) (fd : FuncData), FunD K "__init__" qual (defArgs st) (defBody st) (defScope st) [] kws f fd ∧ (∃ ds, Vals (kws.map (·.2)) ds ∧ Binds K fd ps ds) ∧ Mk K C f
structure PrF (K : PySem.W.Frag) (C : Addr) (m qual : Str) (st : Stmt) (ps : List Str) : Prop where
  ex : ∃ (f : Addr) (fd : FuncData) (q : Addr), Fun K m qual st f fd ∧ Binds K fd ps [] ∧ PropOf K C m q f
structure CaF (K : PySem.W.Frag) (C : Addr) (qual : Str) (st : Stmt) (ps : List Str) : Prop where
  ex : ∃ (f : Addr) (fd : FuncData), Fun K "__call__" qual st f fd ∧ Binds K fd ps [] ∧ StX.CallO K C f
/-- one of some values, as a list -/
def pick {α : Type} (xs : List α) (i : Nat) : List α := xs[i]?.toList
theorem vals_pick {zs : List V} {ws : List Value} (i : Nat) (h : Vals zs ws) : Vals (pick zs i) (pick ws i) := by
  unfold pick
  cases e : zs[i]? with
  | none =>
    have : ws[i]? = none := by
      rw [List.getElem?_eq_none_iff] at e ⊢
      rw [← h.length]; exact e
    rw [this]; exact .nil
  | some z =>
    obtain ⟨u, hu, ru⟩ := h.get e
    rw [hu]; exact .cons ru .nil
theorem reps_pick {W : Wd} {ι : Lay} {H : Hp} {zs : List D} {us : List V} (i : Nat) (h : Reps W ι H zs us) : Reps W ι H (pick zs i) (pick us i) := by
  unfold pick
  cases e : zs[i]? with
  | none =>
    have : us[i]? = none := by
      rw [List.getElem?_eq_none_iff] at e ⊢
      rw [← h.length]; exact e
    rw [this]; exact Reps.nil
  | some z =>
    obtain ⟨u, hu, ru⟩ := h.get e
    rw [hu]; exact Reps.cons ru Reps.nil
section
variable {P : Program} {w : World} {K : PySem.W.Frag} {mg : Str → Option Value} {base : Heap} {W : Wd}
theorem jdKD {x qual : Str} {params : Arguments} {stmts : List Stmt} {scope : Scope} {dvs : List V} {kws : List (Str × V)} {f : Addr} {fd : FuncData} {N ps : List Str} {k : Nat} {body : SM} (F : FunD K x qual params stmts scope dvs kws f fd) (S : FnScope N ps scope)
    (h : ∀ (cdv : Value) (A : Around) (out : List PySem.Env) (s : Shared) (H : Hp) (E : XK), Room k (A.deeper (envOfC qual scope s.heap.objs.size f cdv)) → PSs (cxOf CX0 P w K mg base N qual scope f cdv A out s H E).nox stmts (TSt W body)) :
    FnOk P w K mg base CX0 (k + 1) f fd ps (spM W ps.length (mkK N.length body)) :=
  F.ok S (fun vs H Q E h => spM_len h) fun cdv A out s H vs Q E hr q => ⟨_, (h cdv A out s H E hr).nox, mkK_ok q⟩
end
theorem pick0 {α : Type} {a : α} {l : List α} : pick (a :: l) 0 = [a] := rfl
theorem pick1 {α : Type} {a b : α} {l : List α} : pick (a :: b :: l) 1 = [b] := rfl
theorem pick2 {α : Type} {a b c : α} {l : List α} : pick (a :: b :: c :: l) 2 = [c] := rfl
end My

namespace My
open PySem PySem.Spec PyProof.Rows L2
open C8 (InsC call_isC pe_gc)
/-! ### == by an own __eq__, isinstance of an own class -/
theorem kit_self {K : PySem.W.Frag} {C : Addr} : PySem.W.kitOne K (.ref C) (.ref C) = some true := by
  unfold PySem.W.kitOne
  have e : ((Value.ref C == Value.ref C) : Bool) = true := beq_iff_eq.mpr rfl
  rw [if_pos e]
/-- isinstance(x, C), x an instance of C -/
def fIsC (n : Str) : FM := ro fun ds st => match ds with
  | [d, .cls m] => match insA st d with
    | some (n', _, _) => if n' = n ∧ m = n then some (.bl true) else none
    | none => none
  | _ => none
section
variable {X : Cx} {W : Wd} {n : Str} {a b : Expr} {ma mb : EM} {pos : Pos}
theorem jc_isC (c : InsC X.K (W.cl n)) : CallR X (.builtin "isinstance") (MA W (fIsC n)) := by
  intro pins s σ H xs us Q I rx ⟨ι, st, ds, d, st', r, h, e, k⟩
  replace e := ro_ok e
  obtain ⟨e, rfl⟩ := e
  split at e
  · rename_i x m
    obtain ⟨v, u, rfl, hv, hu⟩ := reps2 h
    have hu2 : u = .ref (W.cl m) := by simpa only [Rep] using hu
    subst hu2
    split at e
    · rename_i n' fs vs q
      split at e
      · rename_i hc
        obtain ⟨rfl, rfl⟩ := hc
        cases e
        obtain ⟨p, dx, ws, rfl, h1, _, _⟩ := insA_ok r hv q
        exact call_isC c pins s σ H _ us Q I rx ⟨p, dx, _, rfl, h1, k.now r bl_rep⟩
      · cases e
    · cases e
  · cases e
theorem j_cls {x : Str} {p : Pos} (hg : Gl X x) {C : Addr} (hm : X.mg x = some (.ref C)) (hC : C = W.cl n) (hd : (x == ("__debug__" : Str)) = false := by decide) : PE X (.Name x p) (T W (eC (.cls n))) :=
  tC_of (v := .ref C) (fun ι H => by simp only [Rep]; rw [hC]) (pe_gc hg ⟨_, hm, rfl⟩ hd)
/-- a == b, both instances of a class with its own ==: its call -/
noncomputable def eEqO (n : Str) (F : FM) (ma mb : EM) : EM := fun env st => match ma env st with
  | some (x, s1) => match mb env s1 with
    | some (y, s2) => match insA s2 x, insA s2 y with
      | some (n1, _, _), some (n2, _, _) => if n1 = n ∧ n2 = n then (match F [x, y] s2 with
          | some (.bl c, s3) => some (.bl c, s3)
          | _ => none) else none
      | _, _ => none
    | none => none
  | none => none
/-- what the own == is asked -/
def rEqO (W : Wd) (n : Str) (F : FM) : R2 := fun x y H Q => ∃ ι st a b c st', RelH W ι H st ∧ Rep W ι H a x ∧ Rep W ι H b y ∧ (∃ fs vs, insA st a = some (n, fs, vs)) ∧ (∃ fs vs, insA st b = some (n, fs, vs)) ∧ F [a, b] st = some (.bl c, st') ∧ OkE W ι H (.bl c) st' Q
theorem op_eqO {CX : CXT} {f : Addr} {fd : FuncData} {ps : List Str} {F : FM} {E : XK} {k : Nat} (F0 : FnOk X.prog X.w X.K X.mg X.base CX k f fd ps (spM W 2 F)) (hM : Meth X.K (W.cl n) "__eq__" f) (hr : Room k X.A) (hb : Binds X.K fd ps []) (hx : Passes CX X E) : OpR X (compareOp .Eq) (rEqO W n F) := by
  intro pins s σ H x y v u Q I rx ry ⟨ι, st, a, b, c, st', r, pa, pb, ⟨fs, vs, ia⟩, ⟨gs, us, ib⟩, e, ok⟩
  show wpAny (model X.prog X.w) X.A (richCompare .Eq v u) (EP X pins σ Q) X.xe s
  obtain ⟨a', dx, vs', rfl, ha, _, _⟩ := insA_ok r pa ia
  obtain ⟨b', dy, us', rfl, hb', _, _⟩ := insA_ok r pb ib
  cases rx
  cases ry
  obtain ⟨mA, J, _⟩ := ins_get I.hok ha
  obtain ⟨mB, J', _⟩ := ins_get I.hok hb'
  obtain ⟨od, J, _⟩ := J.look
  obtain ⟨od', J', _⟩ := J'.look
  obtain ⟨m, hF⟩ := I.fr
  refine PySem.W.cmp_K (op := .Eq) (tb := .ref (W.cl n)) hr.units0 hF I.ok.mod.kin J J'.type (by simp [PySem.W.notFirst]) hM.at_ hM.fn ?_
  have hsp : spM W 2 F [.ref a', .ref b'] H (fun v H' => (∃ z, v = .bl z) ∧ Q v H') E := ⟨ι, st, [a, b], .bl c, st', r, Reps.cons pa (Reps.cons pb Reps.nil), rfl, e, fun v ι' H' g r' p' => ⟨⟨c, by simpa only [Rep] using p'⟩, ok v ι' H' g r' p'⟩⟩
  have e0 : Env0 X.prog X.w X.K X.mg X.base X.A X.stack s H := I.env0
  have hl := F0.len _ _ _ _ hsp
  have r2 : Vals [V.ref a', V.ref b'] [Value.ref a', Value.ref b'] := .cons rfl (.cons rfl .nil)
  refine wpAny_call (codeAny_mono (F0.run X.A X.stack s H ⟨[.ref a', .ref b'], []⟩ [.ref a', .ref b'] [.ref a', .ref b'] _ E hr e0 (by
    have := hb s [.ref a', .ref b'] I.kIn (by simpa using hl)
    simpa using this) r2 hsp) fun rr s' hq => ?_)
  cases rr with
  | error e => exact hx pins σ H s e s' I hq
  | ok fl =>
    cases fl with
    | ret w =>
      obtain ⟨z, H', I', rz, ⟨z2, ez⟩, qq⟩ := I.after hq
      subst ez
      cases rz
      exact ⟨.bl z2, H', I', rfl, qq⟩
    | next => exact False.elim hq
    | brk => exact False.elim hq
    | cont => exact False.elim hq
theorem tEqO_of {F : FM} {σ : L2.St} {H : Hp} {Q : VK} (h : T W (eEqO n F ma mb) σ H Q) : tOp (rEqO W n F) (T W ma) (T W mb) σ H Q := by
  obtain ⟨ι, st, env, d, st', r, q, e, k⟩ := h
  unfold eEqO at e
  split at e
  · rename_i x s1 e1
    split at e
    · rename_i y s2 e2
      split at e
      · rename_i n1 fs vs n2 gs us i1 i2
        split at e
        · rename_i hn
          obtain ⟨rfl, rfl⟩ := hn
          split at e
          · rename_i c s3 e3
            cases e
            exact T.of r q e1 fun v ι1 H1 g1 r1 p1 => T.of r1 (q.grow g1) e2 fun u ι2 H2 g2 r2 p2 => ⟨ι2, _, x, y, c, _, r2, Rep.grow g2 _ _ p1, p2, ⟨_, _, i1⟩, ⟨_, _, i2⟩, e3, k.go (g1.trans g2)⟩
          · cases e
        · cases e
      · cases e
    · cases e
  · cases e
theorem j_eqO {f : Addr} {fd : FuncData} {ps : List Str} {F : FM} {E : XK} {k : Nat} (F0 : FnOk X.prog X.w X.K X.mg X.base CX0 k f fd ps (spM W 2 F)) (hM : Meth X.K (W.cl n) "__eq__" f) (hr : Room k X.A) (hb : Binds X.K fd ps []) (hx : Passes CX0 X E) (ha : PE X a (T W ma)) (hb2 : PE X b (T W mb)) (hm : behindInMarks .Eq b = false) : PE X (.Compare a [.Eq] [b] pos) (T W (eEqO n F ma mb)) :=
  (pe_cmpR (op_eqO F0 hM hr hb hx) ha hb2 hm).imp fun _ _ _ => tEqO_of
theorem jt_eqO {f : Addr} {fd : FuncData} {ps : List Str} {F : FM} {E : XK} {k : Nat} (F0 : FnOk X.prog X.w X.K X.mg X.base CX0 k f fd ps (spM W 2 F)) (hM : Meth X.K (W.cl n) "__eq__" f) (hr : Room k X.A) (hb : Binds X.K fd ps []) (hx : Passes CX0 X E) (ha : PE X a (T W ma)) (hb2 : PE X b (T W mb)) (hm : behindInMarks .Eq b = false) : PT X (.Compare a [.Eq] [b] pos) (TB W (bE (eEqO n F ma mb))) :=
  (pt_cmpR (op_eqO F0 hM hr hb hx) ha hb2 hm).imp fun σ H Q h => tEqO_of (TB_bE h)
end
section
variable {env : Env} {st : Store} {Q : D → Store → Prop}
theorem ev_isC {n : Str} {d : D} {fs : List Str} {vs : List D} (h : insA st d = some (n, fs, vs)) : EvF (fIsC n) [d, .cls n] st Q ↔ Q (.bl true) st := evF_some (by simp only [fIsC, ro, h, and_self, if_true, Option.map_some])
theorem ev_eqO {n : Str} {F : FM} {ma mb : EM} : EvE (eEqO n F ma mb) env st Q ↔ EvE ma env st fun x s1 => EvE mb env s1 fun y s2 => ∃ fs vs, insA s2 x = some (n, fs, vs) ∧ ∃ gs us, insA s2 y = some (n, gs, us) ∧ EvF F [x, y] s2 fun z s3 => ∃ c, z = .bl c ∧ Q (.bl c) s3 := by
  unfold EvE EvF eEqO
  constructor
  · rintro ⟨d, s, e, q⟩
    split at e
    · rename_i x s1 h
      split at e
      · rename_i y s2 h2
        split at e
        · rename_i n1 fs vs n2 gs us i1 i2
          split at e
          · rename_i hn
            obtain ⟨rfl, rfl⟩ := hn
            split at e
            · rename_i c s3 e3
              cases e
              exact ⟨_, _, h, _, _, h2, fs, vs, i1, gs, us, i2, _, _, e3, c, rfl, q⟩
            · cases e
          · cases e
        · cases e
      · cases e
    · cases e
  · rintro ⟨x, s1, h, y, s2, h2, fs, vs, i1, gs, us, i2, z, s3, e3, c, rfl, q⟩
    exact ⟨.bl c, s3, by rw [h]; simp only [h2, i1, i2, e3, and_self, if_true], q⟩
end
end My

namespace My
open PySem PySem.Spec PyProof.Rows L2
/-! ### starred displays, min(xs, key=len) -/
def aStar (m : EM) (t : AM) : AM := fun env st => match m env st with
  | some (x, s1) => match seqA s1 x with
    | some xs => match t env s1 with
      | some (ys, s2) => some (xs ++ ys, s2)
      | none => none
    | none => none
  | none => none
section
variable {X : Cx} {W : Wd} {e : Expr} {es : List Expr} {p : Pos} {m : EM} {mr : AM}
theorem ja_star (hK : X.K = W.K) (he : PE X e (T W m)) (hr : PA X es (TAs W mr)) (hs : starEach (.Starred e p :: es) X.env = (true, eval e X.env) :: starEach es X.env := by rfl) : PA X (.Starred e p :: es) (TAs W (aStar m mr)) :=
  (StX.pa_star he hr hs).imp fun σ H Q ⟨ι, st, env, d, st', r, n, eq, k⟩ => by
    unfold aStar at eq
    split at eq
    · rename_i x s1 e1
      split at eq
      · rename_i xs q
        split at eq
        · rename_i ys s2 e2
          cases eq
          refine T.of r n e1 fun v ι1 H1 g1 r1 p1 => ?_
          obtain ⟨a, vs, rfl, hq, rep⟩ := seqA_ok r1 p1 q
          refine ⟨a, vs, rfl, ?_, TA.of r1 (n.grow g1) e2 fun us ι2 H2 g2 r2 p2 => k _ _ _ (g1.trans g2) r2 ((Reps.grow g2 _ _ rep).append p2)⟩
          rw [hK]
          exact hq.symm
        · cases eq
      · cases eq
    · cases eq
end
section
variable {env : Env} {st : Store}
theorem ev_star {m : EM} {t : AM} {QA : List D → Store → Prop} : EvA (aStar m t) env st QA ↔ EvE m env st fun x s1 => ∃ xs, seqA s1 x = some xs ∧ EvA t env s1 fun ys s2 => QA (xs ++ ys) s2 := by
  unfold EvE EvA aStar
  constructor
  · rintro ⟨d, s, e, q⟩
    split at e
    · rename_i x s1 h
      split at e
      · rename_i xs h2
        split at e
        · rename_i ys s2 h3
          cases e
          exact ⟨_, _, h, xs, h2, _, _, h3, q⟩
        · cases e
      · cases e
    · cases e
  · rintro ⟨x, s1, h, xs, h2, ys, s2, h3, q⟩
    exact ⟨_, _, by rw [h]; simp only [h2, h3], q⟩
end
theorem vals_back {xs : List V} {its : List Value} (r : Vals xs its) {i : Nat} {v : Value} (h : its[i]? = some v) : ∃ x, xs[i]? = some x ∧ RelV x v := by
  have hi : i < its.length := (List.getElem?_eq_some_iff.mp h).1
  have hi2 : i < xs.length := by rw [r.length]; exact hi
  have e : xs[i]? = some xs[i] := List.getElem?_eq_getElem hi2
  obtain ⟨u, hu, ru⟩ := r.get e
  rw [h] at hu
  cases hu
  exact ⟨_, e, ru⟩
/-! #### min by length -/
def lensOf (st : Store) : List D → Option (List Nat)
  | [] => some []
  | d :: ds => match seqA st d with
    | some xs => (lensOf st ds).map (xs.length :: ·)
    | none => none
def btL (ks : List Nat) (i j : Nat) : Bool := decide (((ks.getD i 0 : Nat) : Int) < ((ks.getD j 0 : Nat) : Int))
def fMinLen : FM := ro fun ds st => match ds with
  | [d] => match seqL st d with
    | some xs => match lensOf st xs with
      | some ks => if xs = [] then none else xs[argBest (btL ks) (xs.length - 1)]?
      | none => none
    | none => none
  | _ => none
section
variable {X : Cx} {pins : List (Addr × Obj)} {σ : L2.St} {H : Hp} {s : Shared}
theorem kept_moved {s s1 s2 : Shared} {S : Addr} {wr : List Addr} (h : ∃ h' tk, s1 = { s with heap := h', toks := tk } ∧ ∀ b o, s.heap.get? b = some o → h'.get? b = some o) (hw : ∀ b ∈ S :: wr, s.heap.objs.size ≤ b) (m : Moved (S :: wr) (fun a b => b = a) s1 s2) : ∃ h' tk, s2 = { s with heap := h', toks := tk } ∧ ∀ b o, s.heap.get? b = some o → h'.get? b = some o := by
  obtain ⟨h1, tk, rfl, hk⟩ := h
  refine ⟨s2.heap, s2.toks, ?_, fun b o e => m.heap b o (fun hb => absurd (Heap.lt_size e) (Nat.not_lt.mpr (hw b hb))) (hk b o e)⟩
  obtain ⟨hp, g, d, t, os⟩ := s2
  have e1 : g = s.gens := m.gens
  have e2 : d = s.drawn := m.drawn
  have e3 : os = s.os := m.os
  subst e1
  subst e2
  subst e3
  rfl
theorem min_len (I : Inv X pins σ H s) (hc : X.calm = true) {l : Addr} {xs : List V} (hl : SqL X.K H l xs) (hn : xs ≠ []) {ks : List Nat} (hx : ∀ (i : Nat) x, xs[i]? = some x → ∃ p ys, x = V.ref p ∧ (SqL X.K H p ys ∨ SqT X.K H p ys) ∧ ks.getD i 0 = ys.length) {Q : VK} (q : ∀ x, xs[argBest (btL ks) (xs.length - 1)]? = some x → Q x H) :
    wpAny (model X.prog X.w) X.A (call (.builtin "min") [.ref l] [("key", .builtin "len")]) (EP X pins σ Q) X.xe s := by
  obtain ⟨its, r, pl, hz⟩ := I.list hl
  have hlen := r.length
  have hpos : 0 < xs.length := List.length_pos_iff.mpr hn
  have hsz : its.toArray.size = xs.length := by rw [List.size_toArray]; exact hlen.symm
  refine call_min_walkKB (PySem.W.iter_listW (A := X.A.in1) (I.ok.hd hc) pl.isList fun s₂ e W st hfp hw hk => ?_)
  have hs2 : s₂.heap.objs.size = s.heap.objs.size + 1 := by rw [e]; exact Heap.size_push ..
  refine ⟨_, _, _, _, _, _, _, (fun s1 => ∃ h' tk, s1 = { s with heap := h', toks := tk } ∧ ∀ b o, s.heap.get? b = some o → h'.get? b = some o), (fun i k _ => ∃ t, k = Value.int ((ks.getD i 0 : Nat) : Int) t), btL ks, rfl, W, st, hfp, by omega, ?_, ?_, ?_⟩
  · refine ⟨fun s1 s2 h m => kept_moved h (fun b hb => ?_) m, fun i k s1 s2 h _ => h, ?_, ?_⟩
    · rcases List.mem_cons.mp hb with rfl | hb
      · omega
      · rw [List.mem_singleton.mp hb]; exact Nat.le_refl _
    · intro i v s1 o Q' E' hi hv hJ hS ho hQ'
      obtain ⟨h', tk, rfl, hk'⟩ := hJ
      have I1 : Inv X pins σ H { s with heap := h', toks := tk } := I.kept hk'
      have hv2 : its[i]? = some v := by simpa using hv
      obtain ⟨x, hxi, rx⟩ := vals_back r hv2
      obtain ⟨p, ys, rfl, hq, ek⟩ := hx i x hxi
      obtain rfl : v = Value.ref p := rx
      have ln := line63
      rcases hq with hq | hq
      · obtain ⟨it2, r2, pl2, z2⟩ := I1.list hq
        have l2 := r2.length
        refine Calls.call_len_list pl2.isList (by simp only [List.size_toArray] <;> omega) (hQ' _ _ ⟨h', _, rfl, hk'⟩ hS ho ⟨_, by rw [List.size_toArray, ek, l2]⟩ fun j k' hj => hj)
      · obtain ⟨it2, r2, pl2, z2⟩ := I1.tuple hq
        have l2 := r2.length
        refine len_tuple pl2 (by simp only [List.size_toArray] <;> omega) (hQ' _ _ ⟨h', _, rfl, hk'⟩ hS ho ⟨_, by rw [List.size_toArray, ek, l2]⟩ fun j k' hj => hj)
    · intro i j ki kj s1 Q' E' _ hi hj hQ'
      obtain ⟨t, rfl⟩ := hi
      obtain ⟨u, rfl⟩ := hj
      exact richCompare_gives (op := .Lt) (typeIs_int s1 _ t) (typeIs_int s1 _ u) F.slot_int_lt F.entry_int_lt (F.args_int_lt_2 _ _) (gives_int_lt _ _ t u) (fun x => nomatch x) hQ'
  · rw [e]
    exact ⟨_, s.toks, rfl, fun b o eo => Heap.get?_push_of_some _ eo⟩
  · intro v s' hP hJ
    obtain ⟨h', tk, rfl, hk'⟩ := hJ
    rw [hsz] at hP
    have hv2 : its[argBest (btL ks) (xs.length - 1)]? = some v := by simpa using hP
    obtain ⟨x, hxi, rx⟩ := vals_back r hv2
    exact ⟨x, H, I.kept hk', rx, q x hxi⟩
end
theorem lensOf_at {W : Wd} {ι : Lay} {H : Hp} {st : Store} (r : RelH W ι H st) : ∀ {ds : List D} {ks : List Nat} {vs : List V}, lensOf st ds = some ks → Reps W ι H ds vs → ∀ (i : Nat) x, vs[i]? = some x → ∃ p ys, x = V.ref p ∧ (SqL W.K H p ys ∨ SqT W.K H p ys) ∧ ks.getD i 0 = ys.length
  | [], ks, vs, _, h, i, x, hx => by
    rw [h.nil_of] at hx
    simp at hx
  | d :: ds, ks, vs, e, h, i, x, hx => by
    unfold lensOf at e
    split at e
    · rename_i xs q
      rw [Option.map_eq_some_iff] at e
      obtain ⟨k2, e2, rfl⟩ := e
      obtain ⟨v, us, rfl, hv, hus⟩ := h
      cases i with
      | zero =>
        cases hx
        obtain ⟨a, ys, rfl, hq, rep⟩ := seqA_ok r hv q
        exact ⟨a, ys, rfl, hq, by simpa using rep.length⟩
      | succ i =>
        have := lensOf_at r e2 hus i x (by simpa using hx)
        simpa using this
    · cases e
section
variable {X : Cx} {W : Wd} {e : Expr} {m : EM} {p p2 kpos pos : Pos}
theorem j_minLen (hK : X.K = W.K) (hc : X.calm = true) (hg : Gl X "min") (hm : X.mg "min" = none) (hg2 : Gl X "len") (hm2 : X.mg "len" = none) (he : PE X e (T W m)) (hv : bootBuiltins "min" = some (.builtin "min") := by decide +kernel) (hv2 : bootBuiltins "len" = some (.builtin "len") := by decide +kernel)
    (hs1 : starEach [e] X.env = (false, eval e X.env) :: starEach [] X.env := by rfl) (he1 : backTo pos (starEach [e] X.env) = (false, eval e X.env) :: backTo pos (starEach [] X.env) := by rfl) (hpl : (backTo pos (starEach [e] X.env)).any (·.1) = false := by rfl) :
    PE X (.Call (.Name "min" p) [e] [⟨some "key", .Name "len" p2, kpos⟩] pos) (T W (eCall fMinLen (aCons m aNil))) := by
  refine ⟨fun pins s σ H Q I ⟨ι, st, env, d, st', r, n, eq, k⟩ => ?_⟩
  unfold eCall at eq
  split at eq
  · rename_i as s1 e1
    refine wpAny_Call_Name_kw (ld_blt I hg hm hv ?_)
    refine PyProof.Rows.callWith_kw (thn ((ja_cons he ja_nil hs1).run pos pins s σ H _ I (TA.of r n e1 fun vs ι1 H1 g1 r1 p1 => (show (fun (vs : List V) (H1 : Hp) => ∃ ι1, Grow ι H ι1 H1 ∧ RelH W ι1 H1 s1 ∧ Reps W ι1 H1 as vs) vs H1 from ⟨ι1, g1, r1, p1⟩))) fun us s2 ⟨vs, H1, I1, rv, ι1, g1, r1, p1⟩ => ?_) he1 hpl rfl rfl
    show wpAny _ _ (evalAll ((do let v ← eval (.Name "len" p2) X.env; standAt pos; pure v) :: [])) _ _ s2
    refine wpAny_evalAll_cons (wpAny_bind (ld_blt I1 hg2 hm2 hv2 (wpAny_bind (wpAny_standAt (wpAny_pure (wpAny_evalAll_nil ?_))))))
    show wpAny _ _ (call (.builtin "min") us [("key", .builtin "len")]) _ _ _
    replace eq := ro_ok eq
    obtain ⟨eq, rfl⟩ := eq
    split at eq
    · rename_i x
      obtain ⟨v, rfl, hv3⟩ := reps1 p1
      split at eq
      · rename_i ys q
        split at eq
        · rename_i ks q2
          split at eq
          · cases eq
          · rename_i hne
            obtain ⟨a, ws, rfl, hl, rep⟩ := seqL_ok r1 hv3 q
            rw [Vals.ref1 rv]
            have hle := rep.length
            have hx := lensOf_at r1 q2 rep
            rw [← hK] at hx
            refine min_len I1 hc (.inl (.inl hl)) (fun z => hne (by rw [z] at hle; exact List.length_eq_zero_iff.mp hle)) hx fun y hy => ?_
            rw [← hle] at hy
            obtain ⟨d2, hd2, rd2⟩ := rep.get' hy
            rw [eq] at hd2
            cases hd2
            exact k _ _ _ g1 r1 rd2
        · cases eq
      · cases eq
    · cases eq
  · cases eq
end
theorem ev_minLen {xs : List D} {ks : List Nat} {d : D} {st : Store} {Q : D → Store → Prop} (h1 : lensOf st xs = some ks) (h2 : xs ≠ []) (h3 : xs[argBest (btL ks) (xs.length - 1)]? = some d) : EvF fMinLen [.lst xs] st Q ↔ Q d st := evF_some (by simp only [fMinLen, ro, seqL, h1, if_neg h2, h3, Option.map_some])
end My

namespace My
open PySem PySem.Spec PyProof.Rows L2
/-! ### tuples that are known to the object: displays, tuple(list), their method count -/
def eTupF (m : AM) : EM := fun env st => match m env st with
  | some (xs, s1) => if xs.length ≤ sizeLine then some (.tpf xs, s1) else none
  | none => none
def fTupleF : FM := fun ds st => match ds with
  | [d] => match seqL st d with
    | some xs => some (.tpf xs, st)
    | none => none
  | _ => none
def mCountF : MM := fun o as st => match o, as with
  | .tpf ys, [y] => match sc y, scs ys with
    | some x, some us => some (.int (cntV us x), st)
    | _, _ => none
  | _, _ => none
noncomputable def eBF (F : MM) (mo : EM) (ma : AM) : EM := fun env st => match mo env st with
  | some (.tpf ys, s1) => match ma env s1 with
    | some (xs, s2) => F (.tpf ys) xs s2
    | none => none
  | _ => none
section
variable {X : Cx} {W : Wd} {o e : Expr} {es : List Expr} {mo : EM} {ma : AM} {F : MM} {pos apos cpos : Pos} {name : Str} {id : String}
def tTupF (t : TA) : TE := fun σ H Q => t σ H fun xs H1 => xs.length ≤ sizeLine ∧ ∀ p, H1 p = none → ∀ o : Obj, o.cls = .type "tuple" ∧ o.dict = none → Q (.ref p) (upd H1 p (.frz o (.tup xs)))
theorem pe_tupF {x1} {t : TA} (h : PA X es t) : PE X (.Tuple es x1 pos) (tTupF t) := by
  refine ⟨fun pins s σ H Q I hq => ?_⟩
  refine wpAny_Tuple_spliced (thn (h.run pos pins s σ H _ I hq) fun us s1 ⟨xs, H1, I1, r, z, q⟩ => ⟨by rw [← r.length]; exact z, ?_⟩)
  have hf : H1 s1.heap.objs.size = none := I1.hok.fresh (Nat.le_refl _)
  refine ⟨.ref s1.heap.objs.size, upd H1 s1.heap.objs.size (.frz { cls := .type "tuple", data := .seq us.toArray } (.tup xs)), I1.laid (t' := s1.toks) (fun b u e => Heap.get?_push_of_some _ e) (Nat.le_refl _) ?_, rfl, q _ hf _ ⟨rfl, rfl⟩⟩
  exact ⟨Heap.get?_push_size _ rfl, z, us, r, ⟨_, Heap.get?_push_size _ rfl, rfl, _, rfl⟩⟩
theorem j_tupF {x1} {mr : AM} (h : PA X es (TAs W mr)) : PE X (.Tuple es x1 pos) (T W (eTupF mr)) := (pe_tupF h).imp fun σ H Q ⟨ι, st, env, d, st', r, n, e, k⟩ => by
  unfold eTupF at e
  split at e
  · rename_i xs s1 e1
    split at e
    · rename_i hz
      cases e
      exact TA.of r n e1 fun vs ι1 H1 g1 r1 p1 => ⟨by rw [← p1.length]; exact hz, fun p hp o ho => (k.go g1).tpf r1 p1 hp ho⟩
    · cases e
  · cases e
theorem call_tuple_F : CallR X (.type "tuple") (fun xs H Q => ∃ p ys, xs = [.ref p] ∧ SqL X.K H p ys ∧ ∀ l, H l = none → ∀ o : Obj, o.cls = .type "tuple" ∧ o.dict = none → Q (.ref l) (upd H l (.frz o (.tup ys)))) := by
  intro pins s σ H xs us Q I r h
  obtain ⟨p, ys, rfl, hq, q⟩ := h
  obtain ⟨u, rfl, rx⟩ := vals1 r
  cases rx
  obtain ⟨its, r', pl, hz⟩ := I.list hq
  have hlen := r'.length
  refine call_tuple_list pl.isList (fun h' kp => ?_) (by simp only [List.size_toArray] <;> omega)
  have I1 : Inv X pins σ H { s with heap := h' } := I.kept (t' := s.toks) kp
  have I2 : Inv X pins σ (upd H h'.objs.size (.frz { cls := .type "tuple", data := .seq its.toArray } (.tup ys))) { s with heap := h'.push { cls := .type "tuple", data := .seq its.toArray } } :=
    I1.laid (t' := s.toks) (fun b o e => Heap.get?_push_of_some _ e) (Nat.le_refl _) ⟨Heap.get?_push_size _ rfl, hz, its, r', IsTup.new _ _⟩
  exact ⟨.ref h'.objs.size, _, I2, rfl, q _ (I1.hok.fresh (Nat.le_refl _)) _ ⟨rfl, rfl⟩⟩
theorem jc_tupleF (hK : X.K = W.K) : CallR X (.type "tuple") (MA W fTupleF) := by
  intro pins s σ H xs us Q I rx ⟨ι, st, ds, d, st', r, h, e, k⟩
  unfold fTupleF at e
  split at e
  · rename_i x
    obtain ⟨v, rfl, hv⟩ := reps1 h
    split at e
    · rename_i ys q
      cases e
      obtain ⟨p, ws, rfl, h1, h2⟩ := seqL_ok r hv q
      exact call_tuple_F pins s σ H _ us Q I rx ⟨p, ws, rfl, SqL.of h1, fun l hl o ho => k.tpf r h2 hl ho⟩
    · cases e
  · cases e
def tBF (r : V → List V → Hp → VK → Prop) (to : TE) (t : TA) : TE := fun σ H Q => to σ H fun x H1 => (∃ p o xs, x = .ref p ∧ H1 p = some (.frz o (.tup xs)) ∧ o.cls = .type "tuple" ∧ o.dict = none) ∧ t σ H1 fun xs H2 => r x xs H2 Q
theorem pe_bF {to : TE} {t : TA} {r : V → List V → Hp → VK → Prop} (pa : PlainAttrs "tuple") (slot : Slot "tuple" name id) (hty : typeOf (.builtin id) = pure (.type "method_descriptor")) (hm : MtR X id r) (ho : PE X o to) (ha : PA X (e :: es) t)
    (hbase : attributeBase o name X.env (eval o X.env) = eval o X.env := by rfl)
    (hfew : ((backTo cpos (starEach (e :: es) X.env)).all (fun x => !x.1) && (backToKw cpos (keywordEach [] X.env)).all (fun x => x.1.isSome)
      && decide ((e :: es).length + ([] : List Keyword).length + (if ([] : List Keyword).isEmpty then 0 else 1) < 30)) = true := by rfl)
    (hline : (apos.endLine == cpos.line) = true := by rfl) (hs : starEach (e :: es) X.env = (false, eval e X.env) :: starEach es X.env := by rfl) (hplain : (backTo cpos (starEach es X.env)).any (·.1) = false := by rfl) :
    PE X (.Call (.Attribute o name apos) (e :: es) [] cpos) (tBF r to t) := by
  refine ⟨fun pins s σ H Q I h => ?_⟩
  refine wpAny_Call_method_late hbase hfew hline rfl (thn (ho.run pins s σ H _ I h) fun v s1 ⟨x, H1, I1, r1, ty, q1⟩ => ?_)
  obtain ⟨p, ob, xs, rfl, h1, h2, h3⟩ := ty
  cases r1
  have hg := (I1.hok p _ h1).1
  refine ⟨"tuple", id, pa, slot, hty, ⟨ob, hg, h2⟩, fun a e => ?_, ?_⟩
  · cases e
    exact ⟨ob, hg, h3⟩
  have hA := ha.run cpos pins s1 σ H1 _ I1 q1
  rw [hs] at hA ⊢
  refine Calls.callWith_builtin (by show (false || (backTo cpos (starEach es X.env)).any (·.1)) = false; rw [hplain] <;> rfl) (Calls.evalArgs_plain ?_)
  exact thn hA fun us s2 ⟨vs, H2, I2, r2, q2⟩ => hm pins s2 σ H2 (.ref p) vs (.ref p) us Q I2 rfl r2 q2
theorem j_bF (hK : X.K = W.K) (pa : PlainAttrs "tuple") (slot : Slot "tuple" name id) (hty : typeOf (.builtin id) = pure (.type "method_descriptor")) (hm : MtR X id (MMt W F)) (ho : PE X o (T W mo)) (ha : PA X (e :: es) (TAs W ma))
    (hbase : attributeBase o name X.env (eval o X.env) = eval o X.env := by rfl)
    (hfew : ((backTo cpos (starEach (e :: es) X.env)).all (fun x => !x.1) && (backToKw cpos (keywordEach [] X.env)).all (fun x => x.1.isSome)
      && decide ((e :: es).length + ([] : List Keyword).length + (if ([] : List Keyword).isEmpty then 0 else 1) < 30)) = true := by rfl)
    (hline : (apos.endLine == cpos.line) = true := by rfl) (hs : starEach (e :: es) X.env = (false, eval e X.env) :: starEach es X.env := by rfl) (hplain : (backTo cpos (starEach es X.env)).any (·.1) = false := by rfl) :
    PE X (.Call (.Attribute o name apos) (e :: es) [] cpos) (T W (eBF F mo ma)) := (pe_bF pa slot hty hm ho ha hbase hfew hline hs hplain).imp fun σ H Q ⟨ι, st, env, d, st', r, n, e, k⟩ => by
  unfold eBF at e
  split at e
  · rename_i ys s1 e1
    split at e
    · rename_i xs s2 e2
      exact T.of r n e1 fun v ι1 H1 g1 r1 p1 => by
        obtain ⟨a, o, vs, rfl, h0, h1, _, _⟩ := tpf_ok p1
        exact ⟨⟨a, o, vs, rfl, h1, h0.1, h0.2⟩, TA.of r1 (n.grow g1) e2 fun us ι2 H2 g2 r2 p2 => ⟨ι2, s2, _, xs, d, st', r2, Rep.grow g2 _ _ p1, p2, e, k.go (g1.trans g2)⟩⟩
    · cases e
  · cases e
theorem jm_countF (hK : X.K = W.K) : MtR X "tuple.count" (MMt W mCountF) := by
  intro pins s σ H x xs v us Q I rx rxs ⟨ι, st, o, as, d, st', r, ho, ha, e, k⟩
  unfold mCountF at e
  split at e
  · rename_i ys y
    obtain ⟨w, rfl, hw⟩ := reps1 ha
    obtain ⟨p, o1, ws, rfl, _, _, h1, h2⟩ := tpf_ok ho
    split at e
    · rename_i x' us' q1 q2
      cases e
      have e1 := sc_ok q1 hw
      have e2 := scs_ok q2 h2
      subst e1 e2
      cases rx
      obtain ⟨u1, rfl, ru⟩ := vals1 rxs
      rw [← hK] at h1
      obtain ⟨its, rv, ⟨⟨cls, dd, data, sl⟩, ho, hc, n, hd⟩, hlen⟩ := I.tuple h1
      simp only at hc hd
      subst hc hd
      refine call_meets PySem.F.slot_tuple_count ⟨_, ho, rfl⟩ PySem.F.entry_tuple_count (PySem.F.args_tuple_count_2 _ _) (SeqAt.tuple_countAt p its.toArray n dd sl u1 (eqU w)) ⟨ho, fun u' hu' => mem_eqAt ru (flat_sc q1) rv (flat_scs q2) u' (by simpa using hu'), ?_⟩
      have e2 := cnt_of (x := w) rv (flat_scs q2)
      have e3 : its.toArray.toList.countP (eqU w) = cntV ws w := e2
      rw [e3]
      exact ⟨.int (cntV ws w : Nat), H, I.tok _, ⟨_, rfl⟩, k.now r int_rep⟩
    · cases e
  · cases e
end
section
variable {env : Env} {st : Store} {Q : D → Store → Prop}
theorem ev_tupF {a : AM} : EvE (eTupF a) env st Q ↔ EvA a env st fun xs s1 => xs.length ≤ sizeLine ∧ Q (.tpf xs) s1 := by
  unfold EvE EvA eTupF
  constructor
  · rintro ⟨d, s, e, q⟩
    split at e
    · rename_i xs s1 h
      split at e
      · rename_i hz
        cases e
        exact ⟨_, _, h, hz, q⟩
      · cases e
    · cases e
  · rintro ⟨xs, s1, h, hz, q⟩
    exact ⟨_, _, by rw [h]; simp only [if_pos hz], q⟩
theorem ev_bF {F : MM} {a : EM} {r : AM} : EvE (eBF F a r) env st Q ↔ EvE a env st fun x s1 => ∃ ys, x = .tpf ys ∧ EvA r env s1 fun xs s2 => ∃ d s3, F (.tpf ys) xs s2 = some (d, s3) ∧ Q d s3 := by
  unfold EvE EvA eBF
  constructor
  · rintro ⟨d, s, e, q⟩
    split at e
    · rename_i ys s1 h
      split at e
      · rename_i xs s2 h2
        exact ⟨_, _, h, ys, rfl, _, _, h2, _, _, e, q⟩
      · cases e
    · cases e
  · rintro ⟨x, s1, h, ys, rfl, xs, s2, h2, d, s3, h3, q⟩
    exact ⟨d, s3, by rw [h]; simp only [h2, h3], q⟩
theorem ev_tupleF_cell {n : Nat} {xs : List D} (h : st[n]? = some (.lst xs)) : EvF fTupleF [.ref n] st Q ↔ Q (.tpf xs) st := by
  have e : fTupleF [.ref n] st = some (.tpf xs, st) := by simp only [fTupleF, seqL, h]
  exact evF_some e
theorem ev_tupleF_lst {xs : List D} : EvF fTupleF [.lst xs] st Q ↔ Q (.tpf xs) st := evF_some rfl
end
end My

namespace My
open PySem PySem.Spec PyProof.Rows L2
/-! ### min(d.values()) -/
def eMinVals (m : EM) : EM := fun env st => match m env st with
  | some (x, s1) => match dicK s1 x with
    | some (_, vs) => match intsOf vs with
      | some ns => ns.min?.map fun z => (.int z, s1)
      | none => none
    | none => none
  | none => none
theorem zip_snd {α β : Type} : ∀ {as : List α} {bs : List β}, as.length = bs.length → (as.zip bs).map (·.2) = bs
  | [], [], _ => rfl
  | [], _ :: _, h => by simp at h
  | _ :: _, [], h => by simp at h
  | a :: as, b :: bs, h => by
    rw [List.zip_cons_cons, List.map_cons, zip_snd (by simpa using h)]
theorem reps_intsV {W : Wd} {ι : Lay} {H : Hp} : ∀ {ns : List Int} {vs : List V}, Reps W ι H (ns.map D.int) vs → vs = ns.map V.int
  | [], vs, h => h.nil_of
  | n :: ns, vs, h => by
    obtain ⟨v, us, rfl, hv, hus⟩ := h
    rw [reps_intsV hus, List.map_cons]
    rw [show v = V.int n by simpa only [Rep] using hv]
section
variable {X : Cx} {W : Wd} {o : Expr} {m : EM} {p pos apos mpos : Pos}
theorem j_minVals (hc : X.calm = true) (hg : Gl X "min") (hm : X.mg "min" = none) (hd : PE X o (T W m)) (hbase : attributeBase o "values" X.env (eval o X.env) = eval o X.env := by rfl) (hline : (apos.endLine == mpos.line) = true := by rfl)
    (hse : starEach [Expr.Call (.Attribute o "values" apos) [] [] mpos] X.env = [(false, eval (Expr.Call (.Attribute o "values" apos) [] [] mpos) X.env)] := by rfl) :
    PE X (.Call (.Name "min" p) [.Call (.Attribute o "values" apos) [] [] mpos] [] pos) (T W (eMinVals m)) := (pe_minVals hc hg hm hd hbase hline hse).imp fun σ H Q ⟨ι, st, env, d, st', r, n, e, k⟩ => by
  unfold eMinVals at e
  split at e
  · rename_i x s1 e1
    split at e
    · rename_i ks vs q
      split at e
      · rename_i ns q2
        rw [Option.map_eq_some_iff] at e
        obtain ⟨z, hz, eq⟩ := e
        cases eq
        refine T.of r n e1 fun v ι1 H1 g1 r1 p1 => ?_
        obtain ⟨a, us, rfl, ha, hl, rep⟩ := dicK_ok r1 p1 q
        rw [intsOf_eq q2] at rep hl
        have hu := reps_intsV rep
        rw [List.min?_eq_some_iff] at hz
        refine ⟨a, _, ns, rfl, ha, ?_, fun z => by rw [z] at hz; exact absurd hz.1 (by simp), fun w hw1 hw2 => ?_⟩
        · rw [zip_snd (by rw [hl, hu, List.length_map, List.length_map]), hu]
        · have : w = z := Int.le_antisymm (hw2 z hz.1) (hz.2 w hw1)
          rw [this]
          exact k _ _ _ g1 r1 int_rep
      · cases e
    · cases e
  · cases e
end
section
variable {env : Env} {st : Store} {Q : D → Store → Prop}
theorem ev_minVals {m : EM} : EvE (eMinVals m) env st Q ↔ EvE m env st fun x s1 => ∃ ks vs ns z, dicK s1 x = some (ks, vs) ∧ intsOf vs = some ns ∧ ns.min? = some z ∧ Q (.int z) s1 := by
  unfold EvE eMinVals
  constructor
  · rintro ⟨d, s, e, q⟩
    split at e
    · rename_i x s1 h
      split at e
      · rename_i ks vs h2
        split at e
        · rename_i ns h3
          rw [Option.map_eq_some_iff] at e
          obtain ⟨z, h4, eq⟩ := e
          cases eq
          exact ⟨_, _, h, ks, vs, ns, z, h2, h3, h4, q⟩
        · cases e
      · cases e
    · cases e
  · rintro ⟨x, s1, h, ks, vs, ns, z, h2, h3, h4, q⟩
    exact ⟨.int z, s1, by rw [h]; simp only [h2, h3, h4, Option.map_some], q⟩
end
end My

namespace My
open PySem PySem.Spec PyProof.Rows L2 PySem.W
/-! ### xs[::-1], a, *b = t, min of a list of pairs -/
def eRev (m : EM) : EM := fun env st => match m env st with
  | some (d, s1) => match seqA s1 d with
    | some xs => if isT d then none else some (.lst xs.reverse, s1)
    | none => none
  | none => none
where isT : D → Bool
  | .tup _ => true
  | .tpf _ => true
  | _ => false
section
variable {X : Cx} {W : Wd} {e : Expr} {m : EM}
theorem Reps.rev {ι : Lay} {H : Hp} : ∀ {ds : List D} {vs : List V}, Reps W ι H ds vs → Reps W ι H ds.reverse vs.reverse
  | [], _, h => by rw [h.nil_of]; exact Reps.nil
  | d :: ds, _, h => by
    obtain ⟨v, r, rfl, h1, h2⟩ := h.uncons
    rw [List.reverse_cons, List.reverse_cons]
    exact (Reps.rev h2).append (Reps.cons h1 Reps.nil)
theorem j_rev {k : Nat} {p1 p2 p3 pos : Pos} (hK : X.K = W.K) (he : PE X e (T W m)) : PE X (.Subscript e (.Slice none none (some (.UnaryOp .USub (.Constant (.int 1) k p1) p2)) p3) pos) (T W (eRev m)) := (pe_revL he).imp fun σ H Q ⟨ι, st, env, d, st', r, n, e, k⟩ => by
  unfold eRev at e
  split at e
  · rename_i x s1 e1
    split at e
    · rename_i xs q
      split at e
      · cases e
      · rename_i hT
        cases e
        refine T.of r n e1 fun v ι1 H1 g1 r1 p1 => ?_
        obtain ⟨a, vs, rfl, h1, h2⟩ := seqA_list r1 p1 q (by cases x <;> simp only [seqT]; exact absurd rfl hT) (by cases x <;> simp only [isTpf]; exact absurd rfl hT)
        refine ⟨a, vs, rfl, hK ▸ h1, fun p hp => (k.go g1).lst r1 ?_ hp⟩
        exact h2.rev
    · cases e
  · cases e
end
/-! ### a, *b = t -/
section
variable {prog : Program} {w : World} {A : Around} {E : Value → Shared → Prop} {s : Shared}
theorem un_starT {l : Addr} {items : Array Value} {x : Value} {Q : List Value → Shared → Prop} (hl : IsTup s.heap l items) (hh : A.handled = none) (hx : items.toList[0]? = some x) (hz : items.size ≤ 16384)
    (h : ∀ (h' : Heap) (tk : Nat), (∀ b o, s.heap.get? b = some o → h'.get? b = some o) → Q [x, .ref h'.objs.size] { s with heap := h'.push { cls := .type "list", data := .seq (items.toList.drop 1).toArray }, toks := tk }) : wpAny (model prog w) A (unpackItems (.ref l) 2 (some 1)) Q E s := by
  have hlt : l ≠ s.heap.objs.size := by obtain ⟨o, ho, _⟩ := hl; exact Nat.ne_of_lt (Heap.lt_size ho)
  have hn : 1 ≤ items.size := by
    have h0 := (List.getElem?_eq_some_iff.mp hx).1
    have h1 : 0 < items.size := by simpa using h0
    omega
  unfold unpackItems
  refine wpAny_bind ?_
  unfold notIterableAtAll
  refine wpAny_bind (wpAny_specialOf hl.typeIs slot_tuple_iter.lookup ?_)
  refine wpAny_pure ?_
  simp only [Bool.false_eq_true, if_false]
  refine wpAny_bind (wpAny_holding (iter_tuple hl ?_))
  refine wpAny_bind (wpAny_holding (draw_tuple hlt 1 0 _ _ ⟨_, Heap.get?_push_size _ rfl, rfl, rfl⟩ (hl.push _) (by omega) fun h₁ hit₁ hs₁ => ?_))
  have hl₁ : IsTup h₁ l items := (hl.push _).extBut hs₁.extBut hlt
  rw [Nat.zero_add] at hit₁
  have hit₁' := hit₁
  obtain ⟨oi, hoi, _⟩ := hit₁'
  have hl₁' := hl₁
  obtain ⟨ol, hol, _⟩ := hl₁'
  rw [List.drop_zero]
  have hfl : (items.toList.take 1).length = 1 := by rw [List.length_take, Array.length_toList]; omega
  rw [if_neg (show ¬ ((items.toList.take 1).length < 1) by rw [hfl]; omega)]
  refine wpAny_bind (wpAny_holding (kun_collect (s := { s with heap := h₁ }) (T := "tuple_iterator") (.inr (.inr (.inr rfl))) (Walks.tuple (A := A.in1) hh s.heap.objs.size l hlt items) (fun j u st => st.1.typeIs) (k := 1) (by omega) ⟨hit₁, hl₁⟩ (Heap.lt_size hoi) (Heap.lt_size hol) (fun h₂ tk hk => ?_) (by rw [sizeLine_eq]; omega)))
  have hrl : (items.toList.drop 1).length = items.size - 1 := by rw [List.length_drop, Array.length_toList]
  show wpAny _ _ (if (items.toList.drop 1).length < 2 - 1 - 1 then _ else _) _ _ _
  rw [if_neg (by omega)]
  show wpAny _ _ (newList ((items.toList.drop 1).take ((items.toList.drop 1).length - (2 - 1 - 1))) >>= fun d => pure (items.toList.take 1 ++ [d] ++ (items.toList.drop 1).drop ((items.toList.drop 1).length - (2 - 1 - 1)))) _ _ _
  have e1 : (items.toList.drop 1).length - (2 - 1 - 1) = (items.toList.drop 1).length := by omega
  have e2 : items.toList.take 1 = [x] := by
    cases q : items.toList with
    | nil => rw [q] at hx; cases hx
    | cons y ys => rw [q] at hx; cases hx; rfl
  rw [e1, List.take_length, List.drop_length, e2]
  simp only [List.append_nil, List.cons_append, List.nil_append]
  have he : Heap.ExtBut s.heap.objs.size s.heap h₂ := fun b o hb e => hk b o hb (hs₁.extBut b o hb (Heap.get?_push_of_some _ e))
  unfold newList
  refine wpAny_bind (wpAny_newObj_type (wpAny_pure ?_) (by show (List.drop 1 items.toList).toArray.size ≤ sizeLine; rw [List.size_toArray, hrl, sizeLine_eq]; omega))
  exact h h₂ tk fun b o e => he b o (Nat.ne_of_lt (Heap.lt_size e)) e
end
def gStar2 (K : PySem.W.Frag) (i j : Nat) : TG := fun v σ H Q => ∃ a x xs, v = .ref a ∧ SqT K H a (x :: xs) ∧ xs.length < 16384 ∧ ∀ p, H p = none → Q ((σ.set i (some x)).set j (some (.ref p))) (upd H p (.lst xs))
section
variable {X : Cx} {W : Wd} {e : Expr} {m : EM} {pos p1 p2 p3 : Pos}
theorem pg_star2 {i j k : Nat} {x y : Str} (hc : X.calm = true) (hN : X.N.Nodup) (hi : X.N[i]? = some x) (hj : X.N[j]? = some y) (hx : Loc X.env.scope x) (hy : Loc X.env.scope y)
    (fx : X.fn x = true ∨ X.env.scope.names.lookup x = some .local) (fy : X.fn y = true ∨ X.env.scope.names.lookup y = some .local) : PG X (.Tuple [.Name x p1, .Starred (.Name y p2) p3] k pos) (gStar2 X.K i j) := by
  refine ⟨fun pins s σ H v u Q I r h => ?_⟩
  obtain ⟨a, z, xs, rfl, hq, hl, q⟩ := h
  cases r
  obtain ⟨its, rv, ht, hz⟩ := I.tuple hq
  obtain ⟨u, us, rfl, ru, rus⟩ : ∃ u us, its = u :: us ∧ RelV z u ∧ Vals xs us := by
    cases rv with
    | cons r t => exact ⟨_, _, rfl, r, t⟩
  have hlen := rus.length
  rw [assign_Tuple]
  refine wpAny_bind (wpAny_standAt ?_)
  unfold unpack
  show wpAny _ _ (holding [.ref a] (unpackItems (.ref a) 2 (some 1)) >>= fun is => assignInOrder [assign (.Name x p1) X.env, assign (.Name y p2) X.env] is) _ _ _
  refine wpAny_bind (wpAny_holding (un_starT ht (I.ok.hd hc) rfl (by simp only [List.size_toArray, List.length_cons]; omega) fun h' tk hk => ?_))
  have I1 : Inv X pins σ H { s with heap := h', toks := tk } := I.kept (t' := tk) hk
  have e1 : (u :: us).toArray.toList.drop 1 = us := rfl
  rw [e1]
  have hf := I1.hok.fresh (Nat.le_refl h'.objs.size)
  have I2 : Inv X pins σ (upd H h'.objs.size (.lst xs)) { s with heap := h'.push { cls := .type "list", data := .seq us.toArray }, toks := tk } :=
    I1.laid (t' := tk) (fun b o e => Heap.get?_push_of_some _ e) (Nat.le_refl _) (show ObjOk X.prog X.w _ _ _ (.lst xs) from ⟨by rw [sizeLine_eq]; omega, us, 0, rus, Heap.get?_push_size _ rfl⟩)
  refine assignInOrder_cons (wpAny_assign_Name (store_ok I2 hN hi hx ru (fun s2 I3 => ?_) fx))
  refine assignInOrder_cons (wpAny_assign_Name (store_ok I3 hN hj hy (v := .ref h'.objs.size) rfl (fun s3 I4 => assignInOrder_nil ?_) fy))
  exact ⟨_, _, I4, q _ hf⟩
def sStar2 (i j : Nat) (m : EM) : SM := fun env st => match m env st with
  | some (.tup (x :: xs), s1) => if xs.length < 16384 then some (.nx ((env.set i (some x)).set j (some (.lst xs))), s1) else none
  | _ => none
theorem js_star2 {i j k : Nat} {pt : Pos} {x y : Str} (hK : X.K = W.K) (hc : X.calm = true) (hN : X.N.Nodup) (hi : X.N[i]? = some x) (hj : X.N[j]? = some y) (hx : Loc X.env.scope x) (hy : Loc X.env.scope y)
    (fx : X.fn x = true ∨ X.env.scope.names.lookup x = some .local) (fy : X.fn y = true ∨ X.env.scope.names.lookup y = some .local) (he : PE X e (T W m))
    (hs : swapsWithSole [.Tuple [.Name x p1, .Starred (.Name y p2) p3] k pt] e pos.line X.env = pure false := by rfl) (hw : swappedStores [.Tuple [.Name x p1, .Starred (.Name y p2) p3] k pt] e X.env = pure none := by rfl)
    (h1 : (assignEach [.Tuple [.Name x p1, .Starred (.Name y p2) p3] k pt] X.env).map (·.2) = [assign (.Tuple [.Name x p1, .Starred (.Name y p2) p3] k pt) X.env] := by rfl) :
    PS X (.Assign [.Tuple [.Name x p1, .Starred (.Name y p2) p3] k pt] e pos) (TSt W (sStar2 i j m)) := (ps_asg he (pg_star2 hc hN hi hj hx hy fx fy) hs hw h1).imp fun D σ H ⟨ι, st, env, o, st', r, n, e, k⟩ => by
  unfold sStar2 at e
  split at e
  · rename_i x xs s1 q
    split at e
    · rename_i hl
      cases e
      refine T.of r n q fun v ι1 H1 g1 r1 p1 => ?_
      obtain ⟨a, vs, rfl, h1, h2⟩ := seqT_ok p1 (xs := x :: xs) rfl
      obtain ⟨v, us, rfl, h3, h4⟩ := h2.uncons
      refine ⟨a, v, us, rfl, SqT.of h1, by rw [← h4.length]; exact hl, fun p hp => ?_⟩
      have g2 := Grow.laid (ι := ι1) (o := .lst us) hp
      refine k _ ι1 _ (g1.trans g2) (r1.laid hp) (((n.grow (g1.trans g2)).set i (Rep.grow g2 _ _ h3)).set j ?_)
      simp only [Rep]
      exact ⟨p, rfl, r1.free hp, us, upd_same, Reps.grow g2 _ _ h4⟩
    · cases e
  · cases e
end
section
variable {env : Env} {st : Store} {Q : D → Store → Prop} {QS : Out → Store → Prop}
theorem ev_rev {m : EM} : EvE (eRev m) env st Q ↔ EvE m env st fun d s1 => ∃ xs, seqA s1 d = some xs ∧ eRev.isT d = false ∧ Q (.lst xs.reverse) s1 := by
  unfold EvE eRev
  constructor
  · rintro ⟨d, s, e, q⟩
    split at e
    · rename_i x s1 h
      split at e
      · rename_i xs h2
        split at e
        · cases e
        · rename_i hT
          cases e
          exact ⟨_, _, h, xs, h2, by simpa using hT, q⟩
      · cases e
    · cases e
  · rintro ⟨d, s1, h, xs, h2, h3, q⟩
    exact ⟨_, _, by rw [h]; simp only [h2, h3]; rfl, q⟩
theorem ev_star2 {i j : Nat} {m : EM} : EvS (sStar2 i j m) env st QS ↔ EvE m env st fun d s1 => ∃ x xs, d = .tup (x :: xs) ∧ xs.length < 16384 ∧ QS (.nx ((env.set i (some x)).set j (some (.lst xs)))) s1 := by
  unfold EvS EvE sStar2
  constructor
  · rintro ⟨o, s, e, q⟩
    split at e
    · rename_i x xs s1 h
      split at e
      · rename_i hl
        cases e
        exact ⟨_, _, h, x, xs, rfl, hl, q⟩
      · cases e
    · cases e
  · rintro ⟨d, s1, h, x, xs, rfl, hl, q⟩
    exact ⟨_, _, by rw [h]; simp only [if_pos hl], q⟩
end
end My

namespace My
open PySem PySem.Spec PyProof.Rows L2
/-! ### min of a list of pairs of whole numbers -/
def pairOf : D → Option (Int × Int)
  | .tup [.int a, .int b] => some (a, b)
  | _ => none
def pairsOf : List D → Option (List (Int × Int))
  | [] => some []
  | d :: ds => match pairOf d, pairsOf ds with
    | some p, some ps => some (p :: ps)
    | _, _ => none
def pairD (p : Int × Int) : D := .tup [.int p.1, .int p.2]
def pairP (p : Int × Int) : PyData := .tuple [.int p.1, .int p.2]
def prLt (y a : Int × Int) : Bool := decide (y.1 < a.1) || (decide (y.1 = a.1) && decide (y.2 < a.2))
def minPr (p : Int × Int) (ps : List (Int × Int)) : Int × Int := ps.foldl (fun a y => if prLt y a then y else a) p
def fMinP : FM := fun ds st => match ds with
  | [.lst xs] => match pairsOf xs with
    | some (p :: ps) => some (pairD (minPr p ps), st)
    | _ => none
  | _ => none
theorem pairOf_eq {d : D} {p : Int × Int} (h : pairOf d = some p) : d = pairD p := by
  unfold pairOf at h
  split at h
  · cases h; rfl
  · cases h
theorem pairsOf_eq : ∀ {ds : List D} {ps : List (Int × Int)}, pairsOf ds = some ps → ds = ps.map pairD
  | [], ps, h => by cases h; rfl
  | d :: ds, ps, h => by
    simp only [pairsOf] at h
    split at h
    · rename_i p qs h1 h2
      cases h
      rw [List.map_cons, pairOf_eq h1, ← pairsOf_eq h2]
    · cases h
theorem pairsOf_map : ∀ ps : List (Int × Int), pairsOf (ps.map pairD) = some ps
  | [] => rfl
  | p :: ps => by
    simp only [List.map_cons, pairsOf, pairsOf_map ps]
    rfl
theorem lt_pairP (y a : Int × Int) : PySem.W.dataLt (pairP y) (pairP a) = prLt y a := by
  have h := PySem.W.dataLt_ints [y.1, y.2] [a.1, a.2]
  have e : PySem.W.dataLt (pairP y) (pairP a) = PySem.W.rowLt ([y.1, y.2].map .int) ([a.1, a.2].map .int) := by
    unfold PySem.W.dataLt PySem.W.rowLt pairP
    simp only [PySem.W.keyToks, List.map_cons, List.map_nil]
  rw [e, h]
  unfold prLt
  rw [Bool.eq_iff_iff]
  simp [List.cons_lt_cons_iff]
theorem minD_pairs (p : Int × Int) : ∀ ps : List (Int × Int), PySem.W.minD (pairP p) (ps.map pairP) = pairP (minPr p ps) := by
  intro ps
  unfold PySem.W.minD minPr
  induction ps generalizing p with
  | nil => rfl
  | cons y ps ih =>
    rw [List.map_cons, List.foldl_cons, List.foldl_cons, ← ih, lt_pairP]
    congr 1
    split <;> rfl
theorem alike_pairs (ps : List (Int × Int)) : PySem.W.AlikeAll (ps.map pairP) := by
  refine ⟨fun x hx y hy => ?_, fun x hx e => ?_⟩
  · obtain ⟨i, _, rfl⟩ := List.mem_map.mp hx
    obtain ⟨j, _, rfl⟩ := List.mem_map.mp hy
    rfl
  · obtain ⟨i, _, rfl⟩ := List.mem_map.mp hx
    cases e
theorem depth_pairs : ∀ ps : List (Int × Int), PyData.depthAll (ps.map pairP) ≤ 2
  | [] => by simp [PyData.depthAll]
  | p :: ps => by
    have := depth_pairs ps
    simp only [List.map_cons, PyData.depthAll, pairP, PyData.depth]
    omega
theorem pairP_inj {p q : Int × Int} (h : pairP p = pairP q) : p = q := by
  unfold pairP at h
  injection h with h
  injection h with h1 h
  injection h with h2 _
  injection h1 with h1
  injection h2 with h2
  exact Prod.ext h1 h2
theorem pys_pairs : ∀ ps : List (Int × Int), D.pys (ps.map pairD) = some (ps.map pairP)
  | [] => by simp only [List.map_nil, D.pys]
  | p :: ps => by simp only [List.map_cons, D.pys, D.py, pairD, pairP, pys_pairs ps, Option.map_some]
section
variable {X : Cx} {W : Wd}
theorem jc_minP (hK : X.K = W.K) (hc : X.calm = true) (hu : X.A.units + 65 < cLine) : CallR X (.builtin "min") (MA W fMinP) := by
  intro pins s σ H xs us Q I rx ⟨ι, st, ds, d, st', r, h, e, k⟩
  unfold fMinP at e
  split at e
  · rename_i ys
    obtain ⟨v, rfl, hv⟩ := reps1 h
    split at e
    · rename_i p ps q
      cases e
      have e2 := pairsOf_eq q
      subst e2
      simp only [Rep] at hv
      obtain ⟨a, rfl, _, ws, h1, h2⟩ := hv
      have dp := pys_ok _ _ _ (pys_pairs (p :: ps)) h2
      rw [← hK] at dp
      obtain ⟨its, rv, pl, _⟩ := I.list (SqL.of h1)
      rw [Vals.ref1 rx]
      obtain ⟨as, rs⟩ := Dp.readsAll I _ _ _ dp rv
      refine PySem.W.min_list_data (I.ok.hd hc) pl.isList (x := pairP p) (xs := ps.map pairP) rs (alike_pairs (p :: ps)) ?_ fun i v h' tk bs hi rd hk => ?_
      · have := depth_pairs (p :: ps)
        show X.A.units + 1 + PyData.depthAll ((p :: ps).map pairP) < cLine
        omega
      · rw [minD_pairs] at rd
        obtain ⟨bs2, rd2, hlt, _, _⟩ := PySem.W.readsAll_atA rs i v hi
        have ed := PyProof.Rows.reads_det (fun b o e _ => hk b o e) rd2 rd
        have hi2 : i < (p :: ps).length := by simpa using hlt
        have e3 : (List.map pairP (p :: ps)).getD i .none = pairP (p :: ps)[i] := by
          rw [List.getD_eq_getElem?_getD, List.getElem?_map, List.getElem?_eq_getElem hi2]
          rfl
        have e4 := pairP_inj (e3.symm.trans ed.1.symm)
        have hd : ((p :: ps).map pairD)[i]? = some (pairD (minPr p ps)) := by
          rw [List.getElem?_map, List.getElem?_eq_getElem hi2, e4]
          rfl
        obtain ⟨w, hw1, hw2⟩ := h2.get hd
        have rw1 : RelV w v := by
          have := rv.get hw1
          obtain ⟨v', hv1, hv2⟩ := this
          have : its[i]? = some v := by simpa using hi
          rw [this] at hv1
          cases hv1
          exact hv2
        exact ⟨w, H, I.kept hk, rw1, k.now r hw2⟩
    · cases e
  · cases e
end
theorem ev_minP {p : Int × Int} {ps : List (Int × Int)} {st : Store} {Q : D → Store → Prop} (k : Q (pairD (minPr p ps)) st) : EvF fMinP [.lst ((p :: ps).map pairD)] st Q := by
  refine ⟨_, st, ?_, k⟩
  simp only [fMinP, pairsOf_map]
/-- the least pair: an item, and none is less -/
theorem minPr_spec (p : Int × Int) (ps : List (Int × Int)) : minPr p ps ∈ p :: ps ∧ ∀ q ∈ p :: ps, (minPr p ps).1 ≤ q.1 := by
  unfold minPr
  induction ps generalizing p with
  | nil => exact ⟨List.mem_singleton.mpr rfl, fun q hq => by rw [List.mem_singleton.mp hq]; exact Int.le_refl _⟩
  | cons y ps ih =>
    rw [List.foldl_cons]
    by_cases c : prLt y p = true
    · rw [if_pos c]
      obtain ⟨h1, h2⟩ := ih y
      refine ⟨List.mem_cons_of_mem _ h1, fun q hq => ?_⟩
      rcases List.mem_cons.mp hq with rfl | hq
      · have := h2 y List.mem_cons_self
        unfold prLt at c
        simp only [Bool.or_eq_true, Bool.and_eq_true, decide_eq_true_eq] at c
        omega
      · exact h2 q hq
    · rw [if_neg c]
      obtain ⟨h1, h2⟩ := ih p
      refine ⟨?_, fun q hq => ?_⟩
      · rcases List.mem_cons.mp h1 with e | e
        · rw [e]; exact List.mem_cons_self
        · exact List.mem_cons_of_mem _ (List.mem_cons_of_mem _ e)
      · rcases List.mem_cons.mp hq with rfl | hq
        · exact h2 _ List.mem_cons_self
        · rcases List.mem_cons.mp hq with rfl | hq
          · have := h2 p List.mem_cons_self
            unfold prLt at c
            simp only [Bool.or_eq_true, Bool.and_eq_true, decide_eq_true_eq, not_or] at c
            omega
          · exact h2 q (List.mem_cons_of_mem _ hq)
end My

namespace My
open PySem PySem.Spec PyProof.Rows L2
/-! ### xs.extend(a tuple), isinstance(x, (C, D)) -/
theorem list_extend_tup (l : Addr) (items : Array Value) (n : Nat) (b : Addr) (items2 : Array Value) (n2 : Nat) (dd : Option Addr) (sl : Array (Option Value)) (hs0 : ¬(!items.isEmpty && Builtin.List.listTooLong (items.size + items2.size)) = true) (hs1 : items.size ≤ sizeLine) (hs2 : items.size + items2.size ≤ sizeLine + 1) :
    Meets (Builtin.«list.extend» ⟨[.ref l, .ref b], []⟩) (fun _ R s => s.heap.get? l = some { cls := .type "list", dict := none, data := .seq items n, slots := #[] } ∧ s.heap.get? b = some { cls := .type "tuple", dict := dd, data := .seq items2 n2, slots := sl } ∧ R (.ok (.ret Value.none)) { s with heap := s.heap.update l (Obj.mapSeq fun x => x ++ items2), toks := s.toks }) :=
  .of_wp fun prog w A R s h => by
    obtain ⟨hp, g, d, tk, os⟩ := s; obtain ⟨hl, hb, h⟩ := h; have f2 := AutoSeq1.sub_tuple_tuple; have f3 := AutoSeq1.sub_list_list; have f4 := AutoSeq1.sub_tuple_list; have f5 := AutoSeq1.sub_list_tuple;
    have hz' : (items ++ items2).size ≤ sizeLine + 1 := by rw [Array.size_append]; exact hs2
    wp_walk using (wpAny_updateSeq hl rfl (hz := hs1) (_hz' := hz')), AutoSeq1.wpAny_loadPart' hl, AutoSeq1.wpAny_loadPart' hb; exact ⟨_, rfl, h⟩
def mExtendT : MM := fun o as st => match o, as with
  | .ref n, [.tup ys] => match st[n]? with
    | some (.lst xs) => if xs.length + ys.length ≤ sizeLine then some (.non, st.set n (.lst (xs ++ ys))) else none
    | _ => none
  | _, _ => none
section
variable {X : Cx} {W : Wd}
theorem jm_extendT : MtR X "list.extend" (MMt W mExtendT) := by
  intro pins s σ H x xs v us Q I rx rxs ⟨ι, st, o, as, d, st', r, ho, ha, e, k⟩
  unfold mExtendT at e
  split at e
  · rename_i n ys
    obtain ⟨p, c, rfl, h1, h2, h3⟩ := rep_ref r ho
    obtain ⟨w, rfl, hw⟩ := reps1 ha
    rw [h2] at e
    obtain ⟨z, hz, mz⟩ := h3.there
    split at e
    · rename_i zs q
      cases q
      split at e
      · rename_i hl
        cases e
        obtain ⟨vs, h4, h5⟩ := h3
        obtain ⟨p2, vs2, rfl, h6, h7⟩ := seqT_ok hw (xs := ys) rfl
        cases rx
        obtain ⟨u, rfl, ru⟩ := vals1 rxs
        cases ru
        obtain ⟨z1, its, n1, rv, hl1, e1⟩ := I.lstM h4
        obtain ⟨its2, rv2, ⟨⟨cls, dd, data, sl⟩, ho2, hc2, n2, hd2⟩, hz2⟩ := I.tuple (SqT.of h6)
        simp only at hc2 hd2
        subst hc2 hd2
        have hsz : its.toArray.size + its2.toArray.size ≤ sizeLine := by
          rw [List.size_toArray, List.size_toArray, ← rv.length, ← rv2.length, ← h5.length, ← h7.length]; exact hl
        have hlong : ¬ (!its.toArray.isEmpty && Builtin.List.listTooLong (its.toArray.size + its2.toArray.size)) = true := by
          rw [notLongL hsz, Bool.and_false]
          exact Bool.false_ne_true
        refine call_meets PySem.F.slot_list_extend ⟨_, e1, rfl⟩ PySem.F.entry_list_extend (PySem.F.args_list_extend_2 _ _)
          (list_extend_tup p its.toArray n1 p2 its2.toArray n2 dd sl hlong (by rw [List.size_toArray] at hsz ⊢; omega) (by omega)) ⟨e1, ho2, ?_⟩
        have g : Grow ι H ι (upd H p (.lst (vs ++ vs2))) := Grow.put h1 hz mz
        refine ⟨.non, _, I.lset (its' := its ++ its2) h4 e1 (by simp) (rv.append rv2) ?_, rfl, k _ _ _ g (r.put h1 ⟨_, upd_same, Reps.grow g _ _ (h5.append h7)⟩) non_rep⟩
        rw [List.length_append, ← h5.length, ← h7.length]
        exact hl
      · cases e
    · cases e
  · cases e
end
theorem extT_cell {n : Nat} {xs ys : List D} {st : Store} (h : st[n]? = some (.lst xs)) (hz : xs.length + ys.length ≤ sizeLine) : mExtendT (.ref n) [.tup ys] st = some (.non, st.set n (.lst (xs ++ ys))) := by
  simp only [mExtendT, h, if_pos hz]
open Classical in
noncomputable def fIsi2 : FM := fun ds st => match ds with
  | [d, .tup [.ty a, .ty b]] => match tyNameS st d with
    | some m => match kitB m a, kitB m b with
      | some x, some y => some (.bl (x || y), st)
      | _, _ => none
    | none => none
  | _ => none
theorem jc_isi2 {X : Cx} {W : Wd} (hK : X.K = W.K) : CallR X (.builtin "isinstance") (MA W fIsi2) := by
  intro pins s σ H xs us Q I rx ⟨ι, st, ds, d, st', r, h, e, k⟩
  unfold fIsi2 at e
  split at e
  · rename_i x a b
    obtain ⟨v, u, rfl, hv, hu⟩ := reps2 h
    obtain ⟨p, vs, rfl, h1, h2⟩ := seqT_ok hu (xs := [.ty a, .ty b]) rfl
    have hvs : vs = [.ty a, .ty b] := by
      obtain ⟨v1, r1, rfl, q1, q2⟩ := h2.uncons
      obtain ⟨v2, r2, rfl, q3, q4⟩ := q2.uncons
      rw [q4.nil_of]
      have e1 : v1 = .ty a := by simpa only [Rep] using q1
      have e2 : v2 = .ty b := by simpa only [Rep] using q3
      rw [e1, e2]
    subst hvs
    split at e
    · rename_i m q
      split at e
      · rename_i x y hx hy
        cases e
        have ty := tyName_ok r hv q
        rw [← hK] at ty
        refine call_isiT pins s σ H _ us Q I rx ⟨v, p, _, _, [.type a, .type b], x || y, rfl, h1, .cons (.ty a) (.cons (.ty b) .nil), ty, ?_, k.now r bl_rep⟩
        refine kitAny_cons (kit_ty hx) (fun hb => ?_) (fun hb => by rw [hb]; rfl)
        rw [hb, Bool.false_or]
        refine kitAny_cons (kit_ty hy) (fun hb => ?_) (fun hb => hb)
        rw [hb]
        rfl
      · cases e
    · cases e
  · cases e
theorem isi2_int {i : Int} {st : Store} : fIsi2 [.int i, .tup [.ty "int", .ty "str"]] st = some (.bl true, st) := by
  have h1 : kitB "int" "int" = some true := by decide +kernel
  have h2 : kitB "int" "str" = some false := by decide +kernel
  simp only [fIsi2, tyNameS, tyName, h1, h2, Bool.or_false]
theorem isi2_str {x : Str} {st : Store} : fIsi2 [.str x, .tup [.ty "int", .ty "str"]] st = some (.bl true, st) := by
  have h1 : kitB "str" "int" = some false := by decide +kernel
  have h2 : kitB "str" "str" = some true := by decide +kernel
  simp only [fIsi2, tyNameS, tyName, h1, h2, Bool.false_or]
theorem ev_isi2_int {i : Int} {st : Store} {Q : D → Store → Prop} : EvF fIsi2 [.int i, .tup [.ty "int", .ty "str"]] st Q ↔ Q (.bl true) st := evF_some isi2_int
theorem ev_isi2_str {x : Str} {st : Store} {Q : D → Store → Prop} : EvF fIsi2 [.str x, .tup [.ty "int", .ty "str"]] st Q ↔ Q (.bl true) st := evF_some isi2_str
end My

namespace My
open PySem PySem.Spec PyProof.Rows L2
/-! ### x not in a list of data -/
open Classical in
noncomputable def dNotInD (a b : D) (st : Store) : Option D := match pyOf st a, pyOf st b with
  | some p, some (.list ds) => if SeqAt.shaped p = true ∧ SeqAt.shaped (.list ds) = true then some (.bl (!ds.any fun z => PyData.eqv z p)) else none
  | _, _ => none
theorem hu65 {k : Nat} {A : Around} (r : Room k A) : A.units + 65 < cLine := by
  have := r.un
  omega
section
variable {X : Cx} {W : Wd}
theorem jo_notInD (hK : X.K = W.K) (hu : X.A.units + 65 < cLine) : OpR X (compareOp .NotIn) (M2 W dNotInD) := by
  intro pins s σ H x y v u Q I rx ry ⟨ι, st, a, b, d, r, ha, hb, e, k⟩
  unfold dNotInD at e
  split at e
  · rename_i p ds e1 e2
    split at e
    · rename_i hs
      cases e
      have h1 := pyOf_ok r e1 ha
      have h2 := pyOf_ok r e2 hb
      rw [← hK] at h1 h2
      exact op_notInD hu pins s σ H x y v u Q I rx ry ⟨p, ds, h1, h2, hs.1, hs.2, k.now r bl_rep⟩
    · cases e
  · cases e
end
end My

namespace My
open PySem PySem.Spec PyProof.Rows L2
/-! ### displays of one entry: {0: True}, {(): True} -/
def eDispT (mk mv : EM) : EM := fun env st => match mk env (st ++ [.dt [] []]) with
  | some (dk, s1) => match mv env s1 with
    | some (dv, s2) => match tkeyOf dk, s2[st.length]? with
      | some ks, some (.dt [] []) => some (.ref st.length, s2.set st.length (.dt [ks] [dv]))
      | _, _ => none
    | none => none
  | none => none
def eDispK (mk mv : EM) : EM := fun env st => match mk env (st ++ [.dk [] []]) with
  | some (dk, s1) => match mv env s1 with
    | some (dv, s2) => match keyOf dk, s2[st.length]? with
      | some ks, some (.dk [] []) => some (.ref st.length, s2.set st.length (.dk [ks] [dv]))
      | _, _ => none
    | none => none
  | none => none
def tDisp1 (tk tv : TE) : TE := fun σ H Q => ∀ p, H p = none → tk σ (upd H p (.dT [])) fun x H1 => tv σ H1 fun y H2 => H2 p = some (.dT []) ∧ ∃ ks b, x = V.ref b ∧ H2 b = some (.tup (ks.map kV)) ∧ Q (.ref p) (upd H2 p (.dT [(ks, y)]))
section
variable {X : Cx} {W : Wd} {k v : Expr} {pos : Pos} {mk mv : EM}
theorem pe_disp1 {tk tv : TE} (hu : X.A.units + 1 < cLine) (hk : PE X k tk) (hv : PE X v tv) : PE X (.Dict [some k] [v] pos) (tDisp1 tk tv) := by
  refine ⟨fun pins s σ H Q I q => ?_⟩
  have hn := I.hok.fresh (Nat.le_refl s.heap.objs.size)
  have I1 := I.laid (a := s.heap.objs.size) (o := .dT []) (h' := s.heap.push { cls := .type "dict", data := .dict #[] }) (t' := s.toks) (fun _ _ q => Heap.get?_push_of_some _ q) (Nat.le_refl _) (dt_empty s.heap I.big)
  refine wpAny_Dict_any rfl rfl (by simp) (by simp) ?_
  refine pairTrees_cons_walk (thn (hk.run pins _ σ _ _ I1 (q _ hn)) fun u s1 ⟨x, H1, I2, rx, q1⟩ => thn (hv.run pins s1 σ H1 _ I2 q1) fun w2 s2 ⟨y, H2, I3, ry, e, ks, b, ex, eb, q2⟩ => pairTrees_nil_walk ?_)
  subst ex
  cases (show u = Value.ref b from rx)
  obtain ⟨z, hd, xs, rel, dd⟩ := dt_of I3.hok e
  unfold storeAll
  rw [List.forIn_cons]
  refine wpAny_bind (wpAny_bind (wpAny_dictSet_heap (hsz := by rw [← Paired.length rel]; exact z) (show X.A.units < cLine by omega) (key_of I3.hok eb) dd fun h' dd' hs => wpAny_pure ?_))
  simp only [List.forIn_nil]
  refine wpAny_pure ⟨.ref s.heap.objs.size, _, ?_, rfl, q2⟩
  have hl : (putK ([] : List (List Key × V)) ks y).length ≤ sizeLine := by have := length_putK ([] : List (List Key × V)) ks y; rw [List.length_nil] at this; rw [sizeLine_eq]; omega
  obtain ⟨o, es, ep, hq, h2, h3, h4, _, h5⟩ := dd'
  refine d_write I3 (by rw [e]; exact True.intro) hs ⟨o, hq⟩ ⟨hl, hd, _, (rel.put ks eb ry).keeps fun c ys ec => ?_, o, es, ep, hq, h2, h3, h4, h5⟩
  rw [upd_ne (ne_of ec e (fun z => nomatch z))]
  exact ec
theorem j_dispT (hu : X.A.units + 1 < cLine) (hk : PE X k (T W mk)) (hv : PE X v (T W mv)) : PE X (.Dict [some k] [v] pos) (T W (eDispT mk mv)) := (pe_disp1 hu hk hv).imp fun σ H Q ⟨ι, st, env, d, st', r, n, e, kk⟩ => by
  unfold eDispT at e
  split at e
  · rename_i dk s1 e1
    split at e
    · rename_i dv s2 e2
      split at e
      · rename_i ks q1 q2
        cases e
        intro p hp
        have ro : RelH W (ι.add p) (upd H p (.dT [])) (st ++ [.dt [] []]) := r.new hp ⟨[], upd_same, rfl, Reps.nil⟩
        have g0 : Grow ι H (ι.add p) (upd H p (.dT [])) := Grow.cell hp
        refine T.of ro (n.grow g0) e1 fun x ι1 H1 g1 r1 p1 => T.of r1 ((n.grow g0).grow g1) e2 fun y ι2 H2 g2 r2 p2 => ?_
        have ep : (ι.add p).c[st.length]? = some p := by
          rw [← r.len]
          show (ι.c ++ [p])[_]? = _
          simp
        have ep2 := g2.pre _ _ (g1.pre _ _ ep)
        obtain ⟨c, hc, ok⟩ := r2.at ep2
        rw [q2] at hc
        cases hc
        obtain ⟨us, h4, h5, h6⟩ := ok
        rw [h6.nil_of] at h4
        unfold tkeyOf at q1
        split at q1
        · rename_i ds2
          have p1' := Rep.grow g2 _ _ p1
          obtain ⟨b, ws, rfl, h7, h8⟩ := seqT_ok p1' (xs := ds2) rfl
          have e7 := keysOf_ok q1 h8
          subst e7
          have h4' : H2 p = some (.dT []) := h4
          have gp : Grow ι2 H2 ι2 (upd H2 p (.dT [(ks, y)])) := Grow.put ep2 h4' True.intro
          refine ⟨h4', ks, b, rfl, h7, kk _ ι2 _ (((g0.trans g1).trans g2).trans gp) (r2.put ep2 ⟨[y], upd_same, rfl, Reps.grow gp _ _ (Reps.cons p2 Reps.nil)⟩) ?_⟩
          simp only [Rep]
          exact ⟨p, rfl, ep2⟩
        · cases q1
      · cases e
    · cases e
  · cases e
theorem j_dispK (hk : PE X k (T W mk)) (hv : PE X v (T W mv)) : PE X (.Dict [some k] [v] pos) (T W (eDispK mk mv)) := (pe_disp (pps_cons hk hv pps_nil) rfl rfl (by simp) (by simp)).imp fun σ H Q ⟨ι, st, env, d, st', r, n, e, kk⟩ => by
  unfold eDispK at e
  split at e
  · rename_i dk s1 e1
    split at e
    · rename_i dv s2 e2
      split at e
      · rename_i ks q1 q2
        cases e
        intro p hp
        have ro : RelH W (ι.add p) (upd H p (.dK [])) (st ++ [.dk [] []]) := r.new hp ⟨[], upd_same, rfl, Reps.nil⟩
        have g0 : Grow ι H (ι.add p) (upd H p (.dK [])) := Grow.cell hp
        refine T.of ro (n.grow g0) e1 fun x ι1 H1 g1 r1 p1 => T.of r1 ((n.grow g0).grow g1) e2 fun y ι2 H2 g2 r2 p2 => ?_
        have ep : (ι.add p).c[st.length]? = some p := by
          rw [← r.len]
          show (ι.c ++ [p])[_]? = _
          simp
        have ep2 := g2.pre _ _ (g1.pre _ _ ep)
        obtain ⟨c, hc, ok⟩ := r2.at ep2
        rw [q2] at hc
        cases hc
        obtain ⟨us, h4, h5, h6⟩ := ok
        rw [h6.nil_of] at h4
        have h4' : H2 p = some (.dK []) := h4
        have p1' := Rep.grow g2 _ _ p1
        cases keyOf_ok q1 p1'
        have gp : Grow ι2 H2 ι2 (upd H2 p (.dK [(ks, y)])) := Grow.put ep2 h4' True.intro
        refine ⟨h4', [(ks, y)], rfl, by simp, kk _ ι2 _ (((g0.trans g1).trans g2).trans gp) (r2.put ep2 ⟨[y], upd_same, rfl, Reps.grow gp _ _ (Reps.cons p2 Reps.nil)⟩) ?_⟩
        simp only [Rep]
        exact ⟨p, rfl, ep2⟩
      · cases e
    · cases e
  · cases e
end
section
variable {env : Env} {st : Store} {Q : D → Store → Prop}
theorem ev_dispT {mk mv : EM} : EvE (eDispT mk mv) env st Q ↔ EvE mk env (st ++ [.dt [] []]) fun k s1 => EvE mv env s1 fun v s2 => ∃ ks, tkeyOf k = some ks ∧ s2[st.length]? = some (.dt [] []) ∧ Q (.ref st.length) (s2.set st.length (.dt [ks] [v])) := by
  unfold EvE eDispT
  constructor
  · rintro ⟨d, s, e, q⟩
    split at e
    · rename_i dk s1 e1
      split at e
      · rename_i dv s2 e2
        split at e
        · rename_i ks q1 q2
          cases e
          exact ⟨_, _, e1, _, _, e2, ks, q1, q2, q⟩
        · cases e
      · cases e
    · cases e
  · rintro ⟨dk, s1, e1, dv, s2, e2, ks, q1, q2, q⟩
    exact ⟨_, _, by rw [e1]; simp only [e2, q1, q2], q⟩
theorem ev_dispK {mk mv : EM} : EvE (eDispK mk mv) env st Q ↔ EvE mk env (st ++ [.dk [] []]) fun k s1 => EvE mv env s1 fun v s2 => ∃ ks, keyOf k = some ks ∧ s2[st.length]? = some (.dk [] []) ∧ Q (.ref st.length) (s2.set st.length (.dk [ks] [v])) := by
  unfold EvE eDispK
  constructor
  · rintro ⟨d, s, e, q⟩
    split at e
    · rename_i dk s1 e1
      split at e
      · rename_i dv s2 e2
        split at e
        · rename_i ks q1 q2
          cases e
          exact ⟨_, _, e1, _, _, e2, ks, q1, q2, q⟩
        · cases e
      · cases e
    · cases e
  · rintro ⟨dk, s1, e1, dv, s2, e2, ks, q1, q2, q⟩
    exact ⟨_, _, by rw [e1]; simp only [e2, q1, q2], q⟩
end
end My

namespace My
open PySem PySem.Spec PyProof.Rows L2
/-! ### d.get(k, x); list(d.items()), dict(..), list(d) of dicts with tuples as keys, to be written -/
def mGetD : MM := fun o as st => match as with
  | [y, x] => match dicK st o with
    | some (ks, vs) => match keyOf y with
      | some k => some ((kGet ks vs k).getD x, st)
      | none => none
    | none => none
  | _ => none
def fDictPTM : FM := fun as st => match as with
  | [d] => match seqL st d with
    | some xs => match pairsT xs with
      | some (ks, vs) => some (.ref st.length, st ++ [.dt (mrgK [] [] ks vs) (mrgV [] [] ks vs)])
      | none => none
    | none => none
  | _ => none
def kD : Key → D
  | .inl i => .int i
  | .inr x => .str x
def fKeysTM : FM := fun as st => match as with
  | [d] => match dicT st d with
    | some (ks, _) => some (.ref st.length, st ++ [.lst (ks.map fun k => .tup (k.map kD))])
    | none => none
  | _ => none
def eItemsT (m : EM) : EM := fun env st => match m env st with
  | some (x, s1) => match dicT s1 x with
    | some (ks, vs) => some (.lst ((ks.zip vs).map fun p => .tup [.tup (p.1.map kD), p.2]), s1)
    | none => none
  | none => none
section
variable {X : Cx} {W : Wd}
theorem jm_get (hu : X.A.units + 1 < cLine) : MtR X "dict.get" (MMt W mGetD) := by
  intro pins s σ H x xs v us Q I rx rxs ⟨ι, st, o, as, d, st', r, ho, ha, e, k⟩
  unfold mGetD at e
  split at e
  · rename_i y z
    split at e
    · rename_i ks vs q
      split at e
      · rename_i kk q2
        cases e
        obtain ⟨a, ws, rfl, h1, h2, h3⟩ := dicK_ok r ho q
        obtain ⟨w1, w2, rfl, hy, hz⟩ := reps2 ha
        cases keyOf_ok q2 hy
        obtain rfl : v = Value.ref a := rx
        obtain ⟨u1, u2, rfl, r1, r2⟩ := vals2 rxs
        refine d_get2 hu I (DGet.k (k := kk) h1) r1 r2 fun w' s' I' rw' => ⟨_, H, I', rw', ?_⟩
        obtain ⟨g1, g2⟩ := kGet_ok (k := kk) (ks := ks) h3
        cases eg : kGet ks vs kk with
        | none =>
          rw [g2 eg]
          rw [eg] at k
          exact k.now r hz
        | some dd =>
          obtain ⟨uu, e1, e2⟩ := g1 dd eg
          rw [e1]
          rw [eg] at k
          exact k.now r e2
      · cases e
    · cases e
  · cases e
/-- pairs tracked at their addresses -/
def putP : Hp → List Addr → List (V × V) → Hp
  | H, a :: as, p :: ps => putP (upd H a (.tup [p.1, p.2])) as ps
  | H, _, _ => H
theorem putP_off {b : Addr} : ∀ (as : List Addr) (ps : List (V × V)) (H : Hp), b ∉ as → putP H as ps b = H b
  | [], _, _, _ => rfl
  | _ :: _, [], _, _ => rfl
  | a :: as, p :: ps, H, h => by
    show putP (upd H a (.tup [p.1, p.2])) as ps b = H b
    rw [putP_off as ps _ (fun z => h (List.mem_cons_of_mem _ z)), upd_ne (fun z => h (by rw [z]; exact List.mem_cons_self))]
theorem putP_at : ∀ (as : List Addr) (ps : List (V × V)) (H : Hp), as.length = ps.length → as.Nodup → Paired (fun (t : Addr) (p : V × V) => putP H as ps t = some (.tup [p.1, p.2])) as ps
  | [], [], _, _, _ => .nil
  | [], _ :: _, _, h, _ => by cases h
  | _ :: _, [], _, h, _ => by cases h
  | a :: as, p :: ps, H, h, hn => by
    have hn' := List.nodup_cons.mp hn
    have ih := putP_at as ps (upd H a (.tup [p.1, p.2])) (Nat.succ.inj h) hn'.2
    refine .cons ?_ ih
    show putP (upd H a (.tup [p.1, p.2])) as ps a = some (.tup [p.1, p.2])
    rw [putP_off as ps _ hn'.1, upd_same]
theorem items_laidV {pins : List (Addr × Obj)} {σ : L2.St} {H : Hp} {s : Shared} {h' : Heap} {tk : Nat} {ps : List (V × V)} {es : Array DictEntry} {acc : Array Value} {c : Nat} {as : List Addr} (I : Inv X pins σ H s) (hz : ps.length ≤ sizeLine)
    (rel : ∀ (j : Nat) (p : V × V), ps[j]? = some p → ∀ hj : j < es.size, RelV p.1 es[j].key ∧ RelV p.2 es[j].val) (lk : ps.length = es.size)
    (hk : ∀ b o, s.heap.get? b = some o → h'.get? b = some o) (hS : h'.get? s.heap.objs.size = some { cls := .type "list", dict := none, data := .seq acc c, slots := #[] }) (hl : as.length = es.size) (hG : PySem.W.DilG es s.heap.objs.size h' as) (hacc : acc.toList = as.map Value.ref) :
    ∃ H' : Hp, (∀ b o, H b = some o → H' b = some o) ∧ H s.heap.objs.size = none ∧ H' s.heap.objs.size = some (.lst (as.map V.ref)) ∧ Paired (fun (t : Addr) (q : V × V) => H' t = some (.tup [q.1, q.2])) as ps ∧ Inv X pins σ H' { s with heap := h', toks := tk } := by
  have hSn : s.heap.objs.size ∉ as := fun z => Nat.lt_irrefl _ (hG.above _ z)
  have nd : as.Nodup := List.Pairwise.imp (fun {a b} (h : a < b) => Nat.ne_of_lt h) hG.rise
  have new : ∀ t ∈ as, H t = none := fun t ht => I.hok.fresh (Nat.le_of_lt (hG.above t ht))
  have newS : H s.heap.objs.size = none := I.hok.fresh (Nat.le_refl _)
  have atP := putP_at as ps (upd H s.heap.objs.size (.lst (as.map V.ref))) (by omega) nd
  have off : ∀ b, b ∉ as → b ≠ s.heap.objs.size → putP (upd H s.heap.objs.size (.lst (as.map V.ref))) as ps b = H b := fun b h1 h2 => by rw [putP_off as ps _ h1, upd_ne h2]
  have low : ∀ b o, s.heap.get? b = some o → b ∉ as ∧ b ≠ s.heap.objs.size := fun b o e => ⟨fun z => absurd (Heap.lt_size e) (Nat.not_lt.mpr (Nat.le_of_lt (hG.above b z))), Nat.ne_of_lt (Heap.lt_size e)⟩
  have kp : ∀ b u, H b = some u → (putP (upd H s.heap.objs.size (.lst (as.map V.ref))) as ps) b = some u := fun b u e => by
    rw [off b (fun z => by rw [new b z] at e; cases e) (fun z => by rw [z, newS] at e; cases e)]
    exact e
  have eS : putP (upd H s.heap.objs.size (.lst (as.map V.ref))) as ps s.heap.objs.size = some (.lst (as.map V.ref)) := by rw [putP_off as ps _ hSn, upd_same]
  refine ⟨putP (upd H s.heap.objs.size (.lst (as.map V.ref))) as ps, kp, newS, eS, atP, ?_⟩
  refine I.call' (ch := []) rfl ⟨fun b o q _ _ _ => hk b o q, fun b o q _ _ _ => ⟨o.slots, hk b o q⟩, fun b o q n _ => ?_, fun b o q _ => ⟨o, hk b o q⟩, fun b xs q => kp b _ q, fun b o u q => kp b _ q, fun b ps q => ⟨#[], by rw [kp b _ q]; simp⟩⟩ (fun b u q => ?_) I.bare fun b z => by simp at z
  · obtain ⟨z1, z2⟩ := low b o q
    rw [off b z1 z2]
    exact n
  · by_cases hb : b ∈ as
    · obtain ⟨j, pk, e1, e2, e3⟩ := LiI.paired_ix atP hb
      rw [e3] at q
      cases q
      obtain ⟨hj, f3⟩ := hG.pairs j b e1
      obtain ⟨g2, g3⟩ := rel j pk e2 hj
      exact ⟨by show 2 ≤ sizeLine; decide, [es[j].key, es[j].val], .cons g2 (.cons g3 .nil), ⟨_, f3, rfl, _, rfl⟩⟩
    · by_cases hb2 : b = s.heap.objs.size
      · rw [hb2] at q ⊢
        rw [eS] at q
        cases q
        refine ⟨by rw [List.length_map]; omega, acc.toList, c, by rw [hacc]; exact LiI.vals_refs as, ?_⟩
        rw [Array.toArray_toList]
        exact hS
      · rw [off b hb hb2] at q
        exact (I.hok b u q).stay (fun d v _ y => hk d v y) (fun d y => kp d _ y) fun d xs y => kp d _ y
def tItemsT (te : TE) : TE := fun σ H Q => te σ H fun x H1 => ∃ (d : Addr) (kvs : List (List Key × V)), x = .ref d ∧ H1 d = some (.dT kvs) ∧
  ∀ (H' : Hp) (p : Addr) (ts bs : List Addr), (∀ b o, H1 b = some o → H' b = some o) → H1 p = none → H' p = some (.lst (ts.map V.ref)) → Paired (fun (b : Addr) (q : List Key × V) => H1 b = some (.tup (q.1.map kV))) bs kvs →
    Paired (fun (t : Addr) (q : Addr × (List Key × V)) => H' t = some (.tup [.ref q.1, q.2.2])) ts (bs.zip kvs) → Q (.ref p) H'
theorem pe_itemsT {e : Expr} {te : TE} {p apos cpos pos : Pos} (hc : X.calm = true) (he : PE X e te) (hg : Gl X "list") (hm : X.mg "list" = none) (hv : bootBuiltins "list" = some (.type "list")) (hbase : attributeBase e "items" X.env (eval e X.env) = eval e X.env := by rfl) (hline : (apos.endLine == cpos.line) = true := by rfl)
    (hs : starEach [.Call (.Attribute e "items" apos) [] [] cpos] X.env = (false, eval (.Call (.Attribute e "items" apos) [] [] cpos) X.env) :: starEach [] X.env := by rfl) :
    PE X (.Call (.Name "list" p) [.Call (.Attribute e "items" apos) [] [] cpos] [] pos) (tItemsT te) := by
  refine ⟨fun pins s σ H Q I hq => ?_⟩
  refine wpAny_Call_Name_kw (ld_blt I hg hm hv ?_)
  refine PyProof.Rows.callWith_type1 ?_ hs rfl
  rw [hs]
  show wpAny _ _ (spliced ((false, eval (.Call (.Attribute e "items" apos) [] [] cpos) X.env) :: backTo pos (starEach [] X.env))) _ _ s
  refine Calls.spliced_cons ?_
  refine wpAny_Call_method (T := "dict") (id := "dict.items") hbase rfl hline PySem.F.plainAttrs_dict PySem.F.slot_dict_items PySem.F.type_dict_items (thn (he.run pins s σ H _ I hq) fun u s1 ⟨x, H1, I1, rx, d, kvs, ex, hd, q⟩ => ?_)
  subst ex
  obtain rfl : u = Value.ref d := rx
  obtain ⟨z, hs0, xs, rel, o, es, ep, ho, hx, hdt, he2, hnd⟩ := (show ObjOk X.prog X.w H1 s1.heap d (.dT kvs) from I1.hok d _ hd)
  have raw : s1.heap.DictRaw d es ep := ⟨o, ho, hx, hdt⟩
  have I2 : Inv X pins σ H1 { s1 with heap := s1.heap.push { cls := .type "dict_items", data := .fields #[.ref d] } } := I1.kept (t' := s1.toks) fun b ob q => Heap.get?_push_of_some _ q
  refine ⟨raw.typeIs, fun b q => by cases q; exact ⟨o, ho, hx.2.1⟩, ?_⟩
  show wpAny _ _ (callWith cpos (.builtin "dict.items") [.ref d] [] []) _ X.xe s1
  refine method_meetsIn PySem.F.slot_dict_items PySem.F.entry_dict_items rfl (PySem.evalArgs_none ⟨rfl, raw.typeIs, PySem.F.args_dict_items_1 _, _, DT.meetsItems (es := es) (ep := ep) hs0, ⟨o, ho, hx, hdt⟩, ?_⟩)
  refine Calls.spliced_nil ?_
  have l1 : es.size = xs.length := size_of_entries he2
  have l2 : kvs.length = xs.length := Paired.length rel
  refine PySem.W.dil_call (es := es) (ep := ep) (d := d) (I1.ok.hd hc) ⟨_, Heap.get?_push_size _ rfl, rfl, rfl⟩ (raw.at fun oo e => Heap.get?_push_of_some _ e) (by omega) fun h' tk acc c as hk hS hl hG hacc => ?_
  have lz : (xs.map fun y => y.2.1).length = kvs.length := by rw [List.length_map]; omega
  have lps : (((xs.map fun y => y.2.1).zip kvs).map fun y => (V.ref y.1, y.2.2)).length = kvs.length := by rw [List.length_map, List.length_zip]; omega
  obtain ⟨H', k1, k2, k3, k4, J⟩ := items_laidV (tk := tk) (ps := ((xs.map fun y => y.2.1).zip kvs).map fun y => (V.ref y.1, y.2.2)) I2 (by omega) (fun j pp e hj => by
    rw [List.getElem?_map, Option.map_eq_some_iff] at e
    obtain ⟨y, e1, rfl⟩ := e
    rw [List.getElem?_zip_eq_some] at e1
    obtain ⟨e2, e3⟩ := e1
    rw [List.getElem?_map, Option.map_eq_some_iff] at e2
    obtain ⟨w, e4, e5⟩ := e2
    obtain ⟨w2, f1, f2, f3, f4⟩ := LiI.paired_get rel e3
    rw [e4] at f1
    cases f1
    have qe := entry_at he2 j
    rw [e4, Array.getElem?_eq_getElem hj] at qe
    have e6 := Option.some.inj qe
    rw [e6]
    refine ⟨?_, f4⟩
    show Value.ref w.2.1 = Value.ref y.1
    rw [e5]) (by omega) hk hS hl hG hacc
  refine ⟨.ref _, H', J, rfl, q H' _ as (xs.map fun y => y.2.1) k1 k2 k3 ?_ ?_⟩
  · have : ∀ {kvs : List (List Key × V)} {xs : List (List Key × Addr × Value)}, KT H1 kvs xs → Paired (fun (b : Addr) (q : List Key × V) => H1 b = some (.tup (q.1.map kV))) (xs.map fun y => y.2.1) kvs := by
      intro kvs xs r
      induction r with
      | nil => exact Paired.nil
      | cons h t ih => exact Paired.cons h.2.1 ih
    exact this rel
  · have : ∀ {as : List Addr} {zs : List (Addr × (List Key × V))}, Paired (fun (t : Addr) (q : V × V) => H' t = some (.tup [q.1, q.2])) as (zs.map fun y => (V.ref y.1, y.2.2)) → Paired (fun (t : Addr) (q : Addr × (List Key × V)) => H' t = some (.tup [.ref q.1, q.2.2])) as zs := by
      intro as zs
      induction zs generalizing as with
      | nil =>
        intro r
        cases r
        exact Paired.nil
      | cons z zs ih =>
        intro r
        cases r with
        | cons h t => exact Paired.cons h (ih t)
    exact this k4
theorem jc_dictPTM (hc : X.calm = true) (hu : X.A.units + 2 < cLine) : CallR X (.type "dict") (MA W fDictPTM) := by
  intro pins s σ H xs us Q I rx ⟨ι, st, ds, d, st', r, h, e, k⟩
  unfold fDictPTM at e
  split at e
  · obtain ⟨v, rfl, hv⟩ := reps1 h
    split at e
    · rename_i ys q
      split at e
      · rename_i ks ws e2
        cases e
        obtain ⟨a, vs, rfl, ha, hvs⟩ := seqL_ok r hv q
        obtain ⟨qs, rfl, rfl, f3, f4⟩ := triples hvs e2
        obtain ⟨xs2, g1, g2, g3⟩ := kt_of I f4
        obtain ⟨z, its, n, rvs, hl⟩ := I.lstM ha
        obtain ⟨u, eu, ru⟩ := vals1 rx
        subst eu
        cases ru
        rw [List.length_map] at z
        have ei : its = (qs.map (·.1)).map Value.ref := by
          have rvs' : Vals ((qs.map (·.1)).map V.ref) its := by rw [List.map_map]; exact rvs
          exact refs_at rvs'
        have hlen : its.length = qs.length := by rw [ei]; simp
        have kin := KT.all I.hok g1
        let ps : List (Value × Value) := xs2.map fun x => (Value.ref x.2.1, x.2.2)
        let Ts : Nat → Addr := fun j => (qs.map (·.1)).getD j 0
        have hps : ps.length = qs.length := by simp [ps, g2]
        refine PySem.call_dict_pairsH (knd := tupleKind (mixKind X.prog X.w)) (ps := xs2) (PairArg.list a its.toArray Ts ps) (I.ok.hd hc) (show X.A.units + 2 < cLine from hu) ⟨⟨_, n, hl.2, rfl, rfl, rfl⟩, by simp only [List.size_toArray]; omega, fun j key vv e => ?_⟩ ⟨by rw [hps, g2], fun i key vv e => ?_⟩ (fun h' hk x hx => ?_) (by rw [hps]; exact z) fun h' tk hd' hk => ?_
        · have hj : j < qs.length := by rw [← hps]; exact (List.getElem?_eq_some_iff.mp e).1
          obtain ⟨u, f5, f6⟩ := g3 j _ (List.getElem?_eq_getElem hj)
          have e' : (ps[j]?) = some (Value.ref qs[j].2.2.1, u) := by
            show (xs2.map _)[j]? = _
            rw [List.getElem?_map, f5]; rfl
          rw [e'] at e
          cases e
          have hT : Ts j = qs[j].1 := by
            show (qs.map (·.1)).getD j 0 = _
            rw [List.getD_eq_getElem?_getD, List.getElem?_map, List.getElem?_eq_getElem hj]; rfl
          rw [hT]
          refine ⟨?_, .inl f6⟩
          rw [List.getElem?_toArray, ei, List.getElem?_map, List.getElem?_map, List.getElem?_eq_getElem hj]; rfl
        · have e' : (xs2.map fun x => (Value.ref x.2.1, x.2.2))[i]? = some (key, vv) := e
          rw [List.getElem?_map, Option.map_eq_some_iff] at e'
          obtain ⟨x, f5, f6⟩ := e'
          cases f6
          exact ⟨x.1, x.2.1, f5, rfl⟩
        · obtain ⟨o, items, m, w1, w2⟩ := (kin x hx).1
          exact ⟨o, items, m, hk _ _ (Nat.ne_of_lt (Heap.lt_size w1)) (by simp) w1, w2⟩
        · have hp : H s.heap.objs.size = none := I.hok.fresh (Nat.le_refl _)
          have km := KT.mrg g1 (.nil : KT H [] [])
          obtain ⟨us', m1, m2, m3⟩ := mrg_ok (κ := List Key) (ks2 := qs.map fun q => q.2.1) (ks := []) (ds := []) (us := []) (W := W) (ι := ι) (H := H) Reps.nil rfl f3 (by rw [f3.length]; simp)
          have ez : (qs.map fun q => q.2.1).zip (qs.map fun q => q.2.2.2) = qs.map fun q => (q.2.1, q.2.2.2) := by rw [List.zip_map']
          rw [ez] at m1
          have m1' : mrgZ [] (qs.map fun q => (q.2.1, q.2.2.2)) = (mrgK [] [] (qs.map fun q => q.2.1) ws).zip us' := m1
          rw [m1'] at km
          have hle : ((mrgK [] [] (qs.map fun q => q.2.1) ws).zip us').length ≤ sizeLine := by
            rw [← m1']
            have := mrgZ_len (qs.map fun q => (q.2.1, q.2.2.2)) []
            rw [List.length_map, List.length_nil] at this
            omega
          obtain ⟨o', es, ep, d1, d2, d3, d4, _, d5⟩ := hd'
          refine ⟨.ref s.heap.objs.size, upd H s.heap.objs.size (.dT ((mrgK [] [] (qs.map fun q => q.2.1) ws).zip us')), I.laid (t' := tk) (fun b o z => hk b o (by simp) z) (Nat.le_refl _)
            ⟨hle, beq_eq_false_iff_ne.mpr (Nat.ne_of_gt I.big), _, km.keeps (fun b ys z => kp_new hp z), o', es, ep, d1, d2, d3, d4, d5⟩, rfl, k.cellM r hp ⟨us', upd_same, m2, Reps.grow (Grow.cell hp) _ _ m3⟩⟩
      · cases e
    · cases e
  · cases e

theorem rep_keyD {ι : Lay} {H : Hp} : ∀ ks : List Key, Reps W ι H (ks.map kD) (ks.map kV)
  | [] => Reps.nil
  | .inl i :: ks => Reps.cons int_rep (rep_keyD ks)
  | .inr x :: ks => Reps.cons str_rep (rep_keyD ks)
theorem rep_keys {ι : Lay} {H : Hp} : ∀ {ks : List (List Key)} {us : List V} {bs : List Addr}, ks.length = us.length → IsKeys H (ks.zip us) bs → Reps W ι H (ks.map fun k => .tup (k.map kD)) (bs.map V.ref)
  | [], us, bs, _, h => by
    cases h
    exact Reps.nil
  | k :: ks, [], bs, hl, h => by simp at hl
  | k :: ks, u :: us, bs, hl, h => by
    unfold IsKeys at h
    rw [List.zip_cons_cons] at h
    cases h with
    | cons e t =>
      refine Reps.cons ?_ (rep_keys (by simpa using hl) t)
      simp only [Rep]
      exact ⟨_, rfl, _, e, rep_keyD k⟩
theorem jc_keysTM (hc : X.calm = true) : CallR X (.type "list") (MA W fKeysTM) := by
  intro pins s σ H xs us Q I rx ⟨ι, st, ds, d, st', r, h, e, k⟩
  unfold fKeysTM at e
  split at e
  · obtain ⟨v, rfl, hv⟩ := reps1 h
    split at e
    · rename_i ks vs q
      cases e
      obtain ⟨a, ws, rfl, h1, h2, h3⟩ := dicT_ok r hv q
      refine call_list_dT hc pins s σ H _ us Q I rx ⟨a, _, rfl, .inl h1, fun p bs hp hk => ?_⟩
      exact k.cellM r hp ⟨_, upd_same, Reps.grow (Grow.cell hp) _ _ (rep_keys (by rw [h2, h3.length]) hk)⟩
    · cases e
  · cases e
theorem rep_items {ι : Lay} {H H' : Hp} (s : Same H H') : ∀ {ks : List (List Key)} {vs : List D} {us : List V} {bs ts : List Addr}, ks.length = vs.length → Reps W ι H' vs us → Paired (fun (b : Addr) (q : List Key × V) => H b = some (.tup (q.1.map kV))) bs (ks.zip us) →
    Paired (fun (t : Addr) (q : Addr × (List Key × V)) => H' t = some (.tup [.ref q.1, q.2.2])) ts (bs.zip (ks.zip us)) → Reps W ι H' ((ks.zip vs).map fun p => .tup [.tup (p.1.map kD), p.2]) (ts.map V.ref)
  | [], vs, us, bs, ts, _, _, h, h2 => by
    cases h
    cases h2
    exact Reps.nil
  | k :: ks, [], us, bs, ts, hl, _, _, _ => by simp at hl
  | k :: ks, v :: vs, us, bs, ts, hl, hr, h, h2 => by
    obtain ⟨u, us, rfl, h3, h4⟩ := hr.uncons
    rw [List.zip_cons_cons] at h h2
    cases h with
    | cons e t =>
      rw [List.zip_cons_cons] at h2
      cases h2 with
      | cons e2 t2 =>
        refine Reps.cons ?_ (rep_items s (by simpa using hl) h4 t t2)
        simp only [Rep]
        refine ⟨_, rfl, _, e2, Reps.cons ?_ (Reps.cons h3 Reps.nil)⟩
        simp only [Rep]
        exact ⟨_, rfl, _, s _ _ e, rep_keyD k⟩
theorem j_itemsT {e : Expr} {m : EM} {p apos cpos pos : Pos} (hc : X.calm = true) (hg : Gl X "list") (hm : X.mg "list" = none) (hv : bootBuiltins "list" = some (.type "list")) (he : PE X e (T W m)) (hbase : attributeBase e "items" X.env (eval e X.env) = eval e X.env := by rfl) (hline : (apos.endLine == cpos.line) = true := by rfl)
    (hs : starEach [.Call (.Attribute e "items" apos) [] [] cpos] X.env = (false, eval (.Call (.Attribute e "items" apos) [] [] cpos) X.env) :: starEach [] X.env := by rfl) :
    PE X (.Call (.Name "list" p) [.Call (.Attribute e "items" apos) [] [] cpos] [] pos) (T W (eItemsT m)) := (pe_itemsT hc he hg hm hv hbase hline hs).imp fun σ H Q ⟨ι, st, env, d, st', r, n, e, k⟩ => by
  unfold eItemsT at e
  split at e
  · rename_i x s1 e1
    split at e
    · rename_i ks vs q
      cases e
      refine T.of r n e1 fun v ι1 H1 g1 r1 p1 => ?_
      obtain ⟨a, us, rfl, ha, hl, rep⟩ := dicT_ok r1 p1 q
      refine ⟨a, _, rfl, ha, fun H' p ts bs s' hp hp' hb ht => ?_⟩
      have sm : Same H1 H' := s'
      have g2 : Grow ι1 H1 ι1 H' := Grow.same sm
      refine k _ ι1 H' (g1.trans g2) (r1.same sm) ?_
      simp only [Rep]
      exact ⟨p, rfl, r1.free hp, _, hp', rep_items sm hl (Reps.grow g2 _ _ rep) hb ht⟩
    · cases e
  · cases e
end
section
variable {env : Env} {st : Store} {Q : D → Store → Prop}
theorem ev_itemsT {m : EM} : EvE (eItemsT m) env st Q ↔ EvE m env st fun x s1 => ∃ ks vs, dicT s1 x = some (ks, vs) ∧ Q (.lst ((ks.zip vs).map fun p => .tup [.tup (p.1.map kD), p.2])) s1 := by
  unfold EvE eItemsT
  constructor
  · rintro ⟨d, s, e, q⟩
    split at e
    · rename_i x s1 e1
      split at e
      · rename_i ks vs q1
        cases e
        exact ⟨_, _, e1, ks, vs, q1, q⟩
      · cases e
    · cases e
  · rintro ⟨x, s1, e1, ks, vs, q1, q⟩
    exact ⟨_, _, by rw [e1]; simp only [q1], q⟩
end
end My

namespace My
open PySem PySem.Spec PyProof.Rows L2
local macro_rules | `(tactic| walk_at "ev") => `(tactic| try simp only [ev_var, ev_c, ev_un, ev_op, ev_nil, ev_cons, ev_call, ev_callD, ev_callN, ev_tup, ev_lst, ev_lstM, ev_dkM, ev_dtM, ev_bE, ev_bAnd, ev_bOr, ev_bNot, ev_bYes, ev_eAnd, ev_eOr, ev_eNot, ev_if, ev_chain, ev_oNone, ev_oSome, ev_sl, ev_bm, ev_skip, ev_brk, ev_cnt, ev_seq, then_nx, then_rt, then_bk, then_ct, ev_set, ev_asg, ev_par, ev_par3, ev_ret, ev_drop, ev_sIf, ev_aug, ev_sub, ev_seqI, ev_range1, ev_range2, ev_for, ev_lc, enter, gNm, gsNil, gsCons, gTp, wipeE,
  List.map_cons, List.map_nil, List.length_cons, List.length_nil, List.replicate, List.cons_append, List.nil_append, List.append_nil, List.getElem?_cons_zero, List.getElem?_cons_succ, List.set_cons_zero, List.set_cons_succ, Option.some.injEq, exists_eq_left', exists_eq_left, D.bl.injEq, D.int.injEq, D.str.injEq, D.tup.injEq, D.lst.injEq, D.ref.injEq, decide_eq_true_eq, List.cons.injEq, and_true, true_and, if_true, if_false, reduceCtorEq, Bool.false_eq_true, ite_true, ite_false, Nat.sub_self, Nat.reduceAdd, Nat.reduceSub, Nat.zero_add, exists_and_left, exists_const, Bool.not_true, Bool.not_false, Bool.not_eq_true', exists_eq_right, and_assoc, List.length_set, exists_eq_right',
  add_int, addI_int, sub_int, neg_int, lt_int, le_int, gt_int, ge_int, eq_int, ne_int, eq_str, ne_str, eq_bl, ne_bl, eq_is, eq_si, ne_is, ne_si, is_nn, ix_tup, ix_lst, ix_scr, at_0, at_1, at_2, at_3, len_tup, len_lst, len_scr, outF, outK, ev_len_tup, ev_len_lst, ev_len_scr, ev_abs, ev_int, ev_intb, ev_max2, ev_min2, ev_tuple_lst, ev_tuple_tup, ev_list_lst, ev_list_tup])
/- _law_take: 0:_law_box_here, 1:_law_many, 2:_law_digit, 3:_law_mixed -/
noncomputable def mb_Ltake : SM :=
(sSeq (sIf (bE (eOp dGt (eOp dIx (eVar 0) (eC (.int 0))) (eC (.int 0))))
(sSeq (sSet 2 (eOp dMod (eOp dIx (eVar 0) (eC (.int 0))) (eVar 1)))
(sSeq (sSub dPut (eVar 0) (eC (.int 0)) (eOp dFdiv (eOp dIx (eVar 0) (eC (.int 0))) (eVar 1)))
(sRet (eVar 2))))
sSkip)
(sSeq (sSub dPut (eVar 0) (eC (.int 2)) (eOp dAdd (eOp dIx (eVar 0) (eC (.int 2))) (eC (.int 1))))
(sSeq (sSet 3 (eOp dMod (eOp dMul (eOp dAdd (eOp dAdd (eOp dIx (eVar 0) (eC (.int 1))) (eOp dMul (eOp dMul (eC (.int 65557)) (eOp dIx (eVar 0) (eC (.int 2)))) (eOp dIx (eVar 0) (eC (.int 2))))) (eC (.int 19))) (eC (.int 48311))) (eC (.int 2305843009213693921))))
(sSeq (sSet 3 (eOp dMod (eOp dMul (eVar 3) (eOp dAdd (eOp dMod (eVar 3) (eC (.int 1000037))) (eOp dMul (eC (.int 99989)) (eOp dIx (eVar 0) (eC (.int 2)))))) (eC (.int 2305843009213693907))))
(sRet (eOp dMod (eOp dAdd (eOp dFdiv (eVar 3) (eC (.int 103))) (eOp dFdiv (eVar 3) (eC (.int 1000003)))) (eVar 1)))))))
noncomputable def mf_Ltake : FM := mkF 4 mb_Ltake

/- _law_box: 0:_law_script, 1:_law_k, 2:_law_cell, 3:_law_own -/
noncomputable def mb_Lbox : SM :=
(sSeq (sSet 2 (eIf (bE (eOp dLt (eVar 1) (eCall fLen (aCons (eVar 0) aNil)))) (eOp dIx (eVar 0) (eVar 1)) (eOp dAdd (eOp dMul (eC (.int 29)) (eVar 1)) (eC (.int 6)))))
(sSeq (sSet 3 (eOp dMul (eOp dMod (eCall fAbs (aCons (eVar 2) aNil)) (eOp dPow (eOp dPow (eC (.int 10)) (eC (.int 60))) (eC (.int 5)))) (eCall fInt (aCons (eOp dGe (eCall fAbs (aCons (eVar 2) aNil)) (eOp dPow (eC (.int 10)) (eC (.int 18)))) aNil))))
(sRet (eLstM (aCons (eVar 3) (aCons (eOp dMod (eOp dAdd (eOp dAdd (eOp dMul (eOp dMod (eVar 2) (eC (.int 2305843009213693951))) (eC (.int 70003))) (eOp dMul (eOp dMul (eC (.int 6011)) (eVar 1)) (eVar 1))) (eC (.int 61))) (eC (.int 2305843009213693921))) (aCons (eC (.int 0)) aNil)))))))
noncomputable def mf_Lbox : FM := mkK 4 mb_Lbox

/- _law_of: 0:_law_box_here, 1:_law_some -/
noncomputable def mb_Lof : SM :=
(sRet (eOp dIx (eVar 1) (eCallD 2 mf_Ltake [] (aCons (eVar 0) (aCons (eCall fLen (aCons (eVar 1) aNil)) aNil)))))
noncomputable def mf_Lof : FM := mkF 2 mb_Lof

/- _law_book: 0:_law_box_here, 1:_law_top, 2:_law_size, 3:_law_found, 4:_law_turn, 5:_law_some -/
noncomputable def mb_Lbook : SM :=
(sSeq (sPar 2 3 (aCons (eOp dAdd (eC (.int 1)) (eCallD 2 mf_Ltake [] (aCons (eVar 0) (aCons (eVar 1) aNil)))) (aCons eDkM aNil)))
(sSeq (sFor (iRange1 (eOp dAdd (eC (.int 1)) (eCallD 2 mf_Ltake [] (aCons (eVar 0) (aCons (eC (.int 6)) aNil))))) (gNm 4)
(sSeq (sSet 5 (eLst (aCons (eOp dAdd (eC (.int 1)) (eCallD 2 mf_Ltake [] (aCons (eVar 0) (aCons (eVar 2) aNil)))) (aCons (eOp dAdd (eOp dFdiv (eVar 2) (eC (.int 2))) (eC (.int 1))) (aCons (eC (.int 1)) (aCons (eVar 2) (aCons (eCall fMax (aCons (eC (.int 1)) (aCons (eOp dFdiv (eVar 2) (eC (.int 2))) aNil))) (aCons (eCall fMax (aCons (eC (.int 1)) (aCons (eOp dFdiv (eVar 2) (eC (.int 3))) aNil))) aNil))))))))
(sSub dPut (eVar 3) (eCallD 2 mf_Lof [] (aCons (eVar 0) (aCons (eOp dAdd (eOp dMul (eSl (eVar 5) oNone (oSome (eC (.int 1)))) (eC (.int 3))) (eVar 5)) aNil))) (eC (.bl true)))))
(sRet (eTup (aCons (eVar 2) (aCons (eCall fTuple (aCons (eCall fSorted (aCons (eVar 3) aNil)) aNil)) aNil))))))
noncomputable def mf_Lbook : FM := mkF 6 mb_Lbook

/-- the box: the digits left, the mixed number, how many were mixed -/
def BoxC (n : Nat) (c : D) : Prop := ∃ o m k : Int, c = .lst [.int o, .int m, .int k] ∧ 0 ≤ o ∧ 0 ≤ m ∧ m < 2 ^ 62 ∧ 0 ≤ k ∧ k ≤ n
theorem BoxC.mono {n m : Nat} {c : D} (h : BoxC n c) (l : n ≤ m) : BoxC m c := by
  obtain ⟨o, a, k, h1, h2, h3, h4, h5, h6⟩ := h
  exact ⟨o, a, k, h1, h2, h3, h4, h5, by omega⟩
theorem BoxC.blw {n : Nat} {c : D} (h : BoxC n c) : c.blw 0 = true := by
  obtain ⟨o, a, k, rfl, _⟩ := h
  exact blw_lst (blws_cons blw_int (blws_cons blw_int (blws_cons blw_int blws_nil)))
theorem fin_set {st : Store} {b : Nat} {c r : D} {Q : D → Store → Prop} (h : r.blw 0 = true) (hc : c.blw 0 = true) (q : Q r (st.set b c)) : EvF (fun _ s => fin st r s) [] (st.set b c) Q :=
  fin_tree h (by have := closeOk_set st [] b c hc; rwa [List.append_nil] at this) (by rw [cut_b0]; exact q)
/-- a draw: a number below many, and the box is another -/
theorem ev_take {st : Store} {b n : Nat} {c : D} {many : Int} {Q : D → Store → Prop} (hb : st[b]? = some c) (hc : BoxC n c) (hn : n < 2 ^ 40) (h1 : 0 < many) (h2 : many < 2 ^ 64)
    (k : ∀ r c', 0 ≤ r → r < many → BoxC (n + 1) c' → Q (.int r) (st.set b c')) : EvF mf_Ltake [.ref b, .int many] st Q := by
  obtain ⟨o, m, u, rfl, ho, hm0, hm1, hu0, hu1⟩ := hc
  have hlt : b < st.length := (List.getElem?_eq_some_iff.mp hb).1
  have hb2 : ∀ l, (st.set b l)[b]? = some l := fun l => cell_b0 hlt
  rw [mf_Ltake, ev_mkF]
  unfold mb_Ltake
  walk_at "ev"
  simp only [ix_cell hb, at_0, gt_int, Option.some.injEq, D.bl.injEq, exists_eq_left', decide_eq_true_eq]
  split
  · have d1 : CDivW o many := cdiv 64 h1 (by omega)
    try walk_at "ev"
    simp only [ix_cell hb, at_0, mod_int h1, fdiv_int d1, put_cell (i := 0) hb (by decide) (by show (0 : Int) < 3; decide), Option.some.injEq, exists_eq_left']
    exact fin_set blw_int (blw_lst (blws_cons blw_int (blws_cons blw_int (blws_cons blw_int blws_nil)))) (k _ _ (Int.emod_nonneg _ (by omega)) (Int.emod_lt_of_pos _ h1) ⟨o / many, m, u, rfl, Int.ediv_nonneg ho (by omega), hm0, hm1, hu0, by omega⟩)
  · walk_at "ev"
    simp only [ix_cell hb, at_2, add_int, put_cell (i := 2) hb (by decide) (by show (2 : Int) < 3; decide), Option.some.injEq, exists_eq_left']
    have e2 : (List.set [D.int o, D.int m, D.int u] (2 : Int).toNat (D.int (u + 1))) = [.int o, .int m, .int (u + 1)] := rfl
    rw [e2]
    try walk_at "ev"
    have q1 : CMulW 65557 (u + 1) := cmul 20 64 (by decide) (by omega)
    have q2 : CMulW (65557 * (u + 1)) (u + 1) := cmul 64 64 (by omega) (by omega)
    have b1 : (u + 1) * (u + 1) ≤ 2 ^ 41 * 2 ^ 41 := Int.mul_le_mul (by omega) (by omega) (by omega) (by omega)
    have b0 : 0 ≤ (u + 1) * (u + 1) := Int.mul_nonneg (by omega) (by omega)
    have e3 : 65557 * (u + 1) * (u + 1) = 65557 * ((u + 1) * (u + 1)) := Int.mul_assoc ..
    have q3 : CMulW (m + 65557 * (u + 1) * (u + 1) + 19) 48311 := cmul 200 20 (by rw [e3]; omega) (by decide)
    simp only [ix_cell (hb2 _), at_1, at_2, add_int, mul_int q1, mul_int q2, mul_int q3, mod_int (show (0 : Int) < 2305843009213693921 by decide), Option.some.injEq, exists_eq_left']
    generalize (m + 65557 * (u + 1) * (u + 1) + 19) * 48311 = z
    have z0 : 0 ≤ z % 2305843009213693921 := Int.emod_nonneg _ (by decide)
    have z1 : z % 2305843009213693921 < 2305843009213693921 := Int.emod_lt_of_pos _ (by decide)
    try walk_at "ev"
    have q4 : CMulW 99989 (u + 1) := cmul 20 64 (by decide) (by omega)
    have q5 : CMulW (z % 2305843009213693921) (z % 2305843009213693921 % 1000037 + 99989 * (u + 1)) := cmul 64 100 (by omega) (by omega)
    simp only [ix_cell (hb2 _), at_1, at_2, add_int, mod_int (show (0 : Int) < 1000037 by decide), mul_int q4, mul_int q5, mod_int (show (0 : Int) < 2305843009213693907 by decide), Option.some.injEq, exists_eq_left']
    generalize z % 2305843009213693921 * (z % 2305843009213693921 % 1000037 + 99989 * (u + 1)) % 2305843009213693907 = y
    try walk_at "ev"
    simp only [fdiv_int (cdiv (j := 103) 64 (by decide) (by decide)), fdiv_int (cdiv (j := 1000003) 64 (by decide) (by decide)), add_int, mod_int h1, Option.some.injEq, exists_eq_left']
    exact fin_set blw_int (blw_lst (blws_cons blw_int (blws_cons blw_int (blws_cons blw_int blws_nil)))) (k _ _ (Int.emod_nonneg _ (by omega)) (Int.emod_lt_of_pos _ h1) ⟨o, m, u + 1, rfl, ho, hm0, hm1, by omega, by omega⟩)
/-- one of some values -/
theorem ev_of {st : Store} {b n : Nat} {c d : D} {xs : List D} {Q : D → Store → Prop} (hb : st[b]? = some c) (hc : BoxC n c) (hn : n < 2 ^ 40) (hd : d = .lst xs ∨ d = .tup xs) (hx : D.blws 0 xs = true) (hne : xs ≠ []) (hl : xs.length < 2 ^ 60)
    (k : ∀ v c', v ∈ xs → BoxC (n + 1) c' → Q v (st.set b c')) : EvF mf_Lof [.ref b, d] st Q := by
  have hpos : 0 < xs.length := List.length_pos_iff.mpr hne
  rw [mf_Lof, ev_mkF]
  unfold mb_Lof
  rcases hd with rfl | rfl
  all_goals
    walk_at "ev"
    refine ev_take hb hc hn (by omega) (by omega) fun r c' h0 h1 hc' => ?_
    obtain ⟨v, hv, hm⟩ := atI_in h0 h1
    exact ⟨v, hv, fin_set (blws_mem hx v hm) hc'.blw (k v c' hm hc')⟩
/-- the box of a cell of the script -/
theorem ev_box {st : Store} {ns : List Int} {j : Int} {Q : D → Store → Prop} (hl : ns.length ≤ 63) (h0 : 0 ≤ j) (h1 : j < 1000) (k : ∀ c, BoxC 0 c → Q (.ref st.length) (st ++ [c])) : EvF mf_Lbox [.scr ns, .int j] st Q := by
  rw [mf_Lbox, ev_mkK]
  unfold mb_Lbox
  have q1 : CMulW 29 j := cmul 20 20 (by decide) (by omega)
  have main : ∀ cell : Int, EvS (sSeq (sSet 3 (eOp dMul (eOp dMod (eCall fAbs (aCons (eVar 2) aNil)) (eOp dPow (eOp dPow (eC (.int 10)) (eC (.int 60))) (eC (.int 5)))) (eCall fInt (aCons (eOp dGe (eCall fAbs (aCons (eVar 2) aNil)) (eOp dPow (eC (.int 10)) (eC (.int 18)))) aNil))))
      (sRet (eLstM (aCons (eVar 3) (aCons (eOp dMod (eOp dAdd (eOp dAdd (eOp dMul (eOp dMod (eVar 2) (eC (.int 2305843009213693951))) (eC (.int 70003))) (eOp dMul (eOp dMul (eC (.int 6011)) (eVar 1)) (eVar 1))) (eC (.int 61))) (eC (.int 2305843009213693921))) (aCons (eC (.int 0)) aNil))))))
      [some (.scr ns), some (.int j), some (.int cell), none] st (outK Q) := by
    intro cell
    have w1 : CPowW 10 60 := ⟨by decide, by decide +kernel⟩
    have w2 : CPowW ((10 : Int) ^ (60 : Int).toNat) 5 := ⟨by decide, by decide +kernel⟩
    have w3 : CPowW 10 18 := ⟨by decide, by decide +kernel⟩
    have p1 : ∀ s : Store, dPow (.int 10) (.int 60) s = some (.int ((10 : Int) ^ (60 : Int).toNat)) := fun s => if_pos w1
    have p2 : ∀ s : Store, dPow (.int ((10 : Int) ^ (60 : Int).toNat)) (.int 5) s = some (.int (((10 : Int) ^ (60 : Int).toNat) ^ (5 : Int).toNat)) := fun s => if_pos w2
    have p3 : ∀ s : Store, dPow (.int 10) (.int 18) s = some (.int ((10 : Int) ^ (18 : Int).toNat)) := fun s => if_pos w3
    have B0 : (0 : Int) < ((10 : Int) ^ (60 : Int).toNat) ^ (5 : Int).toNat := by decide +kernel
    have B1 : (((10 : Int) ^ (60 : Int).toNat) ^ (5 : Int).toNat).natAbs < 2 ^ 2000 := by decide +kernel
    walk_at "ev"
    simp only [p1, p2, p3, Option.some.injEq, exists_eq_left']
    generalize ((10 : Int) ^ (60 : Int).toNat) ^ (5 : Int).toNat = B at B0 B1
    generalize (10 : Int) ^ (18 : Int).toNat = C
    generalize (if cell < 0 then -cell else cell) = a
    have a0 : 0 ≤ a % B := Int.emod_nonneg _ (by omega)
    have a1 : a % B < B := Int.emod_lt_of_pos _ B0
    simp only [mod_int B0]
    walk_at "ev"
    have e0 : 0 ≤ (if C ≤ a then (1 : Int) else 0) ∧ (if C ≤ a then (1 : Int) else 0) ≤ 1 := by split <;> decide
    generalize (if C ≤ a then (1 : Int) else 0) = t at e0
    have q2 : CMulW (a % B) t := cmul 2000 2 (by
      refine Nat.lt_of_le_of_lt ?_ B1
      omega) (by omega)
    simp only [mul_int q2]
    walk_at "ev"
    have q3 : CMulW (cell % 2305843009213693951) 70003 := cmul 64 20 (by
      have := Int.emod_nonneg cell (show (2305843009213693951 : Int) ≠ 0 by decide)
      have := Int.emod_lt_of_pos cell (show (0 : Int) < 2305843009213693951 by decide)
      omega) (by decide)
    have q4 : CMulW 6011 j := cmul 20 20 (by decide) (by omega)
    have q5 : CMulW (6011 * j) j := cmul 64 20 (by omega) (by omega)
    simp only [mod_int (show (0 : Int) < 2305843009213693951 by decide), mul_int q3, mul_int q4, mul_int q5, add_int, mod_int (show (0 : Int) < 2305843009213693921 by decide), Option.some.injEq, exists_eq_left']
    refine ⟨by decide, k _ ⟨_, _, _, rfl, ?_, ?_, ?_, by omega, by omega⟩⟩
    · exact Int.mul_nonneg a0 e0.1
    · exact Int.emod_nonneg _ (by decide)
    · exact Int.lt_trans (Int.emod_lt_of_pos _ (by decide)) (by decide)
  rw [ev_seq, ev_set]
  refine EvE.mono (Q := fun d s => s = st ∧ ∃ cell : Int, d = .int cell) ?_ fun d s ⟨e, cell, e2⟩ => ?_
  · walk_at "ev"
    split
    · rename_i h
      obtain ⟨v, hv, hm⟩ := atI_in (xs := ns.map D.int) h0 (by rw [List.length_map]; exact h)
      obtain ⟨cell, _, rfl⟩ := List.mem_map.mp hm
      exact ⟨_, hv, cell, rfl⟩
    · simp only [mul_int q1]
      walk_at "ev"
      exact ⟨_, rfl⟩
  · subst e e2
    exact main cell
/-! the rules that are drawn -/
theorem kHas_ints (ns : List Int) (x : Int) : kHas (ns.map (Sum.inl : Int → Key)) (Sum.inl x) = decide (x ∈ ns) := by
  unfold kHas
  rw [List.any_map, Bool.eq_iff_iff, List.any_eq_true, decide_eq_true_eq]
  constructor
  · rintro ⟨y, hy, e⟩
    have := of_decide_eq_true e
    cases this
    exact hy
  · exact fun h => ⟨x, h, decide_eq_true rfl⟩
theorem kPutK_ints (ns : List Int) (x : Int) : kPutK (ns.map (Sum.inl : Int → Key)) (Sum.inl x) = (insL ns x).map Sum.inl := by
  unfold kPutK insL
  rw [kHas_ints]
  by_cases h : x ∈ ns
  · rw [if_pos (decide_eq_true h), if_pos h]
  · rw [if_neg (by simpa using h), if_neg h, List.map_append]; rfl
theorem ev_book {st : Store} {b n : Nat} {c : D} {top : Int} {Q : D → Store → Prop} (hb : st[b]? = some c) (hc : BoxC n c) (hn : n + 40 < 2 ^ 40) (h1 : 1 ≤ top) (h2 : top ≤ 100)
    (k : ∀ S ls c', Rules S ls → S ≤ top → BoxC (n + 20) c' → Q (.tup [.int S, .tup (ls.map .int)]) (st.set b c')) : EvF mf_Lbook [.ref b, .int top] st Q := by
  have hlt : b < st.length := (List.getElem?_eq_some_iff.mp hb).1
  rw [mf_Lbook, ev_mkF]
  unfold mb_Lbook
  walk_at "ev"
  refine ev_take hb hc (by omega) (by omega) (by omega) fun r c1 r0 r1 B1 => ?_
  walk_at "ev"
  refine ev_take (c := c1) (by rw [cell_b hlt]) B1 (by omega) (by omega) (by omega) fun t c2 t0 t1 B2 => ?_
  rw [put_b hlt]
  walk_at "ev"
  refine ⟨by omega, by omega, ?_⟩
  refine for_inv (fun i env s => ∃ (c : D) (ns : List Int) (vs : List D) (x5 x4 : Option D), BoxC (n + 2 + 2 * i) c ∧ env = [some (.ref b), some (.int top), some (.int (1 + r)), some (.ref st.length), x4, x5] ∧ s = st.set b c ++ [.dk (ns.map Sum.inl) vs] ∧
    ns.Nodup ∧ ns.length ≤ i ∧ (0 < i → ns ≠ []) ∧ ∀ x ∈ ns, 1 ≤ x ∧ x ≤ 1 + r) ?_ (fun _ _ _ _ _ => trivial) ?_ ?_
  · exact ⟨c2, [], [], none, none, B2.mono (by omega), rfl, rfl, List.nodup_nil, Nat.le_refl _, fun z => absurd z (by omega), fun _ z => absurd z (by simp)⟩
  · rintro i hi env s ⟨c, ns, vs, x5, x4, B, rfl, rfl, kn, kl, kz, km⟩
    rw [intsTo_len] at hi
    have hi6 : i < 6 := by omega
    refine ⟨_, rfl, ?_⟩
    walk_at "ev"
    refine ev_take (cell_b hlt) B (by omega) (by omega) (by omega) fun z c3 z0 z1 B3 => ?_
    rw [put_b hlt]
    have d2 : CDivW (1 + r) 2 := cdiv 20 (by decide) (by decide)
    have d3 : CDivW (1 + r) 3 := cdiv 20 (by decide) (by decide)
    walk_at "ev"
    simp only [fdiv_int d2, fdiv_int d3]
    walk_at "ev"
    refine ⟨by decide, ?_⟩
    have sl : ∀ (a1 a2 a3 a4 a5 a6 : D) (s : Store), dSl (.lst [a1, a2, a3, a4, a5, a6]) none (some 1) s = some (.lst [a1]) := fun _ _ _ _ _ _ _ => rfl
    have ml : ∀ (a : D) (s : Store), dMul (.lst [a]) (.int 3) s = some (.lst [a, a, a]) := fun a s => mul_lst (by decide) (by decide) (by show 1 * 3 ≤ sizeLine; decide)
    have ct : ∀ (a b1 b2 b3 b4 b5 b6 : D) (s : Store), dAdd (.lst [a, a, a]) (.lst [b1, b2, b3, b4, b5, b6]) s = some (.lst [a, a, a, b1, b2, b3, b4, b5, b6]) := fun _ _ _ _ _ _ _ _ => cat_lst (by show 3 + 6 ≤ sizeLine; decide)
    simp only [sl]
    walk_at "ev"
    simp only [ml]
    walk_at "ev"
    simp only [ct]
    walk_at "ev"
    refine ev_of (cell_b hlt) B3 (by omega) (.inl rfl) ?_ (by simp) (by show 9 < 2 ^ 60; decide) fun v c4 hv B4 => ?_
    · simp only [D.blws, D.blw, Bool.and_true]
    rw [put_b hlt]
    have r3 : (1 + r) / 2 + 1 ≤ 1 + r ∨ 1 + r = 1 := by omega
    have hx : ∃ x : Int, v = .int x ∧ 1 ≤ x ∧ x ≤ 1 + r := by
      simp only [List.mem_cons, List.not_mem_nil, or_false] at hv
      rcases hv with h | h | h | h | h | h | h | h | h
      all_goals first
        | exact ⟨_, h, by omega, by omega⟩
        | (refine ⟨_, h, ?_, ?_⟩ <;> (split <;> omega))
    obtain ⟨x, rfl, x1, x2⟩ := hx
    refine ⟨_, put_dk cell_n rfl (by rw [List.length_map]; exact Nat.lt_of_le_of_lt (Nat.le_trans kl (Nat.le_of_lt hi6)) (by decide)), ?_⟩
    rw [put_n, kPutK_ints]
    exact ⟨c4, B4.mono (by omega), insL ns x, _, rfl, insL_nd kn, Nat.le_trans (insL_len _ _) (by omega), fun _ => insL_ne _ _, fun y hy => (insL_mem hy).elim (km y) (fun e => by omega)⟩
  · rintro env s ⟨c, ns, vs, x5, x4, B, rfl, rfl, kn, kl, kz, km⟩
    rw [intsTo_len] at kl B kz
    have l6 : ns.length ≤ 6 := by omega
    walk_at "ev"
    refine (ev_sorted_dk cell_n (by omega)).mpr ?_
    walk_at "ev"
    refine ⟨by decide, ?_⟩
    have pm := isort_perm ns
    refine fin_tree (blw_tup (blws_cons blw_int (blws_cons (blw_tup blws_ints) blws_nil))) (closeOk_set st _ b c B.blw) ?_
    rw [cut_b]
    refine k _ _ _ ⟨by omega, by omega, ?_, by rw [pm.length_eq]; exact l6, fun l hl => km l (pm.mem_iff.mp hl), asc_of pm kn (isort_sorted ns)⟩ (by omega) (B.mono (by omega))
    intro e
    have := pm.length_eq
    rw [e] at this
    exact kz (by omega) (List.length_eq_zero_iff.mp this.symm)
end My

namespace My
open PySem PySem.Spec PyProof.Rows L2
local macro_rules | `(tactic| walk_at "ev") => `(tactic| try simp only [ev_var, ev_c, ev_un, ev_op, ev_nil, ev_cons, ev_call, ev_callD, ev_callN, ev_tup, ev_lst, ev_lstM, ev_dkM, ev_dtM, ev_bE, ev_bAnd, ev_bOr, ev_bNot, ev_bYes, ev_eAnd, ev_eOr, ev_eNot, ev_if, ev_chain, ev_oNone, ev_oSome, ev_sl, ev_bm, ev_skip, ev_brk, ev_cnt, ev_seq, then_nx, then_rt, then_bk, then_ct, ev_set, ev_asg, ev_par, ev_par3, ev_ret, ev_drop, ev_sIf, ev_aug, ev_sub, ev_seqI, ev_range1, ev_range2, ev_for, ev_lc, enter, gNm, gsNil, gsCons, gTp, wipeE,
  List.map_cons, List.map_nil, List.length_cons, List.length_nil, List.replicate, List.cons_append, List.nil_append, List.append_nil, List.getElem?_cons_zero, List.getElem?_cons_succ, List.set_cons_zero, List.set_cons_succ, Option.some.injEq, exists_eq_left', exists_eq_left, D.bl.injEq, D.int.injEq, D.str.injEq, D.tup.injEq, D.lst.injEq, D.ref.injEq, decide_eq_true_eq, List.cons.injEq, and_true, true_and, if_true, if_false, reduceCtorEq, Bool.false_eq_true, ite_true, ite_false, Nat.sub_self, Nat.reduceAdd, Nat.reduceSub, Nat.zero_add, exists_and_left, exists_const, Bool.not_true, Bool.not_false, Bool.not_eq_true', exists_eq_right, and_assoc, List.length_set, exists_eq_right',
  add_int, addI_int, sub_int, neg_int, lt_int, le_int, gt_int, ge_int, eq_int, ne_int, eq_str, ne_str, eq_bl, ne_bl, eq_is, eq_si, ne_is, ne_si, is_nn, ix_tup, ix_lst, ix_scr, at_0, at_1, at_2, at_3, len_tup, len_lst, len_scr, outF, outK, ev_len_tup, ev_len_lst, ev_len_scr, ev_abs, ev_int, ev_intb, ev_max2, ev_min2, ev_tuple_lst, ev_tuple_tup, ev_list_lst, ev_list_tup])
/- _law_tale: 0:_law_box_here, 1:_law_book_here, 2:_law_bound, 3:_law_often, 4:_law_many, 5:_law_tale_here, 6:_law_spent, 7:_law_hands, 8:_law_turn, 9:_law_way, 10:_law_line -/
noncomputable def mb_Ltale : SM :=
(sSeq (sPar3 5 6 7 (aCons (eLstM aNil) (aCons (eC (.int 0)) (aCons (eC (.int 0)) aNil))))
(sSeq (sFor (iRange1 (eVar 4)) (gNm 8)
(sSeq (sPar 9 10 (aCons (eCallD 2 mf_Ltake [] (aCons (eVar 0) (aCons (eC (.int 12)) aNil))) (aCons (eCallD 2 mf_Lof [] (aCons (eVar 0) (aCons (eOp dIx (eVar 1) (eC (.int 1))) aNil))) aNil)))
(sIf (bOr (bE (eOp dEq (eVar 9) (eC (.int 0)))) (bAnd (bE (eOp dGt (eOp dAdd (eVar 6) (eVar 10)) (eVar 2))) (bE (eOp dLt (eVar 9) (eC (.int 9))))))
(sSeq (sDrop (eBM "list" mAppend (eVar 5) (aCons (eC (.str "look")) aNil)))
(sAsg (eTup (aCons (eC (.int 0)) (aCons (eC (.int 0)) aNil))) (gTp 2 (gsCons (gNm 6) (gsCons (gNm 7) gsNil)))))
(sIf (bAnd (bE (eOp dEq (eVar 9) (eC (.int 1)))) (bE (eOp dLt (eVar 7) (eVar 3))))
(sSeq (sDrop (eBM "list" mAppend (eVar 5) (aCons (eC (.str "rotate")) aNil)))
(sSet 7 (eOp dAdd (eVar 7) (eC (.int 1)))))
(sIf (bE (eOp dLe (eOp dAdd (eVar 6) (eVar 10)) (eVar 2)))
(sSeq (sDrop (eBM "list" mAppend (eVar 5) (aCons (eVar 10) aNil)))
(sSet 6 (eOp dAdd (eVar 6) (eVar 10))))
sSkip)))))
(sRet (eCall fTuple (aCons (eVar 5) aNil)))))
noncomputable def mf_Ltale : FM := mkF 11 mb_Ltale

def Ev.D : Ev → D
  | .line l => .int l
  | .look => .str "look"
  | .rot => .str "rotate"
theorem set_self {α : Type} {st : List α} {b : Nat} {c : α} (h : st[b]? = some c) : st.set b c = st := by
  apply List.ext_getElem?
  intro i
  by_cases e : b = i
  · subst e
    rw [List.getElem?_set_self (List.getElem?_eq_some_iff.mp h).1, h]
  · rw [List.getElem?_set_ne e]
theorem app_ev {st : Store} {n : Nat} {xs : List D} {a : D} {P : D → Store → Prop} (h : st[n]? = some (.lst xs)) (hz : xs.length < sizeLine) (k : P .non (st.set n (.lst (xs ++ [a])))) :
    tyD "list" st (.ref n) ∧ ∃ d s3, mAppend (.ref n) [a] st = some (d, s3) ∧ P d s3 := ⟨tyD_cell h, .non, _, app_cell h hz, k⟩
def TaleI (st : Store) (b n : Nat) (S bound often many : Int) (ls : List Int) (i : Nat) (env : Env) (s : Store) : Prop := ∃ (c : D) (es : List Ev) (x8 x9 x10 : Option D), BoxC (n + 2 * i) c ∧ env = [some (.ref b), some (.tup [.int S, .tup (ls.map .int)]), some (.int bound), some (.int often), some (.int many), some (.ref st.length), some (.int (stOf es).1), some (.int (stOf es).2), x8, x9, x10] ∧ s = st.set b c ++ [.lst (es.map Ev.D)] ∧
    (∀ e ∈ es, Ev.ok ls e) ∧ es.length ≤ i ∧ Tame bound often es
theorem ev_tale {st : Store} {b n : Nat} {c : D} {S bound often many : Int} {ls : List Int} {Q : D → Store → Prop} (hb : st[b]? = some c) (hc : BoxC n c) (hn : n + 2000 < 2 ^ 40) (R : Rules S ls) (B0 : 0 ≤ bound) (O0 : 0 ≤ often) (M0 : 0 ≤ many) (M1 : many ≤ 1000)
    (k : ∀ es c', (∀ e ∈ es, Ev.ok ls e) → (es.length : Int) ≤ many → Tame bound often es → BoxC (n + 2000) c' → Q (.tup (es.map Ev.D)) (st.set b c')) : EvF mf_Ltale [.ref b, .tup [.int S, .tup (ls.map .int)], .int bound, .int often, .int many] st Q := by
  have hlt : b < st.length := (List.getElem?_eq_some_iff.mp hb).1
  rw [mf_Ltale, ev_mkF]
  unfold mb_Ltale
  walk_at "ev"
  refine ⟨by decide, by omega, by omega, ?_⟩
  refine for_inv (TaleI st b n S bound often many ls) ?_ (fun _ _ _ _ _ => trivial) ?_ ?_
  · exact ⟨c, [], none, none, none, hc, rfl, by rw [set_self hb]; rfl, fun _ h => absurd h (by simp), Nat.le_refl _, Tame.nil B0 O0⟩
  · rintro i hi env s ⟨c, es, x8, x9, x10, B, rfl, rfl, ko, kl, kt⟩
    rw [intsTo_len] at hi
    refine ⟨_, rfl, ?_⟩
    walk_at "ev"
    refine ev_take (cell_b hlt) B (by omega) (by omega) (by omega) fun way c3 z0 z1 B3 => ?_
    rw [put_b hlt]
    walk_at "ev"
    refine ev_of (cell_b hlt) B3 (by omega) (.inr rfl) blws_ints (by simpa using R.ne) (by rw [List.length_map]; have := R.six; omega) fun v c4 hv B4 => ?_
    rw [put_b hlt]
    obtain ⟨l, hl, rfl⟩ := List.mem_map.mp hv
    have B5 : BoxC (n + 2 * (i + 1)) c4 := B4.mono (by omega)
    have l1 := R.mem l hl
    have cn : (st.set b c4 ++ [D.lst (es.map Ev.D)])[st.length]? = some (.lst (es.map Ev.D)) := cell_n
    have hsz : (es.map Ev.D).length < sizeLine := by rw [List.length_map]; exact Nat.lt_of_le_of_lt kl (Nat.lt_trans (show i < 1001 by omega) (by decide))
    have q0 := kt es.length (Nat.le_refl _)
    rw [List.take_length] at q0
    have add : ∀ (e : Ev) (x8 : Option D) (x y : Int) (d : D), d = e.D → Ev.st (stOf es) e = (x, y) → Ev.ok ls e → x ≤ bound → y ≤ often →
        TaleI st b n S bound often many ls (i + 1) [some (.ref b), some (.tup [.int S, .tup (ls.map .int)]), some (.int bound), some (.int often), some (.int many), some (.ref st.length), some (.int x), some (.int y), x8, some (.int way), some (.int l)] ((st.set b c4 ++ [D.lst (es.map Ev.D)]).set st.length (.lst (es.map Ev.D ++ [d]))) := by
      intro e x8 x y d ed h1 h2 h3 h4
      subst ed
      refine ⟨c4, es ++ [e], _, _, _, B5, by rw [stOf_snoc, h1], by rw [put_n, List.map_append]; rfl, ?_, by simp; omega, kt.snoc (by rw [h1]; exact h3) (by rw [h1]; exact h4)⟩
      intro e' he
      rcases List.mem_append.mp he with z | z
      · exact ko _ z
      · rw [List.mem_singleton.mp z]; exact h2
    have same : ∀ x8 : Option D, TaleI st b n S bound often many ls (i + 1) [some (.ref b), some (.tup [.int S, .tup (ls.map .int)]), some (.int bound), some (.int often), some (.int many), some (.ref st.length), some (.int (stOf es).1), some (.int (stOf es).2), x8, some (.int way), some (.int l)] (st.set b c4 ++ [D.lst (es.map Ev.D)]) :=
      fun x8 => ⟨c4, es, _, _, _, B5, rfl, rfl, ko, by omega, kt⟩
    walk_at "ev"
    have A1 := fun x8 => add .look x8 0 0 _ rfl rfl trivial B0 O0
    have A2 : ∀ (_ : (stOf es).2 < often) (x8 : Option D), _ := fun h x8 => add .rot x8 (stOf es).1 ((stOf es).2 + 1) _ rfl rfl trivial q0.1 (by omega)
    have A3 : ∀ (_ : (stOf es).1 + l ≤ bound) (x8 : Option D), _ := fun h x8 => add (.line l) x8 ((stOf es).1 + l) (stOf es).2 _ rfl rfl hl h q0.2
    repeat' split
    all_goals first
      | exact same _
      | exact app_ev cn hsz (A2 (by assumption) _)
      | exact app_ev cn hsz (A3 (by assumption) _)
      | exact app_ev cn hsz ⟨by decide, A1 _⟩
  · rintro env s ⟨c, es, x8, x9, x10, B, rfl, rfl, ko, kl, kt⟩
    rw [intsTo_len] at kl B
    walk_at "ev"
    rw [ev_tuple_cell cell_n]
    walk_at "ev"
    refine fin_tree (blw_tup (blws_map (fun e => by cases e <;> simp only [Ev.D, D.blw]) es)) (closeOk_set st _ b c B.blw) ?_
    rw [cut_b]
    exact k es c ko (by omega) kt (B.mono (by omega))
end My

namespace My
open PySem L2

/-! ### a log that runs: its files, the lines that are gone -/
structure RS where
  old : List (List Int × Int)
  cur : List Int
  beg : Int
  places : List Int
  gone : List (Int × Bool)
  fill : Int
  here : Int
  turns : Int
namespace RS
def init : RS := ⟨[], [], 0 - 1, [], [], 0, 0, 0⟩
def lost (pl : List Int) (here : Int) (f : List Int × Int) : List (Int × Bool) :=
  (f.1.filter fun n => decide (pl.getD n.toNat 0 = here)).map fun n => (n, decide (f.2 = here))
def turn (r : RS) : RS := { r with old := r.old ++ [(r.cur, r.beg)], cur := [], beg := r.here, fill := 0, turns := r.turns + 1 }
def drop (r : RS) (f : List Int × Int) (o : List (List Int × Int)) : RS := { r with old := o, gone := r.gone ++ lost r.places r.here f }
def trim (many : Nat) (r : RS) : RS := if many < r.old.length then (match r.old with | [] => r | f :: o => r.drop f o) else r
def add (l : Int) (r : RS) : RS := { r with cur := r.cur ++ [(r.places.length : Int)], places := r.places ++ [r.here], fill := r.fill + l }
def step (S : Int) (many : Nat) (r : RS) : Ev → RS
  | .look => { r with here := r.here + 1 }
  | .rot => trim many (turn r)
  | .line l => add l (if S < r.fill + l then trim many (turn r) else r)
def run (S : Int) (many : Nat) (es : List Ev) : RS := es.foldl (step S many) init
theorem run_snoc (S : Int) (many : Nat) (es : List Ev) (e : Ev) : run S many (es ++ [e]) = step S many (run S many es) e := by
  unfold run
  rw [List.foldl_append]
  rfl
def cnt (o : List (List Int × Int)) : Nat := (o.map fun f => f.1.length).sum
/-- what stays so -/
structure Ok (many i : Nat) (r : RS) : Prop where
  o1 : r.old.length ≤ many
  o2 : r.old.length ≤ i
  pl : r.places.length ≤ i
  tot : r.gone.length + cnt r.old + r.cur.length ≤ r.places.length
  fs : ∀ f ∈ r.old, ∀ n ∈ f.1, 0 ≤ n ∧ n < (r.places.length : Int)
  cs : ∀ n ∈ r.cur, 0 ≤ n ∧ n < (r.places.length : Int)
theorem Ok.init (many : Nat) : Ok many 0 RS.init := ⟨Nat.zero_le _, Nat.le_refl _, Nat.le_refl _, Nat.le_refl _, fun _ h => absurd h (by simp [RS.init]), fun _ h => absurd h (by simp [RS.init])⟩
theorem Ok.mono {many i j : Nat} {r : RS} (h : Ok many i r) (l : i ≤ j) : Ok many j r := ⟨h.o1, Nat.le_trans h.o2 l, Nat.le_trans h.pl l, h.tot, h.fs, h.cs⟩
/-- behind a turn, before old files go -/
structure Ok1 (many i : Nat) (r : RS) : Prop where
  o1 : r.old.length ≤ many + 1
  o2 : r.old.length ≤ i + 1
  pl : r.places.length ≤ i
  tot : r.gone.length + cnt r.old + r.cur.length ≤ r.places.length
  fs : ∀ f ∈ r.old, ∀ n ∈ f.1, 0 ≤ n ∧ n < (r.places.length : Int)
  cs : ∀ n ∈ r.cur, 0 ≤ n ∧ n < (r.places.length : Int)
theorem cnt_snoc (o : List (List Int × Int)) (f : List Int × Int) : cnt (o ++ [f]) = cnt o + f.1.length := by
  unfold cnt
  rw [List.map_append, List.sum_append]
  simp
theorem Ok.turn {many i : Nat} {r : RS} (h : Ok many i r) : Ok1 many i r.turn := by
  obtain ⟨o1, o2, pl, tot, fs, cs⟩ := h
  refine ⟨?_, ?_, pl, ?_, fun f hf => ?_, fun n hn => absurd hn (by simp [RS.turn])⟩
  · show (r.old ++ [(r.cur, r.beg)]).length ≤ _
    rw [List.length_append, List.length_singleton]; omega
  · show (r.old ++ [(r.cur, r.beg)]).length ≤ _
    rw [List.length_append, List.length_singleton]; omega
  · show r.gone.length + cnt (r.old ++ [(r.cur, r.beg)]) + 0 ≤ r.places.length
    rw [cnt_snoc]
    simp only
    omega
  · rcases List.mem_append.mp (show f ∈ r.old ++ [(r.cur, r.beg)] from hf) with hf | hf
    · exact fs f hf
    · rw [List.mem_singleton.mp hf]
      exact cs
theorem lost_len (pl : List Int) (here : Int) (f : List Int × Int) : (lost pl here f).length ≤ f.1.length := by
  unfold lost
  rw [List.length_map]
  exact List.length_filter_le _ _
theorem Ok1.drop {many i : Nat} {r : RS} {f : List Int × Int} {o : List (List Int × Int)} (h : Ok1 many i r) (e : r.old = f :: o) : Ok many (i + 1) (r.drop f o) := by
  obtain ⟨o1, o2, pl, tot, fs, cs⟩ := h
  rw [e] at o1 o2 fs tot
  rw [List.length_cons] at o1 o2
  refine ⟨by show o.length ≤ many; omega, by show o.length ≤ i + 1; omega, by show r.places.length ≤ i + 1; omega, ?_, fun g hg => fs g (List.mem_cons_of_mem _ hg), cs⟩
  show (r.gone ++ lost r.places r.here f).length + cnt o + r.cur.length ≤ r.places.length
  rw [List.length_append]
  have := lost_len r.places r.here f
  unfold cnt at tot ⊢
  rw [List.map_cons, List.sum_cons] at tot
  omega
theorem Ok1.keep {many i : Nat} {r : RS} (h : Ok1 many i r) (l : r.old.length ≤ many) : Ok many (i + 1) r := ⟨l, h.o2, by have := h.pl; omega, h.tot, h.fs, h.cs⟩
theorem Ok.add {many i : Nat} {r : RS} {l : Int} (h : r.places.length ≤ i) (g : Ok many (i + 1) r) : Ok many (i + 1) (r.add l) := by
  obtain ⟨o1, o2, pl, tot, fs, cs⟩ := g
  have e : ((r.add l).places.length : Int) = r.places.length + 1 := by
    show (((r.places ++ [r.here]).length : Nat) : Int) = _
    rw [List.length_append, List.length_singleton]
    omega
  refine ⟨o1, o2, ?_, ?_, fun f hf n hn => ?_, fun n hn => ?_⟩
  · show (r.places ++ [r.here]).length ≤ _
    rw [List.length_append, List.length_singleton]; omega
  · show r.gone.length + cnt r.old + (r.cur ++ [(r.places.length : Int)]).length ≤ (r.places ++ [r.here]).length
    rw [List.length_append, List.length_append, List.length_singleton, List.length_singleton]; omega
  · have := fs f hf n hn
    omega
  · rcases List.mem_append.mp (show n ∈ r.cur ++ [(r.places.length : Int)] from hn) with hn | hn
    · have := cs n hn
      omega
    · rw [List.mem_singleton.mp hn]
      omega
theorem trim_drop {many : Nat} {r : RS} {f : List Int × Int} {o : List (List Int × Int)} (e : r.old = f :: o) (l : many < r.old.length) : trim many r = r.drop f o := by
  unfold trim
  rw [if_pos l, e]
theorem trim_keep {many : Nat} {r : RS} (l : r.old.length ≤ many) : trim many r = r := by
  unfold trim
  rw [if_neg (by omega)]
theorem Ok1.trim {many i : Nat} {r : RS} (h : Ok1 many i r) : Ok many (i + 1) (trim many r) := by
  by_cases l : many < r.old.length
  · cases e : r.old with
    | nil => rw [e] at l; exact absurd l (by simp)
    | cons f o =>
      rw [trim_drop e l]
      exact h.drop e
  · rw [trim_keep (by omega)]
    exact h.keep (by omega)
theorem trim_places (many : Nat) (r : RS) : (trim many r).places = r.places := by
  unfold RS.trim
  split
  · split <;> rfl
  · rfl
theorem Ok.step {many i : Nat} {r : RS} {S : Int} (h : Ok many i r) (e : Ev) : Ok many (i + 1) (step S many r e) := by
  cases e with
  | look => exact ⟨h.o1, Nat.le_succ_of_le h.o2, Nat.le_succ_of_le h.pl, h.tot, h.fs, h.cs⟩
  | rot => exact h.turn.trim
  | line l =>
    show Ok many (i + 1) (RS.add l _)
    split
    · exact Ok.add (by rw [trim_places]; exact h.pl) h.turn.trim
    · exact Ok.add h.pl (h.mono (Nat.le_succ _))
theorem Ok.run (S : Int) (many : Nat) (es : List Ev) : Ok many es.length (run S many es) := by
  have : ∀ (es : List Ev) (r : RS) (i : Nat), Ok many i r → Ok many (i + es.length) (es.foldl (RS.step S many) r) := by
    intro es
    induction es with
    | nil => intro r i h; exact h
    | cons e es ih =>
      intro r i h
      have := ih _ _ (h.step (S := S) e)
      rw [List.length_cons, show i + (es.length + 1) = i + 1 + es.length by omega]
      exact this
  have h := this es RS.init 0 (Ok.init many)
  rwa [Nat.zero_add] at h
end RS

/-! ### tests that are known -/
theorem iteA {c A B : Prop} [Decidable c] (hc : c) (h : A) : if decide c = true then A else B := by
  rw [decide_eq_true hc]
  exact iteT h
theorem iteN {c A B : Prop} [Decidable c] (hc : ¬ c) (h : B) : if decide c = true then A else B := by
  rw [decide_eq_false hc]
  exact iteF h
theorem iteNA {c A B : Prop} [Decidable c] (hc : ¬ c) (h : A) : if (!decide c) = true then A else B := by
  rw [decide_eq_false hc]
  exact iteT h
/-- two ways that go on alike, from a state that is known -/
theorem join2 {G : Prop} (Hy : St → Hp → Prop) (P : St → Hp → Prop) (rest : ∀ σ H, Hy σ H → P σ H) (use : (∀ σ H, Hy σ H → P σ H) → G) : G := use rest
theorem pairs_app {α β : Type} {R : α → β → Prop} : ∀ {xs xs' : List α} {ys ys' : List β}, Paired R xs ys → Paired R xs' ys' → Paired R (xs ++ xs') (ys ++ ys')
  | _, _, _, _, .nil, q => q
  | _, _, _, _, .cons h t, q => .cons h (pairs_app t q)

theorem pairs_get {α β : Type} {R : α → β → Prop} : ∀ {xs : List α} {ys : List β} {j : Nat} {x : α}, Paired R xs ys → xs[j]? = some x → ∃ y, ys[j]? = some y ∧ R x y
  | _, _, 0, _, .cons h _, e => ⟨_, rfl, by cases e; exact h⟩
  | _, _, j + 1, _, .cons _ t, e => pairs_get (j := j) t e
theorem take_at {α : Type} {xs : List α} {j : Nat} {x : α} (h : xs[j]? = some x) : xs.take (j + 1) = xs.take j ++ [x] := by rw [List.take_add_one, h]; rfl

/-! ### how it lies in the heap -/
def FileAt (H : Hp) (N : List Addr) (v : V) (f : List Int × Int) : Prop := ∃ t c, v = .ref t ∧ H t = some (.tup [.ref c, .int f.2]) ∧ H c = some (.lst (f.1.map V.int)) ∧ c ∉ N
def GoneAt (H : Hp) (v : V) (p : Int × Bool) : Prop := ∃ t, v = .ref t ∧ H t = some (.tup [.int p.1, .bl p.2])
/-- all but some stands -/
def Buts (N : List Addr) (H H' : Hp) : Prop := ∀ a o, a ∉ N → H a = some o → H' a = some o
structure RunAt (H0 H : Hp) (F P G c : Addr) (ov gv : List V) (t : Addr) (r : RS) : Prop where
  hF : H F = some (.lst (ov ++ [.ref t]))
  ht : H t = some (.tup [.ref c, .int r.beg])
  hc : H c = some (.lst (r.cur.map V.int))
  hP : H P = some (.lst (r.places.map V.int))
  hG : H G = some (.lst gv)
  po : Paired (FileAt H [c, P, G, F]) ov r.old
  pg : Paired (GoneAt H) gv r.gone
  ne : c ≠ P ∧ c ≠ G ∧ c ≠ F ∧ P ≠ G ∧ P ≠ F ∧ G ≠ F
  fr : H0 F = none ∧ H0 P = none ∧ H0 G = none ∧ H0 c = none
  sm : Same H0 H
theorem FileAt.buts {H H' : Hp} {N M : List Addr} {v : V} {f : List Int × Int} (h : FileAt H N v f) (b : Buts N H H') (tn : ∀ a xs, H a = some (.tup xs) → a ∉ N) (hm : ∀ a, a ∉ N → H a ≠ none → a ∉ M) : FileAt H' M v f := by
  obtain ⟨t, c, rfl, h1, h2, h3⟩ := h
  exact ⟨t, c, rfl, b _ _ (tn _ _ h1) h1, b _ _ h3 h2, hm _ h3 (by rw [h2]; simp)⟩
theorem GoneAt.buts {H H' : Hp} {N : List Addr} {v : V} {p : Int × Bool} (h : GoneAt H v p) (b : Buts N H H') (tn : ∀ a xs, H a = some (.tup xs) → a ∉ N) : GoneAt H' v p := by
  obtain ⟨t, rfl, h1⟩ := h
  exact ⟨t, rfl, b _ _ (tn _ _ h1) h1⟩
theorem RunAt.tn {H0 H : Hp} {F P G c : Addr} {ov gv : List V} {t : Addr} {r : RS} (R : RunAt H0 H F P G c ov gv t r) : ∀ a xs, H a = some (.tup xs) → a ∉ [c, P, G, F] := by
  intro a xs h hm
  simp only [List.mem_cons, List.not_mem_nil, or_false] at hm
  rcases hm with rfl | rfl | rfl | rfl
  · exact tup_ne h R.hc rfl
  · exact tup_ne h R.hP rfl
  · exact tup_ne h R.hG rfl
  · exact tup_ne h R.hF rfl
theorem RunAt.nn {H0 H : Hp} {F P G c : Addr} {ov gv : List V} {t : Addr} {r : RS} (R : RunAt H0 H F P G c ov gv t r) : ∀ a, H a = none → a ∉ [c, P, G, F] := by
  intro a h hm
  simp only [List.mem_cons, List.not_mem_nil, or_false] at hm
  rcases hm with rfl | rfl | rfl | rfl
  · rw [R.hc] at h; cases h
  · rw [R.hP] at h; cases h
  · rw [R.hG] at h; cases h
  · rw [R.hF] at h; cases h
theorem RunAt.old {H0 H H' : Hp} {F P G c : Addr} {ov gv : List V} {t : Addr} {r : RS} {os : List (List Int × Int)} (R : RunAt H0 H F P G c ov gv t r) (b : Buts [c, P, G, F] H H') (p : Paired (FileAt H [c, P, G, F]) ov os) : Paired (FileAt H' [c, P, G, F]) ov os :=
  Paired.mapP p fun _ _ x => x.buts b R.tn fun _ n _ => n
theorem RunAt.gn {H0 H H' : Hp} {F P G c : Addr} {ov gv : List V} {t : Addr} {r : RS} (R : RunAt H0 H F P G c ov gv t r) (b : Buts [c, P, G, F] H H') : Paired (GoneAt H') gv r.gone :=
  Paired.mapP R.pg fun _ _ x => x.buts b R.tn
theorem RunAt.keep {H0 H H' : Hp} {F P G c : Addr} {ov gv : List V} {t : Addr} {r : RS} (R : RunAt H0 H F P G c ov gv t r) (b : Buts [c, P, G, F] H H') : Same H0 H' := fun a o h => b _ _ (fun hm => by
  obtain ⟨h1, h2, h3, h4⟩ := R.fr
  simp only [List.mem_cons, List.not_mem_nil, or_false] at hm
  rcases hm with rfl | rfl | rfl | rfl
  · rw [h4] at h; cases h
  · rw [h2] at h; cases h
  · rw [h3] at h; cases h
  · rw [h1] at h; cases h) (R.sm _ _ h)
theorem Buts.of {N : List Addr} {H H' : Hp} (s : Same H H') : Buts N H H' := fun a o _ h => s a o h
theorem RunAt.same {H0 H H' : Hp} {F P G c : Addr} {ov gv : List V} {t : Addr} {r : RS} (R : RunAt H0 H F P G c ov gv t r) (s : Same H H') : RunAt H0 H' F P G c ov gv t r :=
  ⟨s _ _ R.hF, s _ _ R.ht, s _ _ R.hc, s _ _ R.hP, s _ _ R.hG, R.old (Buts.of s) R.po, R.gn (Buts.of s), R.ne, R.fr, R.sm.trans s⟩
theorem none_of {H H' : Hp} {a : Addr} (s : Same H H') (h : H' a = none) : H a = none := by
  cases e : H a with
  | none => rfl
  | some o => rw [s _ _ e] at h; cases h
theorem RunAt.turn {H0 H : Hp} {F P G c : Addr} {ov gv : List V} {t : Addr} {r : RS} (R : RunAt H0 H F P G c ov gv t r) {c' t' L F' : Addr} {H1 H2 H3 H4 : Hp}
    (n1 : H c' = none) (e1 : H1 = upd H c' (.lst [])) (n2 : H1 t' = none) (e2 : H2 = upd H1 t' (.tup [.ref c', .int r.here])) (n3 : H2 L = none) (e3 : H3 = upd H2 L (.lst [.ref t'])) (n4 : H3 F' = none) (e4 : H4 = upd H3 F' (.lst (ov ++ [.ref t] ++ [.ref t']))) :
    RunAt H0 H4 F' P G c' (ov ++ [.ref t]) gv t' r.turn := by
  have s1 : Same H H1 := e1 ▸ same_new n1
  have s2 : Same H1 H2 := e2 ▸ same_new n2
  have s3 : Same H2 H3 := e3 ▸ same_new n3
  have s4 : Same H3 H4 := e4 ▸ same_new n4
  have s24 := (s2.trans s3).trans s4
  have s : Same H H4 := s1.trans s24
  have R4 := R.same s
  have hc1 : H1 c' = some (.lst []) := e1 ▸ upd_same
  have ht2 : H2 t' = some (.tup [.ref c', .int r.here]) := e2 ▸ upd_same
  have m4 : H F' = none := none_of (s1.trans (s2.trans s3)) n4
  have q1 := R.nn _ n1
  have q4 := R.nn _ m4
  have d1 : c' ≠ F' := ne_of_none ((s2.trans s3) _ _ hc1) n4
  have nF : ∀ v f, FileAt H [c, P, G, F] v f → FileAt H4 [c', P, G, F'] v f := fun v f x => x.buts (Buts.of s) R.tn fun a ha hn => by
    simp only [List.mem_cons, List.not_mem_nil, or_false, not_or] at ha ⊢
    exact ⟨fun e => hn (e ▸ n1), ha.2.1, ha.2.2.1, fun e => hn (e ▸ m4)⟩
  simp only [List.mem_cons, List.not_mem_nil, or_false, not_or] at q1 q4
  obtain ⟨f1, f2, f3, f4⟩ := R.fr
  have cn := R.ne
  refine ⟨e4 ▸ upd_same, (s3.trans s4) _ _ ht2, s24 _ _ hc1, R4.hP, R4.hG, Paired.snoc (Paired.mapP R.po nF) ⟨t, c, rfl, s _ _ R.ht, s _ _ R.hc, ?_⟩, R4.pg, ⟨q1.2.1, q1.2.2.1, d1, cn.2.2.2.1, fun e => q4.2.1 e.symm, fun e => q4.2.2.1 e.symm⟩, ⟨none_of R.sm m4, f2, f3, none_of R.sm n1⟩, R4.sm⟩
  simp only [List.mem_cons, List.not_mem_nil, or_false, not_or]
  exact ⟨fun e => q1.1 e.symm, cn.1, cn.2.1, fun e => q4.1 e.symm⟩
theorem RunAt.drop {H0 H H' : Hp} {F P G c : Addr} {v : V} {ov gv gn : List V} {t : Addr} {r : RS} {f : List Int × Int} {o : List (List Int × Int)} (R : RunAt H0 H F P G c (v :: ov) gv t r) (e : r.old = f :: o)
    (b : Buts [F, G] H H') (hF : H' F = some (.lst (ov ++ [.ref t]))) (hG : H' G = some (.lst (gv ++ gn))) (pn : Paired (GoneAt H') gn (RS.lost r.places r.here f)) : RunAt H0 H' F P G c ov (gv ++ gn) t (r.drop f o) := by
  have b4 : Buts [c, P, G, F] H H' := fun a u n h => b a u (fun z => n (by
    simp only [List.mem_cons, List.not_mem_nil, or_false] at z ⊢
    rcases z with z | z
    · exact .inr (.inr (.inr z))
    · exact .inr (.inr (.inl z)))) h
  have cn := R.ne
  have po := R.old b4 R.po
  rw [e] at po
  cases po with
  | cons _ po =>
    refine ⟨hF, b _ _ (fun z => R.tn _ _ R.ht ?_) R.ht, b _ _ ?_ R.hc, b _ _ ?_ R.hP, hG, po, pairs_app (R.gn b4) pn, R.ne, R.fr, R.keep b4⟩
    · simp only [List.mem_cons, List.not_mem_nil, or_false] at z ⊢
      rcases z with z | z
      · exact .inr (.inr (.inr z))
      · exact .inr (.inr (.inl z))
    · simp only [List.mem_cons, List.not_mem_nil, or_false, not_or]
      exact ⟨cn.2.2.1, cn.2.1⟩
    · simp only [List.mem_cons, List.not_mem_nil, or_false, not_or]
      exact ⟨cn.2.2.2.2.1, cn.2.2.2.1⟩
theorem RunAt.add {H0 H : Hp} {F P G c : Addr} {ov gv : List V} {t : Addr} {r : RS} (R : RunAt H0 H F P G c ov gv t r) (l : Int) {xs ys : List V} (ex : xs = (r.add l).cur.map V.int) (ey : ys = (r.add l).places.map V.int) :
    RunAt H0 (upd (upd H c (.lst xs)) P (.lst ys)) F P G c ov gv t (r.add l) := by
  have b : Buts [c, P, G, F] H (upd (upd H c (.lst xs)) P (.lst ys)) := fun a o n h => by
    simp only [List.mem_cons, List.not_mem_nil, or_false, not_or] at n
    exact kp_set n.2.1 (kp_set n.1 h)
  have cn := R.ne
  have tn := R.tn _ _ R.ht
  refine ⟨kp_set (fun e => cn.2.2.2.2.1 e.symm) (kp_set (fun e => cn.2.2.1 e.symm) R.hF), b _ _ tn R.ht, ?_, ?_, kp_set (fun e => cn.2.2.2.1 e.symm) (kp_set (fun e => cn.2.1 e.symm) R.hG), R.old b R.po, R.gn b, R.ne, R.fr, R.keep b⟩
  · rw [kp_set cn.1 upd_same, ex]
  · rw [upd_same, ey]
theorem seq0 (n : Nat) (h : 0 < n) : seqIndex? 0 n = some 0 := by
  unfold seqIndex?
  simp
  omega
theorem lost_snoc (pl : List Int) (h : Int) (xs : List Int) (n b : Int) : RS.lost pl h (xs ++ [n], b) = RS.lost pl h (xs, b) ++ (if pl.getD n.toNat 0 = h then [(n, decide (b = h))] else []) := by
  unfold RS.lost
  simp only [List.filter_append, List.map_append]
  congr 1
  by_cases e : pl.getD n.toNat 0 = h
  · rw [if_pos e, List.filter_cons_of_pos (by simpa using e)]
    rfl
  · rw [if_neg e, List.filter_cons_of_neg (by simpa using e)]
    rfl
theorem at_map {xs : List Int} {n : Int} (h0 : 0 ≤ n) (h1 : n < xs.length) : atI (xs.map V.int) n = some (.int (xs.getD n.toNat 0)) := by
  obtain ⟨k, rfl⟩ : ∃ k : Nat, n = k := ⟨n.toNat, by omega⟩
  have hk : k < xs.length := by omega
  refine atI_nat ?_
  rw [List.getElem?_map, List.getElem?_eq_getElem hk, Int.toNat_natCast, List.getD_eq_getElem?_getD, List.getElem?_eq_getElem hk]
  rfl
theorem dec_vi {a b : Int} : decide (V.int a = V.int b) = decide (a = b) := by
  by_cases e : a = b
  · rw [e, decide_eq_true rfl, decide_eq_true rfl]
  · rw [decide_eq_false e, decide_eq_false fun z => e (by cases z; rfl)]
def Ev.n : Ev → Int
  | .line l => l
  | _ => 0
theorem Ev.sc (e : Ev) (x : Str) : scal e.v (.str x) = true := by cases e <;> rfl

/-- what a run tells: the files, the lines that are missed, the rotations -/
def TupsAt (H : Hp) (v : V) (xs : List Int) : Prop := ∃ t, v = .ref t ∧ H t = some (.tup (xs.map V.int))
def sp_run : Sp := fun vs H Q _ => ∃ (bk t : Addr) (S : Int) (ls : List Int) (many : Int) (es : List Ev), vs = [.ref bk, .int many, .ref t] ∧ BookAt H bk S ls ∧ 0 ≤ many ∧ H t = some (.tup (es.map Ev.v)) ∧ es.length ≤ 1000 ∧
  ∀ (p fs ms hs : Addr) (fv : List V) (M N : List Int) (H' : Hp), H' p = some (.tup [.ref fs, .ref ms, .ref hs, .int (RS.run S many.toNat es).turns]) →
    H' fs = some (.tup fv) → Paired (TupsAt H') fv (((RS.run S many.toNat es).old.map Prod.fst) ++ [(RS.run S many.toNat es).cur]) →
    H' ms = some (.tup (M.map V.int)) → M.Perm ((RS.run S many.toNat es).gone.map Prod.fst) → M.Pairwise (· ≤ ·) →
    H' hs = some (.tup (N.map V.int)) → N.Perm (((RS.run S many.toNat es).gone.filter Prod.snd).map Prod.fst) → N.Pairwise (· ≤ ·) → Same H H' → Q (.ref p) H'
end My

namespace My
open PySem PySem.Spec PyProof.Rows L2
/-! the caller's cells stand -/
def Ext (st s : Store) : Prop := ∃ l, s = st ++ l
theorem Ext.refl (st : Store) : Ext st st := ⟨[], (List.append_nil _).symm⟩
theorem Ext.app {st s : Store} (h : Ext st s) (l : Store) : Ext st (s ++ l) := by
  obtain ⟨k, rfl⟩ := h
  exact ⟨k ++ l, List.append_assoc ..⟩
theorem Ext.set {st s : Store} (h : Ext st s) {i : Nat} {c : D} (hi : st.length ≤ i) : Ext st (s.set i c) := by
  obtain ⟨k, rfl⟩ := h
  exact ⟨k.set (i - st.length) c, by rw [List.set_append_right _ _ hi]⟩
theorem Ext.le {st s : Store} (h : Ext st s) : st.length ≤ s.length := by
  obtain ⟨k, rfl⟩ := h
  simp
theorem Ext.close {st s : Store} (h : Ext st s) : closeOk st s := by
  obtain ⟨k, rfl⟩ := h
  exact closeOk_app st k
theorem Ext.cut {st s : Store} (h : Ext st s) : s.take st.length = st := by
  obtain ⟨k, rfl⟩ := h
  exact cut_0
theorem Ext.get {st s : Store} (h : Ext st s) {i : Nat} {c : D} (e : st[i]? = some c) : s[i]? = some c := by
  obtain ⟨k, rfl⟩ := h
  rw [List.getElem?_append_left (List.getElem?_eq_some_iff.mp e).1]; exact e
theorem Ext.trans {a b c : Store} (h : Ext a b) (k : Ext b c) : Ext a c := by
  obtain ⟨l, rfl⟩ := h
  obtain ⟨m, rfl⟩ := k
  exact ⟨l ++ m, List.append_assoc ..⟩
section
variable {s : Store} {i j : Nat} {x y : D}
theorem up_ne (h : i ≠ j) (e : s[i]? = some x) : (s.set j y)[i]? = some x := by rw [List.getElem?_set_ne (Ne.symm h)]; exact e
theorem up_eq (e : s[i]? = some x) : (s.set i y)[i]? = some y := List.getElem?_set_self (List.getElem?_eq_some_iff.mp e).1
theorem up_app (e : s[i]? = some x) (l : Store) : (s ++ l)[i]? = some x := by rw [List.getElem?_append_left (List.getElem?_eq_some_iff.mp e).1]; exact e
theorem up_new (l : Store) : (s ++ x :: l)[s.length]? = some x := by simp
theorem up_lt (e : s[i]? = some x) : i < s.length := (List.getElem?_eq_some_iff.mp e).1
end
theorem up_at {st l : Store} {i : Nat} {x : D} (h : l[i]? = some x) : (st ++ l)[st.length + i]? = some x := by
  rw [List.getElem?_append_right (by omega), Nat.add_sub_cancel_left]; exact h
local macro_rules | `(tactic| walk_at "ev") => `(tactic| try simp only [ev_var, ev_c, ev_un, ev_op, ev_nil, ev_cons, ev_call, ev_callD, ev_callN, ev_callK, ev_opM, ev_lcM, ev_tup, ev_lst, ev_lstM, ev_dkM, ev_dtM, ev_bE, ev_bAnd, ev_bOr, ev_bNot, ev_bYes, ev_eAnd, ev_eOr, ev_eNot, ev_if, ev_chain, ev_oNone, ev_oSome, ev_sl, ev_bm, ev_skip, ev_brk, ev_cnt, ev_seq, then_nx, then_rt, then_bk, then_ct, ev_set, ev_asg, ev_par, ev_par3, ev_ret, ev_drop, ev_sIf, ev_aug, ev_sub, ev_seqI, ev_fld, ev_fldM, ev_meth, ev_new, ev_newK, ev_enum, ev_zip, ev_range1, ev_range2, ev_for, ev_lc, enter, gNm, gsNil, gsCons, gTp, wipeE,
  List.map_cons, List.map_nil, List.length_cons, List.length_nil, List.replicate, List.cons_append, List.nil_append, List.append_nil, List.getElem?_cons_zero, List.getElem?_cons_succ, List.set_cons_zero, List.set_cons_succ, Option.some.injEq, exists_eq_left', exists_eq_left, D.bl.injEq, D.int.injEq, D.str.injEq, D.tup.injEq, D.lst.injEq, D.ref.injEq, decide_eq_true_eq, List.cons.injEq, and_true, true_and, if_true, if_false, reduceCtorEq, Bool.false_eq_true, ite_true, ite_false, Nat.sub_self, Nat.reduceAdd, Nat.reduceSub, Nat.zero_add, exists_and_left, exists_const, Bool.not_true, Bool.not_false, Bool.not_eq_true', exists_eq_right, and_assoc, List.length_set, exists_eq_right',
  add_int, addI_int, sub_int, neg_int, lt_int, le_int, gt_int, ge_int, eq_int, ne_int, eq_str, ne_str, eq_bl, ne_bl, eq_is, eq_si, ne_is, ne_si, is_nn, ix_tup, ix_lst, ix_scr, at_0, at_1, at_2, at_3, len_tup, len_lst, len_scr, outF, outK, ev_len_tup, ev_len_lst, ev_len_scr, ev_abs, ev_int, ev_intb, ev_max2, ev_min2, ev_tuple_lst, ev_tuple_tup, ev_list_lst, ev_list_tup, sz0, sz1, sz2, sz3, sz4, sz5, sz6, sz7, sz8, sz9, sz10, sz11, sz12, s_rl, s_lr, atI_last, decide_false, decide_true, Bool.or_false, Bool.false_or])
local macro_rules | `(tactic| walk_at "st") => `(tactic| try simp only [List.append_assoc, List.cons_append, List.nil_append, List.length_append, List.length_cons, List.length_nil, Nat.reduceAdd, Nat.add_assoc])
/- _law_run: 0:_law_book_here, 1:_law_many, 2:_law_tale_here, 3:_law_files, 4:_law_places, 5:_law_gone, 6:_law_fill, 7:_law_here, 8:_law_turns_here, 9:_law_deed, 10:_law_numbers, 11:_law_begun, 12:_law_held, 13:_law_shown, 14:_law_number, 15:_law_is_new -/
noncomputable def mb_Lrun : SM :=
(sSeq (sAsg (eTup (aCons (eLstM (aCons (eTup (aCons (eLstM aNil) (aCons (eOp dSub (eC (.int 0)) (eC (.int 1))) aNil))) aNil)) (aCons (eLstM aNil) (aCons (eLstM aNil) (aCons (eC (.int 0)) (aCons (eC (.int 0)) (aCons (eC (.int 0)) aNil))))))) (gTp 6 (gsCons (gNm 3) (gsCons (gNm 4) (gsCons (gNm 5) (gsCons (gNm 6) (gsCons (gNm 7) (gsCons (gNm 8) gsNil))))))))
(sSeq (sFor (iSeq (eVar 2)) (gNm 9)
(sSeq (sIf (bE (eOp dEq (eVar 9) (eC (.str "look"))))
(sSeq (sSet 7 (eOp dAdd (eVar 7) (eC (.int 1))))
sCnt)
sSkip)
(sSeq (sIf (bOr (bE (eOp dEq (eVar 9) (eC (.str "rotate")))) (bE (eOp dGt (eOp dAdd (eVar 6) (eVar 9)) (eOp dIx (eVar 0) (eC (.int 0))))))
(sSeq (sPar3 3 6 8 (aCons (eOpM dCat (eVar 3) (eLstM (aCons (eTup (aCons (eLstM aNil) (aCons (eVar 7) aNil))) aNil))) (aCons (eC (.int 0)) (aCons (eOp dAdd (eVar 8) (eC (.int 1))) aNil))))
(sWhile 100000 (bE (eOp dGt (eCall fLen (aCons (eVar 3) aNil)) (eOp dAdd (eVar 1) (eC (.int 1)))))
(sSeq (sAsg (eBM "list" mPop (eVar 3) (aCons (eC (.int 0)) aNil)) (gTp 2 (gsCons (gNm 10) (gsCons (gNm 11) gsNil))))
(sDrop (eBM "list" mExtend (eVar 5) (aCons (eLc (iSeq (eVar 10)) (gNm 14) (bE (eOp dEq (eOp dIx (eVar 4) (eVar 14)) (eVar 7))) (eTup (aCons (eVar 14) (aCons (eOp dEq (eVar 11) (eVar 7)) aNil))) [14]) aNil))))))
sSkip)
(sIf (bE (eOp dNe (eVar 9) (eC (.str "rotate"))))
(sSeq (sDrop (eBM "list" mAppend (eOp dIx (eOp dIx (eVar 3) (eUn dNeg (eC (.int 1)))) (eC (.int 0))) (aCons (eCall fLen (aCons (eVar 4) aNil)) aNil)))
(sSeq (sDrop (eBM "list" mAppend (eVar 4) (aCons (eVar 7) aNil)))
(sSet 6 (eOp dAdd (eVar 6) (eVar 9)))))
sSkip))))
(sSeq (sSet 12 (eLc (iSeq (eVar 5)) (gTp 2 (gsCons (gNm 14) (gsCons (gNm 15) gsNil))) (bE (eVar 15)) (eVar 14) [14, 15]))
(sSeq (sSet 13 (eCall fTuple (aCons (eLc (iSeq (eVar 3)) (gTp 2 (gsCons (gNm 10) (gsCons (gNm 11) gsNil))) bYes (eCall fTuple (aCons (eVar 10) aNil)) [10, 11]) aNil)))
(sRet (eTup (aCons (eVar 13) (aCons (eCall fTuple (aCons (eCall fSorted (aCons (eLc (iSeq (eVar 5)) (gTp 2 (gsCons (gNm 14) (gsCons (gNm 15) gsNil))) bYes (eVar 14) [14, 15]) aNil)) aNil)) (aCons (eCall fTuple (aCons (eCall fSorted (aCons (eVar 12) aNil)) aNil)) (aCons (eVar 8) aNil))))))))))
noncomputable def mf_Lrun : FM := mkF 16 mb_Lrun

def fileD (x : Nat × (List Int × Int)) : D := .tup [.ref x.1, .int x.2.2]
def goneD (x : Int × Bool) : D := .tup [.int x.1, .bl x.2]
/-- a log under way: its cells -/
structure RunC (st s : Store) (f p g c : Nat) (ks : List (Nat × (List Int × Int))) (r : RS) : Prop where
  ext : Ext st s
  old : ks.map (·.2) = r.old
  hk : ∀ x ∈ ks, s[x.1]? = some (.lst (x.2.1.map .int)) ∧ x.1 ≠ f ∧ x.1 ≠ p ∧ x.1 ≠ g ∧ x.1 ≠ c
  hf : s[f]? = some (.lst (ks.map fileD ++ [.tup [.ref c, .int r.beg]]))
  hp : s[p]? = some (.lst (r.places.map .int))
  hg : s[g]? = some (.lst (r.gone.map goneD))
  hc : s[c]? = some (.lst (r.cur.map .int))
  lf : st.length ≤ f
  lp : st.length ≤ p
  lg : st.length ≤ g
  lc : st.length ≤ c
  fp : f ≠ p
  fg : f ≠ g
  fc : f ≠ c
  pg : p ≠ g
  pc : p ≠ c
  gc : g ≠ c
section
variable {st s : Store} {f p g c : Nat} {ks : List (Nat × (List Int × Int))} {r : RS}
theorem RunC.look (h : RunC st s f p g c ks r) (i : Int) : RunC st s f p g c ks { r with here := i } := ⟨h.ext, h.old, h.hk, h.hf, h.hp, h.hg, h.hc, h.lf, h.lp, h.lg, h.lc, h.fp, h.fg, h.fc, h.pg, h.pc, h.gc⟩
theorem RunC.turn (h : RunC st s f p g c ks r) (z : D) : RunC st (s ++ [.lst [], z, .lst (ks.map fileD ++ [.tup [.ref c, .int r.beg]] ++ [.tup [.ref s.length, .int r.here]])]) (s.length + 2) p g s.length (ks ++ [(c, (r.cur, r.beg))]) r.turn := by
  have l1 := up_lt h.hp
  have l2 := up_lt h.hg
  have l3 := up_lt h.hc
  have l4 := h.ext.le
  refine ⟨h.ext.app _, by rw [List.map_append, h.old]; rfl, fun x hx => ?_, ?_, up_app h.hp _, up_app h.hg _, up_new _, by omega, h.lp, h.lg, l4, by omega, by omega, by omega, h.pg, by omega, by omega⟩
  · rcases List.mem_append.mp hx with q | q
    · obtain ⟨e, _, n2, n3, _⟩ := h.hk x q
      have := up_lt e
      exact ⟨up_app e _, by omega, n2, n3, by omega⟩
    · rw [List.mem_singleton.mp q]
      exact ⟨up_app h.hc _, by show c ≠ _; omega, Ne.symm h.pc, Ne.symm h.gc, by show c ≠ _; omega⟩
  · rw [List.getElem?_append_right (by omega), show s.length + 2 - s.length = 2 by omega, List.map_append]
    rfl
theorem RunC.drop {k : Nat} {fl : List Int × Int} {o : List (List Int × Int)} {kt : List (Nat × (List Int × Int))} (h : RunC st s f p g c ks r) (e : r.old = fl :: o) (ek : ks = (k, fl) :: kt) :
    RunC st ((s.set f (.lst (kt.map fileD ++ [.tup [.ref c, .int r.beg]]))).set g (.lst (r.gone.map goneD ++ (RS.lost r.places r.here fl).map goneD))) f p g c kt (r.drop fl o) := by
  subst ek
  refine ⟨(h.ext.set h.lf).set h.lg, ?_, fun x hx => ?_, up_ne h.fg (up_eq h.hf), up_ne h.pg (up_ne (Ne.symm h.fp) h.hp), by rw [up_eq (up_ne (Ne.symm h.fg) h.hg)]; show _ = some (D.lst (List.map goneD (_ ++ _))); rw [List.map_append], up_ne (Ne.symm h.gc) (up_ne (Ne.symm h.fc) h.hc), h.lf, h.lp, h.lg, h.lc, h.fp, h.fg, h.fc, h.pg, h.pc, h.gc⟩
  · have := h.old
    rw [e, List.map_cons] at this
    exact (List.cons.inj this).2
  · obtain ⟨e, n1, n2, n3, n4⟩ := h.hk x (List.mem_cons_of_mem _ hx)
    exact ⟨up_ne n3 (up_ne n1 e), n1, n2, n3, n4⟩
theorem RunC.add (h : RunC st s f p g c ks r) (l : Int) : RunC st ((s.set c (.lst (r.cur.map .int ++ [.int r.places.length]))).set p (.lst (r.places.map .int ++ [.int r.here]))) f p g c ks (r.add l) := by
  refine ⟨(h.ext.set h.lc).set h.lp, h.old, fun x hx => ?_, up_ne h.fp (up_ne h.fc h.hf), ?_, up_ne (Ne.symm h.pg) (up_ne h.gc h.hg), ?_, h.lf, h.lp, h.lg, h.lc, h.fp, h.fg, h.fc, h.pg, h.pc, h.gc⟩
  · obtain ⟨e, n1, n2, n3, n4⟩ := h.hk x hx
    exact ⟨up_ne n2 (up_ne n4 e), n1, n2, n3, n4⟩
  · rw [up_eq (up_ne h.pc h.hp)]
    show _ = some (D.lst (List.map _ (_ ++ _)))
    rw [List.map_append]; rfl
  · rw [up_ne (Ne.symm h.pc) (up_eq h.hc)]
    show _ = some (D.lst (List.map _ (_ ++ _)))
    rw [List.map_append]; rfl
end
def RunI (st : Store) (S : Int) (ls : List Int) (M : Nat) (es : List Ev) (i : Nat) (env : Env) (s : Store) : Prop := ∃ f p g c ks x9 x10 x11 x12 x13 x14 x15, RunC st s f p g c ks (RS.run S M (es.take i)) ∧
  env = [some (.tup [.int S, .tup (ls.map .int)]), some (.int M), some (.tup (es.map Ev.D)), some (.ref f), some (.ref p), some (.ref g), some (.int (RS.run S M (es.take i)).fill), some (.int (RS.run S M (es.take i)).here), some (.int (RS.run S M (es.take i)).turns), x9, x10, x11, x12, x13, x14, x15]
def runEnv (S : Int) (ls : List Int) (M : Nat) (es : List Ev) (f p g : Nat) (fill here turns : Int) (x9 x10 x11 x12 x13 x14 x15 : Option D) : Env := [some (.tup [.int S, .tup (ls.map .int)]), some (.int M), some (.tup (es.map Ev.D)), some (.ref f), some (.ref p), some (.ref g), some (.int fill), some (.int here), some (.int turns), x9, x10, x11, x12, x13, x14, x15]
theorem pop0 {s : Store} {f : Nat} {x : D} {xs : List D} (h : s[f]? = some (.lst (x :: xs))) : mPop (.ref f) [.int 0] s = some (x, s.set f (.lst xs)) := by
  have e : seqIndex? 0 (x :: xs).length = some 0 := seqIndex_of (by omega) (by simp)
  simp only [mPop, h]
  rw [if_pos (by decide), e]
  rfl
theorem ext_cell {s : Store} {g : Nat} {xs ys : List D} {y : D} (h : s[g]? = some (.lst xs)) (h2 : seqL s y = some ys) (hz : xs.length + ys.length ≤ sizeLine) : mExtend (.ref g) [y] s = some (.non, s.set g (.lst (xs ++ ys))) := by
  simp only [mExtend, h, h2, if_pos hz]
def RollI (st : Store) (S : Int) (ls : List Int) (M : Nat) (es : List Ev) (f2 p g c2 : Nat) (t : RS) (turns : Int) (x9 x12 x13 x14 x15 : Option D) (n : Nat) (env : Env) (s : Store) : Prop := ∃ ks r' y10 y11, RunC st s f2 p g c2 ks r' ∧ env = [some (.tup [.int S, .tup (ls.map .int)]), some (.int M), some (.tup (es.map Ev.D)), some (.ref f2), some (.ref p), some (.ref g), some (.int 0), some (.int t.here), some (.int turns), x9, y10, y11, x12, x13, x14, x15] ∧
    ((n = 1 ∧ r' = t) ∨ (n = 0 ∧ r' = RS.trim M t ∧ r'.old.length ≤ M))
theorem run_roll {st s : Store} {S : Int} {ls : List Int} {M i : Nat} {es : List Ev} {f p g c : Nat} {ks : List (Nat × (List Int × Int))} {r : RS} {QS : Out → Store → Prop} {x9 x10 x11 x12 x13 x14 x15 : Option D} (R : RunC st s f p g c ks r) (hok : RS.Ok M i r) (hi : i ≤ 1000)
    (k : ∀ f c ks s x10 x11, RunC st s f p g c ks (RS.trim M r.turn) → QS (.nx (runEnv S ls M es f p g 0 r.here (r.turns + 1) x9 x10 x11 x12 x13 x14 x15)) s) :
    EvS (sSeq (sPar3 3 6 8 (aCons (eOpM dCat (eVar 3) (eLstM (aCons (eTup (aCons (eLstM aNil) (aCons (eVar 7) aNil))) aNil))) (aCons (eC (.int 0)) (aCons (eOp dAdd (eVar 8) (eC (.int 1))) aNil)))) (sWhile 100000 (bE (eOp dGt (eCall fLen (aCons (eVar 3) aNil)) (eOp dAdd (eVar 1) (eC (.int 1))))) (sSeq (sAsg (eBM "list" mPop (eVar 3) (aCons (eC (.int 0)) aNil)) (gTp 2 (gsCons (gNm 10) (gsCons (gNm 11) gsNil)))) (sDrop (eBM "list" mExtend (eVar 5) (aCons (eLc (iSeq (eVar 10)) (gNm 14) (bE (eOp dEq (eOp dIx (eVar 4) (eVar 14)) (eVar 7))) (eTup (aCons (eVar 14) (aCons (eOp dEq (eVar 11) (eVar 7)) aNil))) [14]) aNil)))))) (runEnv S ls M es f p g r.fill r.here r.turns x9 x10 x11 x12 x13 x14 x15) s QS := by
  unfold runEnv at k ⊢
  have kl : ks.length = r.old.length := by rw [← R.old, List.length_map]
  have hsz : ∀ n : Nat, n ≤ 2000 → n ≤ sizeLine := fun n h => Nat.le_trans h (by decide)
  have R1 := R.turn (.lst [.tup [.ref s.length, .int r.here]])
  walk_at "ev"
  walk_at "st"
  have e1 : dCat (.ref f) (.ref (s.length + 1)) (s ++ [D.lst [], D.lst [D.tup [D.ref s.length, D.int r.here]]]) = some (ks.map fileD ++ [.tup [.ref c, .int r.beg]] ++ [.tup [.ref s.length, .int r.here]]) :=
    cat_ev (seqL_cell (up_app R.hf _)) (seqL_cell (up_at (i := 1) rfl)) (hsz _ (by have := hok.o2; simp; omega))
  refine ⟨_, e1, ?_⟩
  have e2 : s ++ [D.lst [], D.lst [D.tup [D.ref s.length, D.int r.here]], D.lst (ks.map fileD ++ [.tup [.ref c, .int r.beg], .tup [.ref s.length, .int r.here]])] = s ++ [D.lst [], D.lst [D.tup [D.ref s.length, D.int r.here]], D.lst (ks.map fileD ++ [.tup [.ref c, .int r.beg]] ++ [.tup [.ref s.length, .int r.here]])] := by simp
  have ok1 := hok.turn
  try rw [e2]
  generalize s ++ [D.lst [], D.lst [D.tup [D.ref s.length, D.int r.here]], D.lst (ks.map fileD ++ [.tup [.ref c, .int r.beg]] ++ [.tup [.ref s.length, .int r.here]])] = s2 at R1 ⊢
  generalize s.length + 2 = f2 at R1 ⊢
  generalize s.length = c2 at R1 ⊢
  generalize ks ++ [(c, (r.cur, r.beg))] = k2 at R1
  have hh : r.turn.here = r.here := rfl
  rw [← hh] at k ⊢
  generalize r.turn = t at R1 k ok1 ⊢
  refine while_inv (RollI st S ls M es f2 p g c2 t (r.turns + 1) x9 x12 x13 x14 x15) ⟨1, by decide, k2, t, x10, x11, R1, rfl, .inl ⟨rfl, rfl⟩⟩ ?_
  rintro n env s3 ⟨ks, r', y10, y11, R, rfl, h⟩
  have kl : ks.length = r'.old.length := by rw [← R.old, List.length_map]
  walk_at "ev"
  rw [ev_len_cell R.hf]
  walk_at "ev"
  have el : ((ks.map fileD ++ [D.tup [D.ref c2, D.int r'.beg]]).length : Int) = r'.old.length + 1 := by simp [kl]
  rw [el]
  split
  · rename_i hgt
    have hlt : M < r'.old.length := by omega
    have h1 : n = 1 ∧ r' = t := h.resolve_right fun z => by omega
    obtain ⟨rfl, rfl⟩ := h1
    cases ek : ks with
    | nil => rw [ek] at kl; simp at kl; omega
    | cons x kt =>
      obtain ⟨kk, fl⟩ := x
      subst ek
      have eo : r'.old = fl :: kt.map (·.2) := by rw [← R.old]; rfl
      have R2 := R.drop (k := kk) eo rfl
      obtain ⟨hkk, m1, m2, m3, m4⟩ := R.hk (kk, fl) List.mem_cons_self
      have pop : mPop (.ref f2) [.int 0] s3 = some (.tup [.ref kk, .int fl.2], s3.set f2 (.lst (kt.map fileD ++ [.tup [.ref c2, .int r'.beg]]))) := pop0 R.hf
      refine ⟨tyD_cell R.hf, _, _, pop, ?_⟩
      walk_at "ev"
      refine ⟨tyD_cell (up_ne (Ne.symm R.fg) R.hg), _, up_ne m1 hkk, ?_⟩
      refine lc_map (fun d => match d with | .int n => decide (r'.places.getD n.toNat 0 = r'.here) | _ => false) (fun d => .tup [d, .bl (decide (fl.2 = r'.here))]) (up_ne m1 hkk) ?_ ?_
      · intro d hd
        obtain ⟨n, hn, rfl⟩ := List.mem_map.mp hd
        obtain ⟨n0, n1⟩ := ok1.fs fl (by rw [eo]; exact List.mem_cons_self) n hn
        obtain ⟨j, rfl⟩ : ∃ j : Nat, n = j := ⟨n.toNat, by omega⟩
        have hj : j < r'.places.length := by omega
        have hat : atI (r'.places.map D.int) (j : Int) = some (.int r'.places[j]) := atI_nat (by rw [List.getElem?_map, List.getElem?_eq_getElem hj]; rfl)
        have e3 : r'.places.getD j 0 = r'.places[j] := by rw [List.getD_eq_getElem?_getD, List.getElem?_eq_getElem hj]; rfl
        refine ⟨_, rfl, ?_⟩
        walk_at "ev"
        simp only [ix_cell (up_ne (Ne.symm R.fp) R.hp), hat, Int.toNat_natCast, e3]
        walk_at "ev"
        try exact fun _ => trivial
      · refine ⟨by
          refine hsz _ ?_
          rw [List.length_map]
          refine Nat.le_trans (List.length_filter_le _ _) ?_
          rw [List.length_map]
          show fl.1.length ≤ 2000
          have t1 := ok1.tot
          have t2 := ok1.pl
          rw [eo] at t1
          simp only [RS.cnt, List.map_cons, List.sum_cons] at t1
          omega, ?_⟩
        have el2 : (((fl.1.map D.int).filter fun d => match d with | .int n => decide (r'.places.getD n.toNat 0 = r'.here) | _ => false).map fun d => D.tup [d, .bl (decide (fl.2 = r'.here))]) = (RS.lost r'.places r'.here fl).map goneD := by
          unfold RS.lost goneD
          rw [List.filter_map, List.map_map, List.map_map]
          rfl
        rw [el2]
        have gl : (r'.gone.map goneD).length + ((RS.lost r'.places r'.here fl).map goneD).length ≤ sizeLine := by
          refine hsz _ ?_
          have t1 := ok1.tot
          have t2 := ok1.pl
          have t3 := RS.lost_len r'.places r'.here fl
          rw [eo] at t1
          simp only [RS.cnt, List.map_cons, List.sum_cons] at t1
          rw [List.length_map, List.length_map]
          omega
        refine ⟨_, _, ext_cell (up_ne (Ne.symm R.fg) R.hg) rfl gl, 0, by decide, kt, r'.drop fl (kt.map (·.2)), some (D.ref kk), some (D.int fl.2), R2, rfl, .inr ⟨rfl, ?_, ?_⟩⟩
        · rw [RS.trim_drop eo hlt]
        · have := ok1.o1
          rw [eo] at this
          show (kt.map (·.2)).length ≤ M
          rw [List.length_cons] at this
          omega
  · rename_i hle
    have hle2 : r'.old.length ≤ M := by omega
    have er : r' = RS.trim M t := by
      rcases h with ⟨_, rfl⟩ | ⟨_, e, _⟩
      · rw [RS.trim_keep hle2]
      · exact e
    subst er
    exact k f2 c2 ks s3 _ _ R
theorem RS.trim_fill (M : Nat) (r : RS) : (RS.trim M r).fill = r.fill := by
  unfold RS.trim
  split
  · split <;> rfl
  · rfl
theorem RS.trim_here (M : Nat) (r : RS) : (RS.trim M r).here = r.here := by
  unfold RS.trim
  split
  · split <;> rfl
  · rfl
theorem RS.trim_turns (M : Nat) (r : RS) : (RS.trim M r).turns = r.turns := by
  unfold RS.trim
  split
  · split <;> rfl
  · rfl
theorem filter_yes {α : Type} (xs : List α) : xs.filter (fun _ => true) = xs := List.filter_eq_self.mpr fun _ _ => rfl
theorem run_add {st s : Store} {f p g c M i : Nat} {ks : List (Nat × (List Int × Int))} {r : RS} {here : Int} {P : Store → Prop} (R : RunC st s f p g c ks r) (hok : RS.Ok M i r) (hi : i ≤ 1001) (hh : here = r.here)
    (k : P ((s.set c (.lst (r.cur.map .int ++ [.int r.places.length]))).set p (.lst (r.places.map .int ++ [.int r.here])))) :
    ∃ z, dIx (.ref f) (.int (-1)) s = some z ∧ ∃ z_1, dIx z (.int 0) s = some z_1 ∧ tyD "list" s z_1 ∧ EvF fLen [.ref p] s fun x s1 => ∃ d s3, mAppend z_1 [x] s1 = some (d, s3) ∧ tyD "list" s3 (.ref p) ∧ ∃ d s3_1, mAppend (.ref p) [.int here] s3 = some (d, s3_1) ∧ P s3_1 := by
  subst hh
  have t1 := hok.tot
  have t2 := hok.pl
  have hsz : ∀ n : Nat, n ≤ 2000 → n < sizeLine := fun n h => Nat.lt_of_le_of_lt h (by decide)
  refine ⟨_, (ix_cell R.hf).trans (atI_last _ _), .ref c, rfl, tyD_cell R.hc, ?_⟩
  rw [ev_len_cell R.hp, List.length_map]
  refine ⟨_, _, app_cell R.hc (hsz _ (by rw [List.length_map]; omega)), tyD_cell (up_ne R.pc R.hp), _, _, app_cell (up_ne R.pc R.hp) (hsz _ (by rw [List.length_map]; omega)), k⟩
theorem ev_run {st : Store} {S : Int} {ls : List Int} {M : Nat} {es : List Ev} {Q : D → Store → Prop} (hl : es.length ≤ 1000)
    (k : ∀ X Y : List Int, X = isort ((RS.run S M es).gone.map Prod.fst) → Y = isort (((RS.run S M es).gone.filter Prod.snd).map Prod.fst) →
      Q (.tup [.tup (((RS.run S M es).old.map fun f => D.tup (f.1.map .int)) ++ [.tup ((RS.run S M es).cur.map .int)]), .tup (X.map .int), .tup (Y.map .int), .int (RS.run S M es).turns]) st) : EvF mf_Lrun [.tup [.int S, .tup (ls.map .int)], .int M, .tup (es.map Ev.D)] st Q := by
  rw [mf_Lrun, ev_mkF]
  unfold mb_Lrun
  walk_at "ev"
  walk_at "st"
  refine for_inv (RunI st S ls M es) ?_ (fun _ _ _ _ _ => trivial) ?_ ?_
  · refine ⟨st.length + 1, st.length + 2, st.length + 3, st.length, [], none, none, none, none, none, none, none, ⟨Ext.refl st |>.app _, rfl, fun _ h => absurd h (by simp), ?_, ?_, ?_, ?_, by omega, by omega, by omega, by omega, by omega, by omega, by omega, by omega, by omega, by omega⟩, ?_⟩
    · exact up_at (i := 1) rfl
    · exact up_at (i := 2) rfl
    · exact up_at (i := 3) rfl
    · exact up_at (i := 0) rfl
    · rfl
  · generalize thenS _ (outF st Q) = QR
    rintro i hi env s ⟨f, p, g, c, ks, x9, x10, x11, x12, x13, x14, x15, R, rfl⟩
    rw [List.length_map] at hi
    have hok := RS.Ok.run S M (es.take i)
    rw [List.length_take, Nat.min_eq_left (Nat.le_of_lt hi)] at hok
    have hnx : RS.run S M (es.take (i + 1)) = RS.step S M (RS.run S M (es.take i)) es[i] := by
      rw [take_at (List.getElem?_eq_getElem hi), RS.run_snoc]
    have fin : ∀ (f c : Nat) (ks : List (Nat × (List Int × Int))) (s : Store) (r' : RS) (x9 x10 x11 x12 x13 x14 x15 : Option D), RS.step S M (RS.run S M (es.take i)) es[i] = r' → RunC st s f p g c ks r' →
        RunI st S ls M es (i + 1) [some (.tup [.int S, .tup (ls.map .int)]), some (.int M), some (.tup (es.map Ev.D)), some (.ref f), some (.ref p), some (.ref g), some (.int r'.fill), some (.int r'.here), some (.int r'.turns), x9, x10, x11, x12, x13, x14, x15] s := by
      intro f c ks s r' x9 x10 x11 x12 x13 x14 x15 e R
      subst e
      exact ⟨f, p, g, c, ks, x9, x10, x11, x12, x13, x14, x15, hnx ▸ R, by rw [hnx]⟩
    refine ⟨_, rfl, ?_⟩
    rw [List.getElem_map]
    generalize es[i] = e at fin ⊢
    generalize RS.run S M (es.take i) = r at R hok fin ⊢
    have roll := fun QS x9 x10 x11 x12 x13 x14 x15 => run_roll (S := S) (ls := ls) (es := es) (QS := QS) (x9 := x9) (x10 := x10) (x11 := x11) (x12 := x12) (x13 := x13) (x14 := x14) (x15 := x15) R hok (by omega)
    generalize (sSeq (sPar3 3 6 8 (aCons (eOpM dCat (eVar 3) (eLstM (aCons (eTup (aCons (eLstM aNil) (aCons (eVar 7) aNil))) aNil))) (aCons (eC (.int 0)) (aCons (eOp dAdd (eVar 8) (eC (.int 1))) aNil)))) (sWhile 100000 (bE (eOp dGt (eCall fLen (aCons (eVar 3) aNil)) (eOp dAdd (eVar 1) (eC (.int 1))))) (sSeq (sAsg (eBM "list" mPop (eVar 3) (aCons (eC (.int 0)) aNil)) (gTp 2 (gsCons (gNm 10) (gsCons (gNm 11) gsNil)))) (sDrop (eBM "list" mExtend (eVar 5) (aCons (eLc (iSeq (eVar 10)) (gNm 14) (bE (eOp dEq (eOp dIx (eVar 4) (eVar 14)) (eVar 7))) (eTup (aCons (eVar 14) (aCons (eOp dEq (eVar 11) (eVar 7)) aNil))) [14]) aNil)))))) = B1 at roll ⊢
    unfold runEnv at roll
    cases e with
    | look =>
      simp only [Ev.D]
      walk_at "ev"
      exact fin f c ks s _ _ _ _ _ _ _ _ rfl (R.look _)
    | rot =>
      simp only [Ev.D]
      walk_at "ev"
      refine roll _ _ _ _ _ _ _ _ fun f c ks s x10 x11 R' => ?_
      walk_at "ev"
      have z := fin f c ks s (RS.trim M r.turn) (some (.str "rotate")) x10 x11 x12 x13 x14 x15 rfl R'
      rw [RS.trim_fill, RS.trim_here, RS.trim_turns] at z
      exact z
    | line l =>
      simp only [Ev.D]
      walk_at "ev"
      split
      · rename_i hgt
        refine roll _ _ _ _ _ _ _ _ fun f c ks s x10 x11 R' => ?_
        walk_at "ev"
        have ok2 := hok.turn.trim
        have h1 := fin f c ks _ ((RS.trim M r.turn).add l) (some (.int l)) x10 x11 x12 x13 x14 x15 (show RS.add l (if S < r.fill + l then RS.trim M r.turn else r) = _ by rw [if_pos hgt]) (R'.add l)
        have e4 : ((RS.trim M r.turn).add l).fill = 0 + l := by show (RS.trim M r.turn).fill + l = _; rw [RS.trim_fill]; rfl
        have e5 : ((RS.trim M r.turn).add l).here = r.here := by show (RS.trim M r.turn).here = _; rw [RS.trim_here]; rfl
        have e6 : ((RS.trim M r.turn).add l).turns = r.turns + 1 := by show (RS.trim M r.turn).turns = _; rw [RS.trim_turns]; rfl
        rw [e4, e5, e6] at h1
        have e7 : (RS.trim M r.turn).here = r.here := by rw [RS.trim_here]; rfl
        exact run_add R' ok2 (by omega) e7.symm h1
      · rename_i hle
        have h1 := fin f c ks _ (r.add l) (some (.int l)) x10 x11 x12 x13 x14 x15 (show RS.add l (if S < r.fill + l then RS.trim M r.turn else r) = _ by rw [if_neg hle]) (R.add l)
        exact run_add R hok (by omega) rfl h1
  · rintro env s ⟨f, p, g, c, ks, x9, x10, x11, x12, x13, x14, x15, R, rfl⟩
    have hok := RS.Ok.run S M es
    rw [List.length_map, List.take_length] at R
    simp only [List.length_map, List.take_length]
    generalize RS.run S M es = r at R hok k ⊢
    have hsz : ∀ n : Nat, n ≤ 2000 → n ≤ sizeLine := fun n h => Nat.le_trans h (by decide)
    have t1 := hok.tot
    have t2 := hok.pl
    have gl : ∀ p : Int × Bool → Bool, (r.gone.filter p).length ≤ 2000 := fun p => Nat.le_trans (List.length_filter_le _ _) (by omega)
    have kl : ks.length = r.old.length := by rw [← R.old, List.length_map]
    have o2 := hok.o2
    walk_at "ev"
    refine ⟨_, R.hg, ?_⟩
    refine lc_map (fun d => match d with | .tup [_, .bl b] => b | _ => false) (fun d => match d with | .tup [x, _] => x | _ => .non) R.hg ?_ ?_
    · intro d hd
      obtain ⟨x, hx, rfl⟩ := List.mem_map.mp hd
      refine ⟨_, rfl, ?_⟩
      walk_at "ev"
      exact ⟨rfl, fun _ => rfl⟩
    have e1 : (((r.gone.map goneD).filter fun d => match d with | .tup [_, .bl b] => b | _ => false).map fun d => match d with | .tup [x, _] => x | _ => .non) = ((r.gone.filter Prod.snd).map Prod.fst).map D.int := by
      rw [List.filter_map, List.map_map, List.map_map]
      rfl
    rw [e1]
    refine ⟨hsz _ (by rw [List.length_map, List.length_map]; exact gl _), _, R.hf, ?_⟩
    refine lc_map (fun _ => true) (fun d => match d with | .tup [.ref k, _] => (match s[k]? with | some (.lst xs) => .tup xs | _ => .non) | _ => .non) R.hf ?_ ?_
    · intro d hd
      rcases List.mem_append.mp hd with q | q
      · obtain ⟨x, hx, rfl⟩ := List.mem_map.mp q
        obtain ⟨e, _⟩ := R.hk x hx
        refine ⟨_, rfl, ?_⟩
        walk_at "ev"
        rw [ev_tuple_cell e]
        refine fun _ => ⟨rfl, ?_⟩
        show _ = (match s[x.1]? with | some (.lst xs) => D.tup xs | _ => .non)
        rw [e]
      · rw [List.mem_singleton.mp q]
        refine ⟨_, rfl, ?_⟩
        walk_at "ev"
        rw [ev_tuple_cell R.hc]
        refine fun _ => ⟨rfl, ?_⟩
        rw [R.hc]
    have e2 : (((ks.map fileD ++ [D.tup [.ref c, .int r.beg]]).filter fun _ => true).map fun d => match d with | .tup [.ref k, _] => (match s[k]? with | some (.lst xs) => D.tup xs | _ => .non) | _ => .non) = (r.old.map fun f => D.tup (f.1.map .int)) ++ [.tup (r.cur.map .int)] := by
      rw [filter_yes, List.map_append, List.map_map, ← R.old, List.map_map]
      congr 1
      · refine List.map_congr_left fun x hx => ?_
        obtain ⟨e, _⟩ := R.hk x hx
        show (match s[x.1]? with | some (.lst xs) => D.tup xs | _ => .non) = _
        rw [e]; rfl
      · show [match s[c]? with | some (.lst xs) => D.tup xs | _ => .non] = _
        rw [R.hc]
    rw [e2]
    refine ⟨hsz _ (by simp; omega), _, R.hg, ?_⟩
    refine lc_map (fun _ => true) (fun d => match d with | .tup [x, _] => x | _ => .non) R.hg ?_ ?_
    · intro d hd
      obtain ⟨x, hx, rfl⟩ := List.mem_map.mp hd
      refine ⟨_, rfl, ?_⟩
      walk_at "ev"
      exact fun _ => rfl
    have e3 : (((r.gone.map goneD).filter fun _ => true).map fun d => match d with | .tup [x, _] => x | _ => .non) = (r.gone.map Prod.fst).map D.int := by
      rw [filter_yes, List.map_map, List.map_map]
      rfl
    rw [e3]
    refine ⟨hsz _ (by rw [List.length_map, List.length_map]; omega), ?_⟩
    rw [ev_sorted_lst]
    walk_at "ev"
    rw [ev_sorted_lst]
    walk_at "ev"
    refine fin_tree ?_ R.ext.close ?_
    · refine blw_tup (blws_cons (blw_tup (blws_all fun d hd => ?_)) (blws_cons (blw_tup blws_ints) (blws_cons (blw_tup blws_ints) (blws_cons blw_int blws_nil))))
      rcases List.mem_append.mp hd with q | q
      · obtain ⟨x, _, rfl⟩ := List.mem_map.mp q
        exact blw_tup blws_ints
      · rw [List.mem_singleton.mp q]
        exact blw_tup blws_ints
    · rw [R.ext.cut]
      exact k _ _ rfl rfl
end My

namespace My
open PySem PySem.Spec PyProof.Rows L2
/-! ### repr of trees -/
structure RP (n k : Nat) (d : D) (p : PyData) : Prop where
  py : d.py = some p
  tr : d.blw 0 = true
  tx : Tx n k p
  lay : p.canLay0 = true
theorem RP.mono {n m k l : Nat} {d : D} {p : PyData} (h : RP n k d p) (h1 : n ≤ m) (h2 : k ≤ l) : RP m l d p := ⟨h.py, h.tr, h.tx.mono h1 h2, h.lay⟩
theorem RP.int {i : Int} (n : Nat) (h : i.natAbs < 10 ^ n) (h0 : 0 < n := by decide) (h1 : n ≤ 500 := by decide) : RP (n + 1) 0 (.int i) (.int i) := ⟨by simp only [D.py], blw_int, Tx.int h0 h1 h, rfl⟩
theorem RP.bl {b : Bool} : RP 5 0 (.bl b) (.bool b) := ⟨by simp only [D.py], blw_bl, Tx.bool, rfl⟩
theorem RP.non : RP 4 0 .non .none := ⟨by simp only [D.py], blw_non, Tx.none, rfl⟩
theorem lays_all : ∀ {ps : List PyData}, (∀ p ∈ ps, p.canLay0 = true) → PyData.canLayAll0 ps = true
  | [], _ => rfl
  | p :: ps, h => by
    simp only [PyData.canLayAll0, Bool.and_eq_true]
    exact ⟨h p List.mem_cons_self, lays_all fun q hq => h q (List.mem_cons_of_mem _ hq)⟩
theorem pys_map {α : Type} {f : α → D} {g : α → PyData} : ∀ {xs : List α}, (∀ x ∈ xs, (f x).py = some (g x)) → D.pys (xs.map f) = some (xs.map g)
  | [], _ => by simp only [List.map_nil, D.pys]
  | x :: xs, h => by simp only [List.map_cons, D.pys, h x List.mem_cons_self, pys_map fun y hy => h y (List.mem_cons_of_mem _ hy), Option.map_some]
theorem RP.lstM {α : Type} {f : α → D} {g : α → PyData} {xs : List α} {n k m : Nat} (h : ∀ x ∈ xs, RP n k (f x) (g x)) (hm : xs.length ≤ m) : RP (m * (n + 2) + 2) (k + 1) (.lst (xs.map f)) (.list (xs.map g)) := by
  refine ⟨by simp only [D.py, pys_map fun x hx => (h x hx).py, Option.map_some], blw_lst (blws_all fun d hd => ?_), Tx.list (fun d hd => ?_) (by rw [List.length_map]; exact hm), by
    simp only [PyData.canLay0]
    refine lays_all fun p hp => ?_
    obtain ⟨x, hx, rfl⟩ := List.mem_map.mp hp
    exact (h x hx).lay⟩
  · obtain ⟨x, hx, rfl⟩ := List.mem_map.mp hd
    exact (h x hx).tr
  · obtain ⟨x, hx, rfl⟩ := List.mem_map.mp hd
    exact (h x hx).tx
theorem RP.tupM {α : Type} {f : α → D} {g : α → PyData} {xs : List α} {n k m : Nat} (h : ∀ x ∈ xs, RP n k (f x) (g x)) (hm : xs.length ≤ m) : RP (m * (n + 2) + 3) (k + 1) (.tup (xs.map f)) (.tuple (xs.map g)) := by
  refine ⟨by simp only [D.py, pys_map fun x hx => (h x hx).py, Option.map_some], blw_tup (blws_all fun d hd => ?_), Tx.tuple (fun d hd => ?_) (by rw [List.length_map]; exact hm), by
    simp only [PyData.canLay0]
    refine lays_all fun p hp => ?_
    obtain ⟨x, hx, rfl⟩ := List.mem_map.mp hp
    exact (h x hx).lay⟩
  · obtain ⟨x, hx, rfl⟩ := List.mem_map.mp hd
    exact (h x hx).tr
  · obtain ⟨x, hx, rfl⟩ := List.mem_map.mp hd
    exact (h x hx).tx
theorem RP.ev {e : Ev} {ls : List Int} (h : Ev.ok ls e) (hl : ∀ l ∈ ls, 1 ≤ l ∧ l ≤ 100) : RP 62 0 e.D e.d := by
  refine ⟨?_, by cases e <;> simp only [Ev.D, D.blw], Ev.tx h hl, by cases e <;> first | rfl | decide +kernel⟩
  cases e <;> simp only [Ev.D, D.py, Ev.d]
/-- all of a list -/
inductive RPs (n k : Nat) : List D → List PyData → Prop
  | nil : RPs n k [] []
  | cons {d : D} {p : PyData} {ds : List D} {ps : List PyData} : RP n k d p → RPs n k ds ps → RPs n k (d :: ds) (p :: ps)
theorem RPs.py {n k : Nat} : ∀ {ds : List D} {ps : List PyData}, RPs n k ds ps → D.pys ds = some ps ∧ D.blws 0 ds = true ∧ (∀ p ∈ ps, Tx n k p) ∧ ps.length = ds.length ∧ PyData.canLayAll0 ps = true
  | _, _, .nil => ⟨by simp only [D.pys], blws_nil, fun _ h => absurd h (by simp), rfl, rfl⟩
  | _, _, .cons h t => by
    obtain ⟨h1, h2, h3, h4, h5⟩ := RPs.py t
    exact ⟨by simp only [D.pys, h.py, h1, Option.map_some], blws_cons h.tr h2, fun q hq => (List.mem_cons.mp hq).elim (fun e => e ▸ h.tx) (h3 q), by simp [h4], by simp only [PyData.canLayAll0, h.lay, h5, Bool.and_self]⟩
theorem RPs.lst {n k : Nat} {ds : List D} {ps : List PyData} (h : RPs n k ds ps) : RP (ds.length * (n + 2) + 2) (k + 1) (.lst ds) (.list ps) := by
  obtain ⟨h1, h2, h3, h4, h5⟩ := h.py
  exact ⟨by simp only [D.py, h1, Option.map_some], blw_lst h2, Tx.list h3 (Nat.le_of_eq h4), by simp only [PyData.canLay0]; exact h5⟩
theorem RPs.tup {n k : Nat} {ds : List D} {ps : List PyData} (h : RPs n k ds ps) : RP (ds.length * (n + 2) + 3) (k + 1) (.tup ds) (.tuple ps) := by
  obtain ⟨h1, h2, h3, h4, h5⟩ := h.py
  exact ⟨by simp only [D.py, h1, Option.map_some], blw_tup h2, Tx.tuple h3 (Nat.le_of_eq h4), by simp only [PyData.canLay0]; exact h5⟩
theorem view_tree {st : Store} {d : D} (h : d.blw 0 = true) : view st d = some d := fz_blw (n := 0) (fun i hi => absurd hi (Nat.not_lt_zero _)) d h
theorem ev_repr {n k : Nat} {d : D} {p : PyData} {st : Store} {Q : D → Store → Prop} (h : RP n k d p) (hn : n ≤ 16777216) (hk : k ≤ 60) (q : Q (.str p.shown) st) : EvF fRepr [d] st Q := by
  refine ⟨.str p.shown, st, ?_, q⟩
  have t := h.tx.mono hn hk
  simp only [fRepr, ro, pyOf, view_tree h.tr, Option.bind_some, h.py]
  rw [if_pos t]
  rfl
theorem RP.shaped {n k : Nat} {d : D} {p : PyData} (h : RP n k d p) (hk : k ≤ 64) : SeqAt.shaped p = true := by
  unfold SeqAt.shaped
  rw [h.lay, Bool.true_and, decide_eq_true_eq]
  exact Nat.le_trans h.tx.dp hk
theorem eq_tup {n k m l : Nat} {xs ys : List D} {p q : PyData} {st : Store} (h : RP n k (.tup xs) p) (h2 : RP m l (.tup ys) q) (hk : k ≤ 64 := by decide) (hl : l ≤ 64 := by decide) : dEq (.tup xs) (.tup ys) st = some (.bl (PyData.eqv p q)) := by
  simp only [dEq, eqB, pyOf, view_tree h.tr, view_tree h2.tr, Option.bind_some, h.py, h2.py, h.shaped hk, h2.shaped hl, and_self, if_true, Option.map_some]
theorem eq_lst {n k m l : Nat} {xs ys : List D} {p q : PyData} {st : Store} (h : RP n k (.lst xs) p) (h2 : RP m l (.lst ys) q) (hk : k ≤ 64 := by decide) (hl : l ≤ 64 := by decide) : dEq (.lst xs) (.lst ys) st = some (.bl (PyData.eqv p q)) := by
  simp only [dEq, eqB, pyOf, view_tree h.tr, view_tree h2.tr, Option.bind_some, h.py, h2.py, h.shaped hk, h2.shaped hl, and_self, if_true, Option.map_some]
theorem ne_tup {n k m l : Nat} {xs ys : List D} {p q : PyData} {st : Store} (h : RP n k (.tup xs) p) (h2 : RP m l (.tup ys) q) (hk : k ≤ 64 := by decide) (hl : l ≤ 64 := by decide) : dNe (.tup xs) (.tup ys) st = some (.bl (!PyData.eqv p q)) := by
  simp only [dNe, eqB, pyOf, view_tree h.tr, view_tree h2.tr, Option.bind_some, h.py, h2.py, h.shaped hk, h2.shaped hl, and_self, if_true, Option.map_some]
theorem ne_lst {n k m l : Nat} {xs ys : List D} {p q : PyData} {st : Store} (h : RP n k (.lst xs) p) (h2 : RP m l (.lst ys) q) (hk : k ≤ 64 := by decide) (hl : l ≤ 64 := by decide) : dNe (.lst xs) (.lst ys) st = some (.bl (!PyData.eqv p q)) := by
  simp only [dNe, eqB, pyOf, view_tree h.tr, view_tree h2.tr, Option.bind_some, h.py, h2.py, h.shaped hk, h2.shaped hl, and_self, if_true, Option.map_some]
theorem RP.refl {n k : Nat} {d : D} {p : PyData} (h : RP n k d p) : PyData.eqv p p = true := SeqAt.eqv_refl p h.lay
theorem RP.ints {ns : List Int} (n m : Nat) (h : ∀ i ∈ ns, i.natAbs < 10 ^ n) (hm : ns.length ≤ m) (h0 : 0 < n := by decide) (h1 : n ≤ 500 := by decide) : RP (m * (n + 1 + 2) + 3) 1 (.tup (ns.map .int)) (.tuple (ns.map .int)) := RP.tupM (fun i hi => RP.int n (h i hi) h0 h1) hm
theorem RP.intsL {ns : List Int} (n m : Nat) (h : ∀ i ∈ ns, i.natAbs < 10 ^ n) (hm : ns.length ≤ m) (h0 : 0 < n := by decide) (h1 : n ≤ 500 := by decide) : RP (m * (n + 1 + 2) + 2) 1 (.lst (ns.map .int)) (.list (ns.map .int)) := RP.lstM (fun i hi => RP.int n (h i hi) h0 h1) hm
/-- a tuple of whole numbers beside another -/
theorem eq_ints {ns ms : List Int} {st : Store} : dEq (.tup (ns.map .int)) (.tup (ms.map .int)) st = some (.bl (decide (ns = ms))) := by
  have py : ∀ zs : List Int, (D.tup (zs.map .int)).py = some (.tuple (zs.map .int)) := fun zs => by simp only [D.py, pys_map (fun x _ => show (D.int x).py = some (PyData.int x) by simp only [D.py]), Option.map_some]
  have sh : ∀ zs : List Int, SeqAt.shaped (.tuple (zs.map .int)) = true := fun zs => by
    unfold SeqAt.shaped
    rw [Bool.and_eq_true, decide_eq_true_eq]
    refine ⟨?_, ?_⟩
    · simp only [PyData.canLay0]
      refine lays_all fun p hp => ?_
      obtain ⟨x, _, rfl⟩ := List.mem_map.mp hp
      rfl
    · simp only [PyData.depth]
      refine Nat.le_trans (Nat.succ_le_succ (depthAll_le (k := 0) _ fun p hp => ?_)) (by decide)
      obtain ⟨x, _, rfl⟩ := List.mem_map.mp hp
      simp only [PyData.depth]
      exact Nat.le_refl _
  simp only [dEq, eqB, pyOf, view_tree (blw_tup blws_ints), Option.bind_some, py, sh, and_self, if_true, Option.map_some, PyData.eqv, PySem.W.ked_eqvAll]
/-- a list of whole numbers beside another -/
theorem eq_intsL {ns ms : List Int} {st : Store} : dEq (.lst (ns.map .int)) (.lst (ms.map .int)) st = some (.bl (decide (ns = ms))) := by
  have py : ∀ zs : List Int, (D.lst (zs.map .int)).py = some (.list (zs.map .int)) := fun zs => by simp only [D.py, pys_map (fun x _ => show (D.int x).py = some (PyData.int x) by simp only [D.py]), Option.map_some]
  have sh : ∀ zs : List Int, SeqAt.shaped (.list (zs.map .int)) = true := fun zs => by
    unfold SeqAt.shaped
    rw [Bool.and_eq_true, decide_eq_true_eq]
    refine ⟨?_, ?_⟩
    · simp only [PyData.canLay0]
      refine lays_all fun p hp => ?_
      obtain ⟨x, _, rfl⟩ := List.mem_map.mp hp
      rfl
    · simp only [PyData.depth]
      refine Nat.le_trans (Nat.succ_le_succ (depthAll_le (k := 0) _ fun p hp => ?_)) (by decide)
      obtain ⟨x, _, rfl⟩ := List.mem_map.mp hp
      simp only [PyData.depth]
      exact Nat.le_refl _
  simp only [dEq, eqB, pyOf, view_tree (blw_lst blws_ints), Option.bind_some, py, sh, and_self, if_true, Option.map_some, PyData.eqv, PySem.W.ked_eqvAll]
theorem eq_ints0 {ns : List Int} {st : Store} : dEq (.tup (ns.map .int)) (.tup []) st = some (.bl (decide (ns = []))) := eq_ints (ms := [])
/-! ### max with default -/
theorem ev_maxD {ns : List Int} {d : D} {st : Store} {Q : D → Store → Prop} (q : Q ((ns.max?.map D.int).getD d) st) : EvF (fun _ s => fMaxD [.lst (ns.map D.int)] [d] s) [] st Q := by
  refine ⟨_, st, ?_, q⟩
  simp only [fMaxD, seqL, intsOf_map]
  cases ns.max? <;> rfl
/-! ### cells told -/
theorem lkc_lst {st : Store} {n k i : Nat} {ds : List D} (h : st[i]? = some (.lst ds)) (hn : n ≤ i) (hd : D.blws 0 ds = true) : lkc st n (k + 1) i = some (.lst ds) := by
  simp only [lkc, if_neg (Nat.not_lt.mpr hn), h, fzs_blw (n := 0) (fun i hi => absurd hi (Nat.not_lt_zero _)) ds hd, Option.map_some]
theorem fin_to {st s1 : Store} {r r' : D} {Q : D → Store → Prop} (h : fz (lkc s1 st.length 3) r = some r') (c : closeOk st s1) (q : Q r' (s1.take st.length)) : EvF (fun _ s => fin st r s) [] s1 Q := by
  refine ⟨r', s1.take st.length, ?_, q⟩
  show fin st r s1 = _
  unfold fin
  rw [h]
  dsimp only
  rw [if_pos c]
end My

namespace My
open PySem PySem.Spec PyProof.Rows L2
local macro_rules | `(tactic| walk_at "ev") => `(tactic| try simp only [ev_var, ev_c, ev_un, ev_op, ev_nil, ev_cons, ev_call, ev_callD, ev_callN, ev_callK, ev_opM, ev_lcM, ev_tup, ev_lst, ev_lstM, ev_dkM, ev_dtM, ev_bE, ev_bAnd, ev_bOr, ev_bNot, ev_bYes, ev_eAnd, ev_eOr, ev_eNot, ev_if, ev_chain, ev_oNone, ev_oSome, ev_sl, ev_bm, ev_skip, ev_brk, ev_cnt, ev_seq, then_nx, then_rt, then_bk, then_ct, ev_set, ev_asg, ev_par, ev_par3, ev_ret, ev_drop, ev_sIf, ev_aug, ev_sub, ev_seqI, ev_fld, ev_fldM, ev_meth, ev_new, ev_newK, ev_enum, ev_zip, ev_range1, ev_range2, ev_for, ev_lc, enter, gNm, gsNil, gsCons, gTp, wipeE,
  List.map_cons, List.map_nil, List.length_cons, List.length_nil, List.replicate, List.cons_append, List.nil_append, List.append_nil, List.getElem?_cons_zero, List.getElem?_cons_succ, List.set_cons_zero, List.set_cons_succ, Option.some.injEq, exists_eq_left', exists_eq_left, D.bl.injEq, D.int.injEq, D.str.injEq, D.tup.injEq, D.lst.injEq, D.ref.injEq, decide_eq_true_eq, List.cons.injEq, and_true, true_and, if_true, if_false, reduceCtorEq, Bool.false_eq_true, ite_true, ite_false, Nat.sub_self, Nat.reduceAdd, Nat.reduceSub, Nat.zero_add, exists_and_left, exists_const, Bool.not_true, Bool.not_false, Bool.not_eq_true', exists_eq_right, and_assoc, List.length_set, exists_eq_right',
  add_int, addI_int, sub_int, neg_int, lt_int, le_int, gt_int, ge_int, eq_int, ne_int, eq_str, ne_str, eq_bl, ne_bl, eq_is, eq_si, ne_is, ne_si, is_nn, ix_tup, ix_lst, ix_scr, at_0, at_1, at_2, at_3, len_tup, len_lst, len_scr, outF, outK, ev_len_tup, ev_len_lst, ev_len_scr, ev_abs, ev_int, ev_intb, ev_max2, ev_min2, ev_tuple_lst, ev_tuple_tup, ev_list_lst, ev_list_tup, sz0, sz1, sz2, sz3, sz4, sz5, sz6, sz7, sz8, sz9, sz10, sz11, sz12, s_rl, s_lr, atI_last, decide_false, decide_true, Bool.or_false, Bool.false_or])
local macro_rules | `(tactic| walk_at "st") => `(tactic| try simp only [List.append_assoc, List.cons_append, List.nil_append, List.length_append, List.length_cons, List.length_nil, Nat.reduceAdd, Nat.add_assoc])
theorem intsTo_at {n i : Nat} (h : i < n) {h2 : i < (intsTo 0 n).length} : (intsTo 0 n)[i] = .int (i : Int) := by
  simp [intsTo]
/-- all([.. for _ in ..]) whose items are all true -/
theorem all_lc {EL : EM} {i : Nat} {ds : List D} {gd : Store → Prop} {env : Env} {st : Store} {Q : D → Store → Prop} (I : Nat → Store → Prop) (hz : ds.length ≤ sizeLine) (hg : ∀ s, gd s) (h0 : I 0 st)
    (step : ∀ j (hj : j < ds.length) s, I j s → EvE EL (env.set i (some ds[j])) s fun y s' => y = .bl true ∧ I (j + 1) s') (k : ∀ s, I ds.length s → Q (.bl true) s) :
    EvL (lcGo gd (gNm i) bYes EL env ds st) fun ys s2 => ys.length ≤ sizeLine ∧ EvF fAll [.lst ys] s2 Q := by
  refine lc_inv (fun j ys s => ys = (List.replicate j true).map D.bl ∧ I j s) ⟨rfl, h0⟩ (fun _ _ s _ _ => hg s) ?_ ?_
  · rintro j hj ys s ⟨rfl, h⟩
    refine ⟨_, rfl, ?_⟩
    rw [ev_bYes, if_pos rfl]
    refine EvE.mono (step j hj s h) fun y s' ⟨e, h'⟩ => ⟨?_, h'⟩
    rw [e, List.replicate_succ', List.map_append]
    rfl
  · rintro ys s ⟨rfl, h⟩
    refine ⟨by simpa using hz, ?_⟩
    rw [ev_all, all_true]
    exact k s h
def HeadI (ns : List Int) (_ : Nat) (env : Env) (_ : Store) : Prop := ∃ x1 x2 x3, env = [some (.scr ns), x1, x2, x3]
/-- the head of most laws: for each cell of the script a box, some turns with it -/
theorem ev_headA {EL : EM} {ns : List Int} {m : Int} {R : Nat} {QS : Out → Store → Prop} (hl : ns.length ≤ 63) (m0 : 0 ≤ m) (m1 : m ≤ 100) (hR : R ≤ 2 ^ 30)
    (right : ∀ (x1 x3 : D) (st : Store) (b : Nat) (c : D) (n : Nat), st[b]? = some c → BoxC n c → n + R < 2 ^ 39 → EvE EL [some (.scr ns), some x1, some (.ref b), some x3] st fun y s => y = .bl true ∧ ∃ c', BoxC (n + R) c' ∧ s = st.set b c')
    (done : ∀ x1 x2 x3 st, QS (.nx [some (.scr ns), x1, x2, x3]) st) :
    EvS (sFor (iRange1 (eCall fMax (aCons (eC (.int 1)) (aCons (eCall fMin (aCons (eC (.int 3)) (aCons (eCall fLen (aCons (eVar 0) aNil)) aNil))) aNil)))) (gNm 1) (sSeq (sSet 2 (eCallD 2 mf_Lbox [] (aCons (eVar 0) (aCons (eVar 1) aNil)))) (sIf (bNot (bE (eCall fAll (aCons (eLc (iRange1 (eC (.int m))) (gNm 3) bYes EL [3]) aNil)))) (sRet (eC (.bl false))) sSkip))) [some (.scr ns), none, none, none] [] QS := by
  walk_at "ev"
  generalize er : (if (if (ns.length : Int) < 3 then (ns.length : Int) else 3) > 1 then (if (ns.length : Int) < 3 then (ns.length : Int) else 3) else 1) = r
  have hr : 1 ≤ r ∧ r ≤ 3 := by
    subst er
    constructor <;> (repeat' split) <;> omega
  clear er
  refine ⟨by omega, by omega, ?_⟩
  refine for_inv (HeadI ns) ⟨none, none, none, rfl⟩ (fun _ _ _ _ _ => trivial) ?_ ?_
  · rintro i hi env s ⟨x1, x2, x3, rfl⟩
    rw [intsTo_len] at hi
    refine ⟨_, rfl, ?_⟩
    rw [intsTo_at (by omega)]
    walk_at "ev"
    refine ev_box hl (by omega) (by omega) fun c hc => ?_
    walk_at "ev"
    refine ⟨by omega, by omega, ?_⟩
    have hlen : (intsTo 0 m.toNat).length = m.toNat := intsTo_len
    refine all_lc (I := fun j s' => ∃ c', BoxC (j * R) c' ∧ s' = s ++ [c']) (Nat.le_trans (Nat.le_of_eq hlen) (Nat.le_trans (show m.toNat ≤ 100 by omega) (by decide))) (fun _ => trivial) ⟨c, hc.mono (Nat.zero_le _), rfl⟩ ?_ ?_
    · rintro j hj s' ⟨c', hc', rfl⟩
      have hj2 : j < 100 := by omega
      have hR2 : j * R ≤ 100 * 2 ^ 30 := Nat.mul_le_mul (by omega) hR
      walk_at "ev"
      refine EvE.mono (right _ _ (s ++ [c']) s.length c' (j * R) (up_new _) hc' (by omega)) fun y s2 ⟨h1, c2, h2, h3⟩ => ⟨h1, c2, ?_, ?_⟩
      · rw [Nat.succ_mul]; exact h2
      · rw [h3, put_n0]
    · rintro s' ⟨c', hc', rfl⟩
      walk_at "ev"
      exact ⟨_, _, _, rfl⟩
  · rintro env s ⟨x1, x2, x3, rfl⟩
    exact done _ _ _ _
/-- the other head: return all([_law_right(_law_box(script, k)) for k in ..]) -/
theorem ev_headB {F : FM} {ns : List Int} {QS : Out → Store → Prop} (hl : ns.length ≤ 63)
    (right : ∀ (st : Store) (c : D), BoxC 0 c → EvF F [.ref st.length] (st ++ [c]) fun y s => y = .bl true ∧ ∃ c', s = st ++ [c'])
    (done : ∀ st, QS (.rt (.bl true)) st) :
    EvS (sRet (eCall fAll (aCons (eLc (iRange1 (eCall fMax (aCons (eC (.int 1)) (aCons (eCall fMin (aCons (eCall fLen (aCons (eVar 0) aNil)) (aCons (eC (.int 3)) aNil))) aNil)))) (gNm 1) bYes (eCallD 1 F [] (aCons (eCallD 2 mf_Lbox [] (aCons (eVar 0) (aCons (eVar 1) aNil))) aNil)) [1]) aNil))) [some (.scr ns), none] [] QS := by
  walk_at "ev"
  generalize er : (if (if 3 < (ns.length : Int) then 3 else (ns.length : Int)) > 1 then (if 3 < (ns.length : Int) then 3 else (ns.length : Int)) else 1) = r
  have hr : 1 ≤ r ∧ r ≤ 3 := by
    subst er
    constructor <;> (repeat' split) <;> omega
  clear er
  refine ⟨by omega, by omega, ?_⟩
  refine all_lc (I := fun j s' => True) (by rw [intsTo_len]; exact Nat.le_trans (show r.toNat ≤ 3 by omega) (by decide)) (fun _ => trivial) trivial ?_ ?_
  · rintro j hj s' _
    rw [intsTo_len] at hj
    rw [intsTo_at hj]
    walk_at "ev"
    refine ev_box hl (by omega) (by omega) fun c hc => ?_

    obtain ⟨d, s2, h1, h2, c', h3⟩ := right s' c hc
    exact ⟨d, s2, h1, h2⟩
  · intro s _
    exact done s
end My

namespace My
open PySem PySem.Spec PyProof.Rows L2
/-! ### {} and {"k": x} as trees, x a name or a number -/
def eDk0 : EM := fun _ st => some (.dk [] [], st)
def eDispKV (z : Str) (i : Nat) : EM := fun env st => match env[i]? with
  | some (some d) => some (.dk [.inr z] [d], st)
  | _ => none
def eDispKI (z : Str) (i : Int) : EM := fun _ st => some (.dk [.inr z] [.int i], st)
section
variable {X : Cx} {W : Wd} {pos p1 p2 : Pos} {z : Str}
theorem j_dk0 {pos : Pos} : PE X (.Dict [] [] pos) (T W eDk0) := pe_dnewK.imp fun σ H Q ⟨ι, st, env, d, st', r, n, e, k⟩ => by
  cases e
  intro p hp
  have g : Grow ι H ι (upd H p (.dK [])) := Grow.laid hp
  refine k _ ι _ g (r.laid hp) ?_
  simp only [Rep]
  exact ⟨p, rfl, r.free hp, [], upd_same, rfl, Reps.nil⟩
theorem upd_upd {H : Hp} {p : Addr} {a b : HO} : upd (upd H p a) p b = upd H p b := by
  funext q
  by_cases h : q = p
  · rw [h, upd_same, upd_same]
  · rw [upd_ne h, upd_ne h, upd_ne h]
theorem dk_rep {ι : Lay} {H : Hp} {p : Addr} {st : Store} {d : D} {v : V} (r : RelH W ι H st) (hp : H p = none) (h : Rep W ι H d v) : Rep W ι (upd H p (.dK [(.inr z, v)])) (.dk [.inr z] [d]) (.ref p) := by
  simp only [Rep]
  exact ⟨p, rfl, r.free hp, [v], upd_same, rfl, Reps.grow (Grow.laid hp) _ _ (Reps.cons h Reps.nil)⟩
theorem j_dispKV {x : Str} (i : Nat) {k : Nat} (hN : X.N[i]? = some x := by rfl) (hv : Vis X.env.scope x := by first | exact Or.inl rfl | exact Or.inr (Or.inl rfl) | exact Or.inr (Or.inr rfl)) (hd : (x == ("__debug__" : Str)) = false := by decide) (hcd : (x == ("__classdict__" : Str)) = false := by decide) : PE X (.Dict [some (.Constant (.str z) k p1)] [.Name x p2] pos) (T W (eDispKV z i)) := (pe_disp (pps_cons pe_str (pe_var hN hv hd hcd) pps_nil) rfl rfl (by simp) (by simp)).imp fun σ H Q ⟨ι, st, env, d, st', r, n, e, kk⟩ => by
  unfold eDispKV at e
  split at e
  · rename_i d q
    cases e
    intro p hp
    obtain ⟨v, e1, pv⟩ := n.get _ _ q
    refine ⟨v, e1, upd_same, [(.inr z, v)], rfl, by simp, ?_⟩
    rw [upd_upd]
    exact kk _ ι _ (Grow.laid hp) (r.laid hp) (dk_rep r hp pv)
  · cases e
theorem j_dispKI {i : Int} {k k2 : Nat} : PE X (.Dict [some (.Constant (.str z) k p1)] [.Constant (.int i) k2 p2] pos) (T W (eDispKI z i)) := (pe_disp (pps_cons pe_str pe_int pps_nil) rfl rfl (by simp) (by simp)).imp fun σ H Q ⟨ι, st, env, d, st', r, n, e, kk⟩ => by
  unfold eDispKI at e
  cases e
  intro p hp
  refine ⟨upd_same, [(.inr z, .int i)], rfl, by simp, ?_⟩
  rw [upd_upd]
  exact kk _ ι _ (Grow.laid hp) (r.laid hp) (dk_rep r hp int_rep)
end
section
variable {env : Env} {st : Store} {Q : D → Store → Prop}
theorem ev_dk0 : EvE eDk0 env st Q ↔ Q (.dk [] []) st := ⟨fun ⟨d, s, e, q⟩ => by cases e; exact q, fun q => ⟨_, _, rfl, q⟩⟩
theorem ev_dispKI {z : Str} {i : Int} : EvE (eDispKI z i) env st Q ↔ Q (.dk [.inr z] [.int i]) st := ⟨fun ⟨d, s, e, q⟩ => by cases e; exact q, fun q => ⟨_, _, rfl, q⟩⟩
theorem ev_dispKV {z : Str} {i : Nat} : EvE (eDispKV z i) env st Q ↔ ∃ d, env[i]? = some (some d) ∧ Q (.dk [.inr z] [d]) st := by
  unfold EvE eDispKV
  constructor
  · rintro ⟨d, s, e, q⟩
    split at e
    · rename_i d h
      cases e
      exact ⟨_, h, q⟩
    · cases e
  · rintro ⟨d, h, q⟩
    exact ⟨_, _, by rw [h], q⟩
end
end My

namespace My
open PySem PySem.Spec PyProof.Rows L2
local macro_rules | `(tactic| walk_at "ev") => `(tactic| try simp only [ev_dk0, ev_dispKI, ev_dispKV, ev_var, ev_c, ev_un, ev_op, ev_nil, ev_cons, ev_call, ev_callD, ev_callN, ev_callK, ev_opM, ev_lcM, ev_tup, ev_lst, ev_lstM, ev_dkM, ev_dtM, ev_bE, ev_bAnd, ev_bOr, ev_bNot, ev_bYes, ev_eAnd, ev_eOr, ev_eNot, ev_if, ev_chain, ev_oNone, ev_oSome, ev_sl, ev_bm, ev_skip, ev_brk, ev_cnt, ev_seq, then_nx, then_rt, then_bk, then_ct, ev_set, ev_asg, ev_par, ev_par3, ev_ret, ev_drop, ev_sIf, ev_aug, ev_sub, ev_seqI, ev_fld, ev_fldM, ev_meth, ev_new, ev_newK, ev_enum, ev_zip, ev_range1, ev_range2, ev_for, ev_lc, enter, gNm, gsNil, gsCons, gTp, wipeE,
  List.map_cons, List.map_nil, List.length_cons, List.length_nil, List.replicate, List.cons_append, List.nil_append, List.append_nil, List.getElem?_cons_zero, List.getElem?_cons_succ, List.set_cons_zero, List.set_cons_succ, Option.some.injEq, exists_eq_left', exists_eq_left, D.bl.injEq, D.int.injEq, D.str.injEq, D.tup.injEq, D.lst.injEq, D.ref.injEq, decide_eq_true_eq, List.cons.injEq, and_true, true_and, if_true, if_false, reduceCtorEq, Bool.false_eq_true, ite_true, ite_false, Nat.sub_self, Nat.reduceAdd, Nat.reduceSub, Nat.zero_add, exists_and_left, exists_const, Bool.not_true, Bool.not_false, Bool.not_eq_true', exists_eq_right, and_assoc, List.length_set, exists_eq_right',
  add_int, addI_int, sub_int, neg_int, lt_int, le_int, gt_int, ge_int, eq_int, ne_int, eq_str, ne_str, eq_bl, ne_bl, eq_is, eq_si, ne_is, ne_si, is_nn, ix_tup, ix_lst, ix_scr, at_0, at_1, at_2, at_3, len_tup, len_lst, len_scr, outF, outK, ev_len_tup, ev_len_lst, ev_len_scr, ev_abs, ev_int, ev_intb, ev_max2, ev_min2, ev_tuple_lst, ev_tuple_tup, ev_list_lst, ev_list_tup, sz0, sz1, sz2, sz3, sz4, sz5, sz6, sz7, sz8, sz9, sz10, sz11, sz12, s_rl, s_lr, atI_last, decide_false, decide_true, Bool.or_false, Bool.false_or])
local macro_rules | `(tactic| walk_at "st") => `(tactic| try simp only [ev_dk0, ev_dispKI, ev_dispKV, List.append_assoc, List.cons_append, List.nil_append, List.length_append, List.length_cons, List.length_nil, Nat.reduceAdd, Nat.add_assoc])
/- _law_any: 0:_law_box_here, 1:_law_some, 2:_law_found, 3:_law_turn -/
noncomputable def mb_Lany : SM :=
(sSeq (sSet 1 (eLst (aCons (eC .non) (aCons (eC (.bl true)) (aCons (eC (.bl false)) (aCons (eC (.int 0)) (aCons (eC (.int 1)) (aCons (eUn dNeg (eC (.int 1))) (aCons (eC (.int 7)) (aCons (eOp dPow (eC (.int 10)) (eC (.int 30))) (aCons (eC (.str "")) (aCons (eC (.str "look")) (aCons (eC (.str "4")) (aCons (eTup aNil) (aCons (eLst aNil) (aCons eDk0 (aCons (eTup (aCons (eC (.int 1)) aNil)) (aCons (eLst (aCons (eC (.int 1)) aNil)) (aCons (eTup (aCons (eC (.int 4)) (aCons (eC (.str "look")) aNil))) (aCons (eTup (aCons (eC (.int 10)) (aCons (eTup (aCons (eC (.int 4)) (aCons (eC (.int 7)) aNil))) aNil))) aNil))))))))))))))))))))
(sSeq (sSet 2 (eCallD 2 mf_Lof [] (aCons (eVar 0) (aCons (eOp dAdd (eVar 1) (eLst (aCons (eTup (aCons (eTup (aCons (eC (.int 1)) (aCons (eC (.int 2)) aNil))) aNil)) (aCons (eTup (aCons (eC (.int 0)) aNil)) (aCons (eC (.str "rotate")) (aCons (eC (.int 100)) (aCons (eC (.int 101)) (aCons (eTup (aCons (eC (.bl true)) aNil)) (aCons (eDispKI "a" 1) aNil))))))))) aNil))))
(sSeq (sFor (iRange1 (eCallD 2 mf_Lof [] (aCons (eVar 0) (aCons (eLst (aCons (eC (.int 0)) (aCons (eC (.int 0)) (aCons (eC (.int 0)) (aCons (eC (.int 1)) (aCons (eC (.int 2)) (aCons (eC (.int 7)) aNil))))))) aNil)))) (gNm 3)
(sSet 2 (eCallD 2 mf_Lof [] (aCons (eVar 0) (aCons (eLst (aCons (eTup (aCons (eVar 2) aNil)) (aCons (eLst (aCons (eVar 2) aNil)) (aCons (eDispKV "a" 2) (aCons (eTup (aCons (eVar 2) (aCons (eC (.int 1)) aNil))) aNil))))) aNil)))))
(sRet (eVar 2)))))
noncomputable def mf_Lany : FM := mkF 4 mb_Lany

/-! values of any kind -/
def OkTx (z : Str) : Prop := z.length ≤ 6 ∧ ∀ c ∈ z.cps.toList, 32 ≤ c ∧ c < 127
inductive AnyT : Nat → D → Prop where
  | non {k : Nat} : AnyT k .non
  | bl {k : Nat} (b : Bool) : AnyT k (.bl b)
  | int {k : Nat} (i : Int) (h : i.natAbs ≤ 10 ^ 30) : AnyT k (.int i)
  | str {k : Nat} (z : Str) (h : OkTx z) : AnyT k (.str z)
  | tup0 {k : Nat} : AnyT k (.tup [])
  | lst0 {k : Nat} : AnyT k (.lst [])
  | dk0 {k : Nat} : AnyT k (.dk [] [])
  | tup1 {k : Nat} {d : D} (h : AnyT k d) : AnyT (k + 1) (.tup [d])
  | lst1 {k : Nat} {d : D} (h : AnyT k d) : AnyT (k + 1) (.lst [d])
  | dk1 {k : Nat} {d : D} (h : AnyT k d) : AnyT (k + 1) (.dk [.inr "a"] [d])
  | tup2 {k : Nat} {d e : D} (h : AnyT k d) (h2 : AnyT k e) : AnyT (k + 1) (.tup [d, e])
theorem AnyT.mono {k m : Nat} {d : D} (h : AnyT k d) (hm : k ≤ m) : AnyT m d := by
  induction h generalizing m with
  | non => exact .non
  | bl b => exact .bl b
  | int i h => exact .int i h
  | str z h => exact .str z h
  | tup0 => exact .tup0
  | lst0 => exact .lst0
  | dk0 => exact .dk0
  | tup1 h ih => obtain ⟨n, rfl⟩ : ∃ n, m = n + 1 := ⟨m - 1, by omega⟩; exact .tup1 (ih (by omega))
  | lst1 h ih => obtain ⟨n, rfl⟩ : ∃ n, m = n + 1 := ⟨m - 1, by omega⟩; exact .lst1 (ih (by omega))
  | dk1 h ih => obtain ⟨n, rfl⟩ : ∃ n, m = n + 1 := ⟨m - 1, by omega⟩; exact .dk1 (ih (by omega))
  | tup2 h h2 ih ih2 => obtain ⟨n, rfl⟩ : ∃ n, m = n + 1 := ⟨m - 1, by omega⟩; exact .tup2 (ih (by omega)) (ih2 (by omega))
theorem AnyT.blw {k : Nat} {d : D} (h : AnyT k d) : d.blw 0 = true := by
  induction h with
  | non => rfl
  | bl b => rfl
  | int i h => rfl
  | str z h => rfl
  | tup0 => rfl
  | lst0 => rfl
  | dk0 => rfl
  | tup1 h ih => simp only [D.blw, D.blws, ih, Bool.and_self]
  | lst1 h ih => simp only [D.blw, D.blws, ih, Bool.and_self]
  | dk1 h ih => simp only [D.blw, D.blws, ih, Bool.and_self]
  | tup2 h h2 ih ih2 => simp only [D.blw, D.blws, ih, ih2, Bool.and_self]
theorem txt_ok {z : Str} (h : z.cps.size ≤ 6 ∧ z.cps.toList.all (fun c => decide (32 ≤ c) && decide (c < 127)) = true) : OkTx z := by
  refine ⟨h.1, fun c m => ?_⟩
  have := List.all_eq_true.mp h.2 c m
  simpa using this
theorem any_atoms {d : D} (h : d ∈ ([D.non, .bl true, .bl false, .int 0, .int 1, .int (-1), .int 7, .int (10 ^ (30 : Int).toNat), .str "", .str "look", .str "4", .tup [], .lst [], .dk [] [], .tup [.int 1], .lst [.int 1], .tup [.int 4, .str "look"], .tup [.int 10, .tup [.int 4, .int 7]]] ++
    [.tup [.tup [.int 1, .int 2]], .tup [.int 0], .str "rotate", .int 100, .int 101, .tup [.bl true], .dk [.inr "a"] [.int 1]] : List D)) : AnyT 2 d := by
  simp only [List.cons_append, List.nil_append, List.mem_cons, List.not_mem_nil, or_false] at h
  rcases h with rfl | rfl | rfl | rfl | rfl | rfl | rfl | rfl | rfl | rfl | rfl | rfl | rfl | rfl | rfl | rfl | rfl | rfl | rfl | rfl | rfl | rfl | rfl | rfl | rfl
  · exact .non
  · exact .bl _
  · exact .bl _
  · exact .int _ (by decide)
  · exact .int _ (by decide)
  · exact .int _ (by decide)
  · exact .int _ (by decide)
  · exact .int _ (by decide +kernel)
  · exact .str _ (txt_ok (by decide +kernel))
  · exact .str _ (txt_ok (by decide +kernel))
  · exact .str _ (txt_ok (by decide +kernel))
  · exact .tup0
  · exact .lst0
  · exact .dk0
  · exact .tup1 (.int _ (by decide))
  · exact .lst1 (.int _ (by decide))
  · exact .tup2 (.int _ (by decide)) (.str _ (txt_ok (by decide +kernel)))
  · exact .tup2 (.int _ (by decide)) (.tup2 (.int _ (by decide)) (.int _ (by decide)))
  · exact .tup1 (.tup2 (.int _ (by decide)) (.int _ (by decide)))
  · exact .tup1 (.int _ (by decide))
  · exact .str _ (txt_ok (by decide +kernel))
  · exact .int _ (by decide)
  · exact .int _ (by decide)
  · exact .tup1 (.bl _)
  · exact .dk1 (.int _ (by decide))
def AnyI (st : Store) (b n : Nat) (x1 : D) (i : Nat) (env : Env) (s : Store) : Prop := ∃ c v x3, BoxC (n + 2 + i) c ∧ AnyT (2 + i) v ∧ env = [some (.ref b), some x1, some v, x3] ∧ s = st.set b c
theorem ev_anyv {st : Store} {b n : Nat} {c : D} {Q : D → Store → Prop} (hb : st[b]? = some c) (hc : BoxC n c) (hn : n + 20 < 2 ^ 40) (k : ∀ v c', AnyT 9 v → BoxC (n + 10) c' → Q v (st.set b c')) : EvF mf_Lany [.ref b] st Q := by
  have hlt := up_lt hb
  have pw : ∀ s : Store, dPow (.int 10) (.int 30) s = some (.int (10 ^ (30 : Int).toNat)) := fun s => (if_pos (show CPowW 10 30 from ⟨by decide, by decide +kernel⟩)).trans rfl
  rw [mf_Lany, ev_mkF]
  unfold mb_Lany
  walk_at "ev"
  have cat : ∀ (xs ys : List D) (s : Store), xs.length + ys.length ≤ 1000 → dAdd (.lst xs) (.lst ys) s = some (.lst (xs ++ ys)) := fun xs ys s hz => by
    show (if _ ≤ sizeLine then _ else _ : Option D) = _
    exact if_pos (Nat.le_trans hz (by decide))
  refine ⟨_, pw _, Nat.le_trans (show 18 ≤ 1000 by decide) (by decide), _, cat _ _ _ (by show 18 + 7 ≤ 1000; decide), ?_⟩
  refine ev_of hb hc (by omega) (.inl rfl) ?_ (by simp) (by show 25 < 2 ^ 60; decide) fun v c1 hv B1 => ?_
  · exact blws_all fun d hd => (any_atoms hd).blw
  have A1 := any_atoms hv
  refine ev_of (cell_b0 hlt) B1 (by omega) (.inl rfl) (blws_cons blw_int (blws_cons blw_int (blws_cons blw_int (blws_cons blw_int (blws_cons blw_int (blws_cons blw_int blws_nil)))))) (by simp) (by show 6 < 2 ^ 60; decide) fun w c2 hw B2 => ?_
  rw [List.set_set]
  obtain ⟨r, rfl, r0, r1⟩ : ∃ r : Int, w = .int r ∧ 0 ≤ r ∧ r ≤ 7 := by
    simp only [List.mem_cons, List.not_mem_nil, or_false] at hw
    rcases hw with rfl | rfl | rfl | rfl | rfl | rfl <;> exact ⟨_, rfl, by decide, by decide⟩
  refine ⟨r, rfl, by omega, by omega, ?_⟩
  generalize (D.lst [D.non, D.bl true, D.bl false, D.int 0, D.int 1, D.int (-1), D.int 7, D.int (10 ^ (30 : Int).toNat), D.str (Str.ofString ""), D.str (Str.ofString "look"), D.str (Str.ofString "4"), D.tup [], D.lst [], D.dk [] [],
    D.tup [D.int 1], D.lst [D.int 1], D.tup [D.int 4, D.str (Str.ofString "look")], D.tup [D.int 10, D.tup [D.int 4, D.int 7]]]) = x1
  generalize hQ : thenS _ (outF st Q) = QR
  refine for_inv (AnyI st b n x1) ⟨c2, v, none, B2.mono (by omega), A1, rfl, rfl⟩ (fun _ _ _ _ _ => trivial) ?_ ?_
  · rintro i hi env s ⟨c3, v, x3, B3, A3, rfl, rfl⟩
    rw [intsTo_len] at hi
    refine ⟨_, rfl, ?_⟩
    walk_at "ev"
    refine ev_of (cell_b0 hlt) B3 (by omega) (.inl rfl) ?_ (by simp) (by show 4 < 2 ^ 60; decide) fun w c4 hw B4 => ?_
    · refine blws_all fun d hd => ?_
      simp only [List.mem_cons, List.not_mem_nil, or_false] at hd
      rcases hd with rfl | rfl | rfl | rfl
      · exact (AnyT.tup1 A3).blw
      · exact (AnyT.lst1 A3).blw
      · exact (AnyT.dk1 A3).blw
      · exact (AnyT.tup2 A3 (.int 1 (by decide))).blw
    · rw [List.set_set]
      refine ⟨c4, w, _, B4.mono (by omega), ?_, rfl, rfl⟩
      simp only [List.mem_cons, List.not_mem_nil, or_false] at hw
      rcases hw with rfl | rfl | rfl | rfl
      · exact .tup1 A3
      · exact .lst1 A3
      · exact .dk1 A3
      · exact .tup2 A3 (.int 1 (by decide))
  · rintro env s ⟨c3, v, x3, B3, A3, rfl, rfl⟩
    rw [intsTo_len] at B3 A3
    rw [← hQ]
    walk_at "ev"
    exact fin_set A3.blw B3.blw (k v c3 (A3.mono (by omega)) (B3.mono (by omega)))
end My

namespace My
open PySem PySem.Spec PyProof.Rows L2
/-! ### a statement that is never reached: raise -/
def sStuck : SM := fun _ _ => none
theorem js_stuck {X : Cx} {W : Wd} {a : Stmt} : PS X a (TSt W sStuck) := ⟨fun pins s σ H D I ⟨ι, st, env, o, st', r, n, e, k⟩ => by cases e⟩
theorem ev_stuck {env : Env} {st : Store} {QS : Out → Store → Prop} : EvS sStuck env st QS ↔ False := by
  constructor
  · rintro ⟨o, s, e, _⟩
    cases e
  · intro h
    cases h
/-! ### a slice of a list, as a cell -/
noncomputable def eSlM (mx : EM) (ml mh : OM) : EM := fun env st => match mx env st with
  | some (x, s1) => match ml env s1 with
    | some (lo, s2) => match mh env s2 with
      | some (hi, s3) => match seqL s3 x with
        | some xs => some (.ref s3.length, s3 ++ [.lst (cutD xs lo hi)])
        | none => none
      | none => none
    | none => none
  | none => none
def MSlM (W : Wd) : V → Option Int → Option Int → Hp → VK → Prop := fun x lo hi H Q => ∃ ι st a xs, RelH W ι H st ∧ Rep W ι H a x ∧ seqL st a = some xs ∧ OkE W ι H (.ref st.length) (st ++ [.lst (cutD xs lo hi)]) Q
section
variable {X : Cx} {W : Wd}
theorem j_slM : SlR X (MSlM W) := by
  intro pins s σ H x v vl vu lo hi sl Q I rx hs pl pu ⟨ι, st, a, xs, r, ha, e, k⟩
  obtain ⟨p, us, rfl, h1, h2⟩ := seqL_ok r ha e
  exact sl_list pins s σ H _ v vl vu lo hi sl Q I rx hs pl pu ⟨p, us, rfl, SqL.of h1, fun q hq => k.lstM r (cutD_rep h2 lo hi) hq⟩
theorem j_sliceM {e : Expr} {lo hi : Option Expr} {p2 pos : Pos} {m : EM} {ml mh : OM} (he : PE X e (T W m)) (hl : PO X lo (TOm W ml)) (hh : PO X hi (TOm W mh)) : PE X (.Subscript e (.Slice lo hi none p2) pos) (T W (eSlM m ml mh)) :=
  (pe_slice (j_slM (W := W)) he hl hh).imp fun σ H Q ⟨ι, st, env, d, st', r, n, e, k⟩ => by
    unfold eSlM at e
    split at e
    · rename_i x s1 q1
      split at e
      · rename_i o1 s2 q2
        split at e
        · rename_i o2 s3 q3
          split at e
          · rename_i xs q4
            cases e
            exact T.of r n q1 fun v ι1 H1 g1 r1 p1 => ⟨ι1, s1, env, o1, s2, r1, n.grow g1, q2, fun ι2 H2 g2 r2 => ⟨ι2, s2, env, o2, _, r2, (n.grow g1).grow g2, q3, fun ι3 H3 g3 r3 => ⟨ι3, _, x, xs, r3, Rep.grow g3 _ _ (Rep.grow g2 _ _ p1), q4, k.go ((g1.trans g2).trans g3)⟩⟩⟩
          · cases e
        · cases e
      · cases e
    · cases e
end
section
variable {env : Env} {st : Store} {Q : D → Store → Prop}
theorem ev_slM {mx : EM} {ml mh : OM} : EvE (eSlM mx ml mh) env st Q ↔ EvE mx env st fun x s1 => ∃ lo s2, ml env s1 = some (lo, s2) ∧ ∃ hi s3, mh env s2 = some (hi, s3) ∧ ∃ xs, seqL s3 x = some xs ∧ Q (.ref s3.length) (s3 ++ [.lst (cutD xs lo hi)]) := by
  unfold EvE eSlM
  constructor
  · rintro ⟨d, s, e, q⟩
    split at e
    · rename_i x s1 h1
      split at e
      · rename_i lo s2 h2
        split at e
        · rename_i hi s3 h3
          split at e
          · rename_i xs h4
            cases e
            exact ⟨_, _, h1, _, _, h2, _, _, h3, _, h4, q⟩
          · cases e
        · cases e
      · cases e
    · cases e
  · rintro ⟨x, s1, h1, lo, s2, h2, hi, s3, h3, xs, h4, q⟩
    exact ⟨_, _, by rw [h1]; simp only [h2, h3, h4], q⟩
end
/-! ### comprehensions with two walks -/
/-- where a comprehension stands: its list is hidden -/
structure LcSt (W : Wd) (ι1 : Lay) (H1 : Hp) (L : Addr) (ι2 : Lay) (H : Hp) (s : Store) (acc : List D) (vacc : List V) : Prop where
  g2 : Grow ι1 H1 ι2 H
  gg : Gro ι1 H1 (ι2.hide L) H
  r2 : RelH W (ι2.hide L) H s
  hL : H L = some (.lst vacc)
  ha : Reps W (ι2.hide L) H acc vacc
section
variable {W : Wd} {ι1 ι2 ι4 : Lay} {H1 H H4 : Hp} {L : Addr} {s s4 : Store} {acc : List D} {vacc : List V}
theorem Gro.grow {ι ι' ι'' : Lay} {H H' H'' : Hp} (a : Gro ι H ι' H') (b : Grow ι' H' ι'' H'') : Gro ι H ι'' H'' :=
  ⟨fun i x h => b.pre i x (a.pre i x h), fun x o nn h => b.gro.keep x o (nn.imp (fun nn => a.notin x o nn h) id) (a.keep x o nn h), fun x o nn h => b.gro.notin x o (a.notin x o nn h) (a.keep x o (.inl nn) h)⟩
theorem LcSt.out (h : LcSt W ι1 H1 L ι2 H s acc vacc) : L ∉ (ι2.hide L).c := fun z => h.r2.dis L z List.mem_cons_self
theorem LcSt.move (h : LcSt W ι1 H1 L ι2 H s acc vacc) (hL1 : H1 L = none) (gg : Grow (ι2.hide L) H ι4 H4) (r4 : RelH W ι4 H4 s4) : ∃ ι5, ι4 = Lay.hide ι5 L ∧ LcSt W ι1 H1 L ι5 H4 s4 acc vacc := by
  have hk5 : ι4.k = L :: ι2.k := gg.hid
  have e5 : ι4 = (Lay.hide ⟨ι4.c, ι2.k⟩ L) := by
    cases ι4
    simp only [Lay.hide]
    exact congrArg _ hk5
  have hL5 : H4 L = some (.lst vacc) := gg.keep _ _ (.inl h.out) h.hL
  have hacc5 := Reps.grow gg _ _ h.ha
  have g2 := h.g2
  have gg3 := h.gg.grow gg
  rw [e5] at r4 hacc5 gg gg3
  refine ⟨⟨ι4.c, ι2.k⟩, e5, ⟨⟨fun i a q => gg.pre i a (g2.pre i a q), fun a o nn q => ?_, fun a m => ?_, g2.hid⟩, gg3, r4, hL5, hacc5⟩⟩
  · exact gg.keep a o (nn.imp (fun nn z => by
      rcases g2.new a z with q' | q'
      · exact nn q'
      · rw [q] at q'; cases q') id) (g2.keep a o nn q)
  · rcases gg.new a m with q | q
    · exact g2.new a q
    · by_cases hc : a ∈ ι1.c
      · exact .inl hc
      · refine .inr ?_
        cases e : H1 a with
        | none => rfl
        | some o => rw [g2.keep a o (.inl hc) e] at q; cases q
theorem LcSt.push (h : LcSt W ι1 H1 L ι2 H s acc vacc) (hL1 : H1 L = none) {y : D} {v : V} (p : Rep W (ι2.hide L) H y v) : LcSt W ι1 H1 L ι2 (upd H L (.lst (vacc ++ [v]))) s (acc ++ [y]) (vacc ++ [v]) :=
  ⟨⟨h.g2.pre, fun a o nn q => kp_set (ne_of_none q hL1) (h.g2.keep a o nn q), h.g2.new, h.g2.hid⟩, ⟨h.gg.pre, fun a o nn q => kp_set (ne_of_none q hL1) (h.gg.keep a o nn q), h.gg.notin⟩,
    h.r2.over List.mem_cons_self h.hL trivial, upd_same, Reps.gro (Gro.over List.mem_cons_self h.hL trivial) _ _ (Reps.append h.ha (Reps.cons p Reps.nil))⟩
/-- the other walk's ground stands, too, while the list grows -/
theorem Gro.pushed {ιa : Lay} {Ha : Hp} {va : List V} {o : HO} (h : Gro ιa Ha (ι2.hide L) H) (hk : L ∈ ιa.k) (ha : Ha L = some (.lst va)) : Gro ιa Ha (ι2.hide L) (upd H L o) :=
  ⟨h.pre, fun a u nn q => by
    by_cases z : a = L
    · subst z
      rcases nn with nn | nn
      · exact absurd (.inr hk) nn
      · rw [ha] at q
        cases q
        exact absurd trivial nn
    · rw [upd_ne z]
      exact h.keep a u nn q, h.notin⟩
end
open Classical in
noncomputable def lcGo2 (gd : Store → Prop) (g : GM) (tt : TM) (im1 : IM) (g1 : GM) (tt1 : TM) (el : EM) (vs1 : List Nat) (env : Env) : List D → Store → Option (List D × Store)
  | [], st => if gd st then some ([], st) else none
  | d :: ds, st => if gd st then match g d env with
      | some e2 => match tt e2 st with
        | some (true, s1) => match im1 e2 s1 with
          | some (ds1, gd1, s2) => match lcGo gd1 g1 tt1 el (wipeE e2 vs1) ds1 s2 with
            | some (ys, s3) => match lcGo2 gd g tt im1 g1 tt1 el vs1 env ds s3 with
              | some (zs, s4) => some (ys ++ zs, s4)
              | none => none
            | none => none
          | none => none
        | some (false, s1) => lcGo2 gd g tt im1 g1 tt1 el vs1 env ds s1
        | none => none
      | none => none
    else none
noncomputable def eLc2 (im : IM) (g : GM) (tt : TM) (im1 : IM) (g1 : GM) (tt1 : TM) (el : EM) (vs vs1 : List Nat) : EM := fun env st => match im env st with
  | some (ds, gd, s1) => match lcGo2 gd g tt im1 g1 tt1 el vs1 (wipeE env vs) ds s1 with
    | some (ys, s2) => if ys.length ≤ sizeLine then some (.lst ys, s2) else none
    | none => none
  | none => none
section
variable {W : Wd}
theorem wipe_twice (σ : L2.St) (vs : List Nat) : L2.wipe (L2.wipe σ vs) vs = L2.wipe σ vs := lc_of.wipe_wipe σ vs
theorem lc2_of {im : IM} {g : GM} {tt : TM} {im1 : IM} {g1 : GM} {tt1 : TM} {el : EM} {vs vs1 : List Nat} {σ : L2.St} {H : Hp} {Q : VK} (h : T W (eLc2 im g tt im1 g1 tt1 el vs vs1) σ H Q) :
    tLc2 (TIm W im) (TGm W g vs) (TB W tt) (TIm W im1) (TGm W g1 vs1) (TB W tt1) (T W el) vs vs1 σ H Q := by
  obtain ⟨ι, st, env, d, st', r, n, e, k⟩ := h
  unfold eLc2 at e
  split at e
  · rename_i ds gd s1 e1
    split at e
    · rename_i ys s2 e2
      split at e
      · rename_i hz
        cases e
        refine ⟨ι, st, env, ds, gd, s1, r, n, e1, fun J ι1 H1 g1' r1 ok L hL => ?_⟩
        have n1 := n.grow g1'
        refine ⟨fun i m H => i + m = ds.length ∧ ∃ ι2 s acc rest vacc, LcSt W ι1 H1 L ι2 H s acc vacc ∧ lcGo2 gd g tt im1 g1 tt1 el vs1 (wipeE env vs) (ds.drop i) s = some (rest, st') ∧ ys = acc ++ rest,
          ⟨ds.length, by omega, ι1, s1, [], ys, [], ⟨Grow.laid hL, Gro.hide hL, r1.hide hL, upd_same, Reps.nil⟩, e2, rfl⟩, ?_⟩
        rintro i m H2 ⟨hm, ι2, s, acc, rest, vacc, S2, hgo, hys⟩
        by_cases hi : i < ds.length
        · right
          have hd : ds.drop i = ds[i] :: ds.drop (i + 1) := List.drop_eq_getElem_cons hi
          rw [hd] at hgo
          unfold lcGo2 at hgo
          split at hgo
          · rename_i hgd
            obtain ⟨j1, j2⟩ := ok.go i _ H2 s _ S2.gg S2.r2 hgd (List.getElem?_eq_getElem hi)
            refine ⟨j1, fun H' => ∃ ι2 s acc rest vacc, LcSt W ι1 H1 L ι2 H' s acc vacc ∧ lcGo2 gd g tt im1 g1 tt1 el vs1 (wipeE env vs) (ds.drop (i + 1)) s = some (rest, st') ∧ ys = acc ++ rest, fun H' nx => ⟨m - 1, by omega, by omega, nx⟩, fun x H3 hy => ?_⟩
            obtain ⟨g3, r3, p3⟩ := j2 x H3 hy
            split at hgo
            · rename_i e3 q3
              have n3 : REnv W (ι2.hide L) H3 (wipeE env vs) (L2.wipe σ vs) := ((n1.wipe vs).gro S2.gg).grow g3
              refine ⟨_, s, _, _, e3, r3, n3, p3, q3, fun σ2 n4 w4 => ⟨w4.trans (wipe_twice σ vs), ?_⟩⟩
              split at hgo
              · rename_i s4 q4
                refine TB.of r3 n4 q4 fun ι4 H4 g4 r4 => ?_
                rw [if_pos rfl]
                split at hgo
                · rename_i ds1 gd1 s5 q5
                  split at hgo
                  · rename_i ys1 s6 q6
                    split at hgo
                    · rename_i zs s7 q7
                      cases hgo
                      refine ⟨ι4, s4, e3, ds1, gd1, s5, r4, n4.grow g4, q5, fun J1 ι5 H5 g5 r5 ok1 => ?_⟩
                      obtain ⟨ι5', rfl, S5⟩ := S2.move hL ((g3.trans g4).trans g5) r5
                      have n5 := (n4.grow g4).grow g5
                      have hk5 : L ∈ (ι5'.hide L).k := List.mem_cons_self
                      refine ⟨fun j kk H => j + kk = ds1.length ∧ ∃ ι2 s acc1 rest1 vacc, LcSt W ι1 H1 L ι2 H s (acc ++ acc1) vacc ∧ Gro (ι5'.hide L) H5 (ι2.hide L) H ∧ lcGo gd1 g1 tt1 el (wipeE e3 vs1) (ds1.drop j) s = some (rest1, s6) ∧ ys1 = acc1 ++ rest1,
                        ⟨ds1.length, by omega, ι5', s5, [], ys1, vacc, by rw [List.append_nil]; exact S5, ⟨fun _ _ h => h, fun _ _ _ h => h, fun _ _ h _ => h⟩, q6, rfl⟩, ?_⟩
                      rintro j kk H6 ⟨hm1, ι6, s8, acc1, rest1, vacc1, S6, gr6, hgo1, hys1⟩
                      by_cases hj : j < ds1.length
                      · right
                        have hd1 : ds1.drop j = ds1[j] :: ds1.drop (j + 1) := List.drop_eq_getElem_cons hj
                        rw [hd1] at hgo1
                        unfold lcGo at hgo1
                        split at hgo1
                        · rename_i hgd1
                          obtain ⟨j1', j2'⟩ := ok1.go j _ H6 s8 _ gr6 S6.r2 hgd1 (List.getElem?_eq_getElem hj)
                          refine ⟨j1', fun H' => ∃ ι2 s acc1 rest1 vacc, LcSt W ι1 H1 L ι2 H' s (acc ++ acc1) vacc ∧ Gro (ι5'.hide L) H5 (ι2.hide L) H' ∧ lcGo gd1 g1 tt1 el (wipeE e3 vs1) (ds1.drop (j + 1)) s = some (rest1, s6) ∧ ys1 = acc1 ++ rest1, fun H' nx => ⟨kk - 1, by omega, by omega, nx⟩, fun x1 H7 hy1 => ?_⟩
                          obtain ⟨g7, r7, p7⟩ := j2' x1 H7 hy1
                          split at hgo1
                          · rename_i e7 q8
                            have n7 : REnv W (ι6.hide L) H7 (wipeE e3 vs1) (L2.wipe σ2 vs1) := ((n5.wipe vs1).gro gr6).grow g7
                            refine ⟨_, s8, _, _, e7, r7, n7, p7, q8, fun σ3 n8 w8 => ⟨w8.trans (wipe_twice σ2 vs1), ?_⟩⟩
                            split at hgo1
                            · rename_i s9 q9
                              refine TB.of r7 n8 q9 fun ι9 H9 g9 r9 => ?_
                              rw [if_pos rfl]
                              split at hgo1
                              · rename_i y s10 q10
                                split at hgo1
                                · rename_i ys' s11 q11
                                  cases hgo1
                                  refine T.of r9 (n8.grow g9) q10 fun v ι10 H10 g10 r10 p10 => ?_
                                  have gall := (g7.trans g9).trans g10
                                  have gr10 := gr6.grow gall
                                  obtain ⟨ι11, rfl, S10⟩ := S6.move hL gall r10
                                  have lz : (acc ++ acc1).length + 1 ≤ ys.length := by rw [hys, hys1]; simp; omega
                                  refine ⟨vacc1, S10.hL, by rw [← S10.ha.length]; omega, ι11, s10, acc1 ++ [y], ys', vacc1 ++ [v], ?_, gr10.pushed hk5 S5.hL, q11, by rw [hys1]; simp⟩
                                  rw [← List.append_assoc]
                                  exact S10.push hL p10
                                · cases hgo1
                              · cases hgo1
                            · rename_i s9 q9
                              refine TB.of r7 n8 q9 fun ι9 H9 g9 r9 => ?_
                              rw [if_neg Bool.false_ne_true]
                              have gall := g7.trans g9
                              have gr9 := gr6.grow gall
                              obtain ⟨ι10, rfl, S9⟩ := S6.move hL gall r9
                              exact ⟨ι10, s9, acc1, rest1, vacc1, S9, gr9, hgo1, hys1⟩
                            · cases hgo1
                          · cases hgo1
                        · cases hgo1
                      · left
                        have hje : j = ds1.length := by omega
                        subst hje
                        rw [List.drop_length] at hgo1
                        unfold lcGo at hgo1
                        split at hgo1
                        · rename_i hgd1
                          cases hgo1
                          refine ⟨ok1.stop _ H6 _ gr6 S6.r2 hgd1, ι6, s6, acc ++ acc1, zs, vacc1, S6, q7, ?_⟩
                          rw [List.append_nil] at hys1
                          rw [hys, hys1, List.append_assoc]
                        · cases hgo1
                    · cases hgo
                  · cases hgo
                · cases hgo
              · rename_i s4 q4
                refine TB.of r3 n4 q4 fun ι4 H4 g4 r4 => ?_
                rw [if_neg Bool.false_ne_true]
                obtain ⟨ι5, rfl, S4⟩ := S2.move hL (g3.trans g4) r4
                exact ⟨ι5, s4, acc, rest, vacc, S4, hgo, hys⟩
              · cases hgo
            · cases hgo
          · cases hgo
        · left
          have hie : i = ds.length := by omega
          subst hie
          rw [List.drop_length] at hgo
          unfold lcGo2 at hgo
          split at hgo
          · rename_i hgd
            cases hgo
            refine ⟨ok.stop _ H2 _ S2.gg S2.r2 hgd, ?_⟩
            rw [List.append_nil] at hys
            subst hys
            refine k _ ι2 H2 (g1'.trans S2.g2) S2.r2.show ?_
            simp only [Rep]
            refine ⟨L, rfl, fun z => ?_, vacc, S2.hL, Reps.gro Gro.show _ _ S2.ha⟩
            rcases z with z | z
            · exact S2.r2.dis L z List.mem_cons_self
            · rw [S2.g2.hid] at z
              exact r1.free hL (.inr z)
          · cases hgo
      · cases e
    · cases e
  · cases e
end
end My

namespace My
open PySem PySem.Spec PyProof.Rows L2
/-! ### f(k = v, ..): all by name -/
section
variable {X : Cx} {CX : CXT} {k n : Nat} {f : Addr} {fd : FuncData} {ps ks : List Str} {sp : Sp} {E : XK} {x : Str} {p pos : Pos} {kws : List Keyword} {tk : TA} {g : List Value → List Value → List Value} {gV : List V → List V → List V}
theorem pe_callN0 (F : FnOk X.prog X.w X.K X.mg X.base CX k f fd ps sp) (hr : Room k X.A) (hg : Gl X x) (hm : X.mg x = some (.ref f)) (hk : PySem.W.keepIn X.K (.ref f) = true) (hb : KBn X.K fd ps 0 ks g gV) (hx : Passes CX X E)
    (hkw : PK X kws tk) (hall : (backToKw pos (keywordEach kws X.env)).all (·.1.isSome) = true := by rfl) (hks : (backToKw pos (keywordEach kws X.env)).filterMap (·.1) = ks := by rfl)
    (hdb : (x == ("__debug__" : Str)) = false := by decide)
    (hpl : ((backTo pos (starEach [] X.env)).any (·.1) || (backToKw pos (keywordEach kws X.env)).any (·.1.isNone)) = false := by rfl) :
    PE X (.Call (.Name x p) [] kws pos) (tCallN 0 ks.length sp gV E tNil tk) := by
  refine ⟨fun pins s σ H Q I h => ?_⟩
  refine wpAny_Call_Name_kw (ld_glob I hg hm ?_ hdb)
  refine PySem.W.callWith_KW0 (h₀ := X.base) I.ok.mod.kin hk hall ?_ hpl
  refine thn (hkw.run pos pins s σ H _ I h) fun ws s2 ⟨zs, H2, I2, rz, l1, l2, q2⟩ => ⟨I2.kIn, ?_⟩
  rw [hks]
  exact run_fnN (us := []) (vs := []) F hr hb hx I2 .nil rz rfl l2 q2
end
section
variable {X : Cx} {W : Wd} {k n : Nat} {f : Addr} {fd : FuncData} {ps ks : List Str} {F : FM} {E : XK} {x : Str} {p pos : Pos}
theorem j_callN0 {kws : List Keyword} {km : AM} {g : List Value → List Value → List Value} {gV : List V → List V → List V} {gD : List D → List D → List D} {m : Nat} (F0 : FnOk X.prog X.w X.K X.mg X.base CX0 k f fd ps (spM W n F)) (hr : Room k X.A) (hg : Gl X x) (hm : X.mg x = some (.ref f)) (hk : PySem.W.keepIn X.K (.ref f) = true) (hb : KBn X.K fd ps 0 ks g gV)
    (hgD : ∀ ι H (xs zs : List D) (vs us : List V), Reps W ι H xs vs → Reps W ι H zs us → Reps W ι H (gD xs zs) (gV vs us)) (hx : Passes CX0 X E)
    (hkw : PK X kws (TAs W km)) (hall : (backToKw pos (keywordEach kws X.env)).all (·.1.isSome) = true := by rfl) (hks : (backToKw pos (keywordEach kws X.env)).filterMap (·.1) = ks := by rfl)
    (hdb : (x == ("__debug__" : Str)) = false := by decide)
    (hpl : ((backTo pos (starEach [] X.env)).any (·.1) || (backToKw pos (keywordEach kws X.env)).any (·.1.isNone)) = false := by rfl) (hmk : ks.length = m := by rfl) :
    PE X (.Call (.Name x p) [] kws pos) (T W (eCallN n 0 m F gD aNil km)) := hmk ▸ (pe_callN0 F0 hr hg hm hk hb hx hkw hall hks hdb hpl).imp fun σ H Q ⟨ι, st, env, d, st', r, q, e, k⟩ => by
  unfold eCallN aNil at e
  dsimp only at e
  split at e
  · rename_i zs s2 e2
    split at e
    · rename_i hl
      exact TA.of r q e2 fun us ι2 H2 g2 r2 p2 => ⟨rfl, by rw [← p2.length]; exact hl.2.1, ι2, s2, gD [] zs, d, st', r2, hgD _ _ _ _ _ _ Reps.nil p2, hl.2.2, e, k.go g2⟩
    · cases e
  · cases e
end
end My

namespace My
open PySem PySem.Spec PyProof.Rows L2
/-! ### comprehensions with two walks: the rules -/
section
variable {X : Cx} {W : Wd}
theorem j_lc2 {elt tg iter tg1 iter1 : Expr} {ifs ifs1 : List Expr} {scope : Scope} {own : List (Str × Nat)} {vs1 : List Nat} {im im1 : IM} {g g1 : GM} {tt tt1 : TM} {el : EM} {pos : Pos} (hc : X.calm = true) (hN : X.N.Nodup) (hi : PI X tg iter (TIm W im)) (ok : BlkOk X.N X.env.scope scope own) (hv : ∀ i ∈ vs1, i ∈ own.map (·.2))
    (hg : ∀ (s : Shared) (H : Hp) (C : Addr) (cl : List (Str × Addr)) (fp : List Addr), PG (X.blk s H scope (compEnvC scope cl C X.env) fp) tg (TGm W g (own.map (·.2)))) (ht : ∀ (s : Shared) (H : Hp) (C : Addr) (cl : List (Str × Addr)) (fp : List Addr), PTs (X.blk s H scope (compEnvC scope cl C X.env) fp) ifs (TB W tt))
    (hi1 : ∀ (s : Shared) (H : Hp) (C : Addr) (cl : List (Str × Addr)) (fp : List Addr), PI (X.blk s H scope (compEnvC scope cl C X.env) fp) tg1 iter1 (TIm W im1))
    (hg1 : ∀ (s : Shared) (H : Hp) (C : Addr) (cl : List (Str × Addr)) (fp : List Addr), PG (X.blk s H scope (compEnvC scope cl C X.env) fp) tg1 (TGm W g1 vs1)) (ht1 : ∀ (s : Shared) (H : Hp) (C : Addr) (cl : List (Str × Addr)) (fp : List Addr), PTs (X.blk s H scope (compEnvC scope cl C X.env) fp) ifs1 (TB W tt1))
    (he : ∀ (s : Shared) (H : Hp) (C : Addr) (cl : List (Str × Addr)) (fp : List Addr), PE (X.blk s H scope (compEnvC scope cl C X.env) fp) elt (T W el)) (hs : ∀ x, foldedSetIterable iter X.env x = pure x := by intro _; rfl) (hs1 : ∀ env x, foldedSetIterable iter1 env x = pure x := by intro _ _; rfl) :
    PE X (.ListComp elt [⟨tg, iter, ifs, 0⟩, ⟨tg1, iter1, ifs1, 0⟩] scope pos) (T W (eLc2 im g tt im1 g1 tt1 el (own.map (·.2)) vs1)) := (pe_lc2 hc hN hi ok hv hg ht hi1 hg1 ht1 he hs hs1).imp fun _ _ _ => lc2_of
theorem js_setLc2 {i : Nat} {y : Str} {py : Pos} {elt tg iter tg1 iter1 : Expr} {ifs ifs1 : List Expr} {scope : Scope} {own : List (Str × Nat)} {vs1 : List Nat} {im im1 : IM} {g g1 : GM} {tt tt1 : TM} {el : EM} {pos spos : Pos} (hc : X.calm = true) (hN : X.N.Nodup) (hy : X.N[i]? = some y) (hyl : X.env.scope.names.lookup y = some .local)
    (hsw : swapsWith (.ListComp elt [⟨tg, iter, ifs, 0⟩, ⟨tg1, iter1, ifs1, 0⟩] scope pos) (some (.Name y py)) spos.line X.env = pure true) (hi : PI X tg iter (TIm W im)) (ok : BlkOk X.N X.env.scope scope own) (hv : ∀ i ∈ vs1, i ∈ own.map (·.2))
    (hg : ∀ (s : Shared) (H : Hp) (C : Addr) (cl : List (Str × Addr)) (fp : List Addr), PG (X.blk s H scope (compEnvC scope cl C X.env) fp) tg (TGm W g (own.map (·.2)))) (ht : ∀ (s : Shared) (H : Hp) (C : Addr) (cl : List (Str × Addr)) (fp : List Addr), PTs (X.blk s H scope (compEnvC scope cl C X.env) fp) ifs (TB W tt))
    (hi1 : ∀ (s : Shared) (H : Hp) (C : Addr) (cl : List (Str × Addr)) (fp : List Addr), PI (X.blk s H scope (compEnvC scope cl C X.env) fp) tg1 iter1 (TIm W im1))
    (hg1 : ∀ (s : Shared) (H : Hp) (C : Addr) (cl : List (Str × Addr)) (fp : List Addr), PG (X.blk s H scope (compEnvC scope cl C X.env) fp) tg1 (TGm W g1 vs1)) (ht1 : ∀ (s : Shared) (H : Hp) (C : Addr) (cl : List (Str × Addr)) (fp : List Addr), PTs (X.blk s H scope (compEnvC scope cl C X.env) fp) ifs1 (TB W tt1))
    (he : ∀ (s : Shared) (H : Hp) (C : Addr) (cl : List (Str × Addr)) (fp : List Addr), PE (X.blk s H scope (compEnvC scope cl C X.env) fp) elt (T W el)) (hs : ∀ x, foldedSetIterable iter X.env x = pure x := by intro _; rfl) (hs1 : ∀ env x, foldedSetIterable iter1 env x = pure x := by intro _ _; rfl) :
    PS X (.Assign [.Name y py] (.ListComp elt [⟨tg, iter, ifs, 0⟩, ⟨tg1, iter1, ifs1, 0⟩] scope pos) spos) (TSt W (sSet i (eLc2 im g tt im1 g1 tt1 el (own.map (·.2)) vs1))) := (ps_setLc2 hc hN hy hyl hsw hi ok hv hg ht hi1 hg1 ht1 he hs hs1).imp fun D σ H h => by
  have h2 : T W (eLc2 im g tt im1 g1 tt1 el (own.map (·.2)) vs1) σ H fun x H1 => gName i x σ H1 D.nx := set_of h
  exact lc2_of h2
end
/-! ### an instance called with no argument -/
section
variable {X : Cx} {CX : CXT} {W : Wd} {k ar n j : Nat} {C f g : Addr} {fd : FuncData} {ps ks : List Str} {m : Str} {sp : Sp} {F : FM} {E : XK} {tf ta : TE} {t tk : TA} {o e fe : Expr} {es : List Expr} {pos apos : Pos} {mo : EM} {am km : AM} {kws : List Keyword} {gg : List Value → List Value → List Value} {gV : List V → List V → List V}
theorem pe_callO0 {g : Addr} (hf : PE X fe tf) (c : StX.CallO X.K C g) (F : FnR X.prog X.w X.K X.mg X.base CX k g sp) (hr : Room k X.A) (hx : Passes CX X E)
    (ht : eval (.Call fe [] [] pos) X.env = (do callWith pos (← eval fe X.env) [] (backTo pos (starEach [] X.env)) (backToKw pos (keywordEach [] X.env))) := by rfl) : PE X (.Call fe [] [] pos) (StX.tCallO X C sp E tf tNil) := by
  refine ⟨fun pins s σ H Q I h => ?_⟩
  refine Call_ (thn (hf.run pins s σ H _ I h) fun u s1 ⟨y, H1, I1, ry, a, ey, q⟩ => ?_) ht
  subst ey
  obtain rfl : u = Value.ref a := ry
  obtain ⟨hi, q2⟩ := q
  obtain ⟨ox, od, J, hd⟩ := StX.insC_at I1 hi
  exact StX.callO_of rfl (evalArgs_nil3 ⟨⟨C, ox, od, J, hd⟩, StX.run_callO c F hr hx I1 hi .nil q2⟩)
theorem j_callO0 {n : Str} (cO : StX.CallO X.K (W.cl n) g) (F0 : FnOk X.prog X.w X.K X.mg X.base CX0 k g fd ps (spM W ar F)) (hr : Room k X.A) (hb : Binds X.K fd ps []) (hx : Passes CX0 X E) (ho : PE X fe (T W mo))
    (ht : eval (.Call fe [] [] pos) X.env = (do callWith pos (← eval fe X.env) [] (backTo pos (starEach [] X.env)) (backToKw pos (keywordEach [] X.env))) := by rfl) : PE X (.Call fe [] [] pos) (T W (eCallO n ar F mo aNil)) :=
  (pe_callO0 (pos := pos) ho cO (F0.raw hb .nil) hr hx ht).imp fun σ H Q ⟨ι, st, env, d, st', r, q, e, kk⟩ => by
    unfold eCallO aNil at e
    split at e
    · rename_i y s1 e1
      dsimp only at e
      split at e
      · rename_i n' fs vs e3
        split at e
        · rename_i hc
          obtain ⟨rfl, hl⟩ := hc
          refine T.of r q e1 fun v ι1 H1 g1 r1 p1 => ?_
          obtain ⟨a, rfl⟩ : ∃ a, v = .ref a := by
            cases y with
            | ins m fs ds => simp only [Rep] at p1; obtain ⟨a, h, _⟩ := p1; exact ⟨a, h⟩
            | ref i => simp only [Rep] at p1; obtain ⟨a, h, _⟩ := p1; exact ⟨a, h⟩
            | _ => cases e3
          refine ⟨a, rfl, ?_⟩
          obtain ⟨a', dx, us, ea, h1, h2, h3⟩ := insA_ok r1 p1 e3
          cases ea
          refine ⟨.inr ⟨dx, _, h1⟩, ι1, s1, [y], d, st', r1, ?_, by simpa using hl, e, kk.go g1⟩
          exact Reps.cons p1 Reps.nil
        · cases e
      · cases e
    · cases e
/-! ### o.m(.., k = v): methods with keywords -/
def tMethN (C : Addr) (m : Str) (n j : Nat) (sp : Sp) (gV : List V → List V → List V) (E : XK) (ta : TE) (t tk : TA) : TE := fun σ H Q => ta σ H fun x H1 => ∃ a dx fs, x = .ref a ∧ H1 a = some (.ins C dx fs) ∧ fs.lookup m = none ∧
  t σ H1 fun vs H2 => tk σ H2 fun zs H3 => vs.length = n ∧ zs.length = j ∧ sp (gV (x :: vs) zs) H3 Q E
theorem pe_methN0 {pl : Sem Bool} (he : PE X o ta) (c : Cls X.K C) (hm : Meth X.K C m f) (F : FnOk X.prog X.w X.K X.mg X.base CX k f fd ps sp) (hr : Room k X.A) (hb : KBn X.K fd ps 1 ks gg gV) (hx : Passes CX X E) (hkw : PK X kws tk)
    (hall : (backToKw pos (keywordEach kws X.env)).all (·.1.isSome) = true := by rfl) (hks : (backToKw pos (keywordEach kws X.env)).filterMap (·.1) = ks := by rfl)
    (hpl : ((backTo pos (starEach [] X.env)).any (·.1) || (backToKw pos (keywordEach kws X.env)).any (·.1.isNone)) = false := by rfl)
    (ht : eval (.Call (.Attribute o m apos) [] kws pos) X.env = (do
      let ov ← eval o X.env
      standAt apos.atName
      let (f, first) ← holding [ov] (getMethod ov m pl)
      callWith pos f first (backTo pos (starEach [] X.env)) (backToKw pos (keywordEach kws X.env))) := by rfl) :
    PE X (.Call (.Attribute o m apos) [] kws pos) (tMethN C m 0 ks.length sp gV E ta tNil tk) := by
  refine ⟨fun pins s σ H Q I h => ?_⟩
  refine PySem.W.methodCall_KW (pl := pl) (thn (he.run pins s σ H _ I h) fun u s1 ⟨x, H1, I1, rx, a, dx, fs, ex, ea, l, q⟩ => ?_) ht
  subst ex
  obtain rfl : u = Value.ref a := rx
  refine getmeth_ok I1 ea c hm l ?_
  refine PySem.W.callWith_KW0 (first := [.ref a]) (h₀ := X.base) I.ok.mod.kin hm.kp hall (thn (hkw.run pos pins s1 σ H1 _ I1 q) fun ws s2 ⟨zs, H2, I2, rz, l1, l2, q2⟩ => ⟨I2.kIn, ?_⟩) hpl
  rw [hks]
  exact run_fnN (us := [.ref a]) (vs := [.ref a]) F hr hb hx I2 (.cons rfl .nil) rz rfl l2 q2
theorem pe_methN {pl : Sem Bool} (he : PE X o ta) (c : Cls X.K C) (hm : Meth X.K C m f) (F : FnOk X.prog X.w X.K X.mg X.base CX k f fd ps sp) (hr : Room k X.A) (hb : KBn X.K fd ps (n + 1) ks gg gV) (hx : Passes CX X E) (ha : PA X (e :: es) t) (hkw : PK X kws tk)
    (hall : (backToKw pos (keywordEach kws X.env)).all (·.1.isSome) = true := by rfl) (hks : (backToKw pos (keywordEach kws X.env)).filterMap (·.1) = ks := by rfl)
    (hs : starEach (e :: es) X.env = (false, eval e X.env) :: starEach es X.env := by rfl)
    (hpl : ((backTo pos (starEach (e :: es) X.env)).any (·.1) || (backToKw pos (keywordEach kws X.env)).any (·.1.isNone)) = false := by rfl)
    (ht : eval (.Call (.Attribute o m apos) (e :: es) kws pos) X.env = (do
      let ov ← eval o X.env
      standAt apos.atName
      let (f, first) ← holding [ov] (getMethod ov m pl)
      callWith pos f first (backTo pos (starEach (e :: es) X.env)) (backToKw pos (keywordEach kws X.env))) := by rfl) :
    PE X (.Call (.Attribute o m apos) (e :: es) kws pos) (tMethN C m n ks.length sp gV E ta t tk) := by
  refine ⟨fun pins s σ H Q I h => ?_⟩
  refine PySem.W.methodCall_KW (pl := pl) (thn (he.run pins s σ H _ I h) fun u s1 ⟨x, H1, I1, rx, a, dx, fs, ex, ea, l, q⟩ => ?_) ht
  subst ex
  obtain rfl : u = Value.ref a := rx
  refine getmeth_ok I1 ea c hm l ?_
  refine PySem.W.callWith_KW (first := [.ref a]) (h₀ := X.base) I.ok.mod.kin hm.kp hall (thn (ha.run pos pins s1 σ H1 _ I1 q) fun us s2 ⟨vs, H2, I2, r, q2⟩ => thn (hkw.run pos pins s2 σ H2 _ I2 q2) fun ws s3 ⟨zs, H3, I3, rz, l1, l2, q3⟩ => ⟨I3.kIn, ?_⟩) hpl hs
  rw [hks]
  exact run_fnN (us := .ref a :: us) (vs := .ref a :: vs) F hr hb hx I3 (.cons rfl r) rz (by simp [l1]) l2 q3
open Classical in
noncomputable def eMethN (cn m : Str) (ar n j : Nat) (F : FM) (g : List D → List D → List D) (mo : EM) (am km : AM) : EM := fun env st => match mo env st with
  | some (o, s1) => match insA s1 o with
    | some (n', fs, _) => if n' = cn ∧ m ∉ fs then match am env s1 with
      | some (xs, s2) => match km env s2 with
        | some (zs, s3) => if xs.length = n ∧ zs.length = j ∧ (g (o :: xs) zs).length = ar then F (g (o :: xs) zs) s3 else none
        | none => none
      | none => none
      else none
    | none => none
  | none => none
theorem tMethN_of {cn : Str} {gD : List D → List D → List D} {σ : L2.St} {H : Hp} {Q : VK} (hgD : ∀ ι H (xs zs : List D) (vs us : List V), Reps W ι H xs vs → Reps W ι H zs us → Reps W ι H (gD xs zs) (gV vs us)) (h : T W (eMethN cn m ar n j F gD mo am km) σ H Q) :
    tMethN (W.cl cn) m n j (spM W ar F) gV E (T W mo) (TAs W am) (TAs W km) σ H Q := by
  obtain ⟨ι, st, env, d, st', r, q, e, kk⟩ := h
  unfold eMethN at e
  split at e
  · rename_i y s1 e1
    split at e
    · rename_i n' fs vs e3
      split at e
      · rename_i hc
        obtain ⟨rfl, hl⟩ := hc
        split at e
        · rename_i xs s2 e2
          split at e
          · rename_i zs s3 e4
            split at e
            · rename_i hz
              refine T.of r q e1 fun v ι1 H1 g1 r1 p1 => ?_
              obtain ⟨a, dx, us, ea, h1, h2, h3⟩ := insA_ok r1 p1 e3
              subst ea
              refine ⟨a, dx, _, rfl, h1, lookup_none hl, TA.of r1 (q.grow g1) e2 fun ws ι2 H2 g2 r2 p2 => TA.of r2 ((q.grow g1).grow g2) e4 fun us3 ι3 H3 g3 r3 p3 => ?_⟩
              refine ⟨by rw [← p2.length]; exact hz.1, by rw [← p3.length]; exact hz.2.1, ι3, s3, gD (y :: xs) zs, d, st', r3, ?_, hz.2.2, e, kk.go ((g1.trans g2).trans g3)⟩
              exact hgD _ _ _ _ _ _ (Reps.cons (Rep.grow g3 _ _ (Rep.grow g2 _ _ p1)) (Reps.grow g3 _ _ p2)) p3
            · cases e
          · cases e
        · cases e
      · cases e
    · cases e
  · cases e
theorem j_methN0 {cn : Str} {gD : List D → List D → List D} {pl : Sem Bool} (c : Cls X.K (W.cl cn)) (hm : Meth X.K (W.cl cn) m f) (F0 : FnOk X.prog X.w X.K X.mg X.base CX0 k f fd ps (spM W ar F)) (hr : Room k X.A) (hb : KBn X.K fd ps 1 ks gg gV)
    (hgD : ∀ ι H (xs zs : List D) (vs us : List V), Reps W ι H xs vs → Reps W ι H zs us → Reps W ι H (gD xs zs) (gV vs us)) (hx : Passes CX0 X E) (he : PE X o (T W mo)) (hkw : PK X kws (TAs W km))
    (hall : (backToKw pos (keywordEach kws X.env)).all (·.1.isSome) = true := by rfl) (hks : (backToKw pos (keywordEach kws X.env)).filterMap (·.1) = ks := by rfl)
    (hpl : ((backTo pos (starEach [] X.env)).any (·.1) || (backToKw pos (keywordEach kws X.env)).any (·.1.isNone)) = false := by rfl)
    (ht : eval (.Call (.Attribute o m apos) [] kws pos) X.env = (do
      let ov ← eval o X.env
      standAt apos.atName
      let (f, first) ← holding [ov] (getMethod ov m pl)
      callWith pos f first (backTo pos (starEach [] X.env)) (backToKw pos (keywordEach kws X.env))) := by rfl) (hmk : ks.length = j := by rfl) :
    PE X (.Call (.Attribute o m apos) [] kws pos) (T W (eMethN cn m ar 0 j F gD mo aNil km)) := hmk ▸ (pe_methN0 (pl := pl) he c hm F0 hr hb hx hkw hall hks hpl ht).imp fun σ H Q h => by
  obtain ⟨ι, st, env, d, st', r, q, e, kk⟩ := tMethN_of (E := E) hgD h
  refine ⟨ι, st, env, d, st', r, q, e, fun v ι' H' g' r' p' => ?_⟩
  obtain ⟨a, dx, fs, h1, h2, h3, h4⟩ := kk v ι' H' g' r' p'
  refine ⟨a, dx, fs, h1, h2, h3, ?_⟩
  obtain ⟨ι2, st2, env2, d2, st2', r2, q2, e2, k2⟩ := h4
  cases e2
  exact k2 [] _ _ Grow.refl r2 Reps.nil
theorem j_methN {cn : Str} {gD : List D → List D → List D} {pl : Sem Bool} (c : Cls X.K (W.cl cn)) (hm : Meth X.K (W.cl cn) m f) (F0 : FnOk X.prog X.w X.K X.mg X.base CX0 k f fd ps (spM W ar F)) (hr : Room k X.A) (hb : KBn X.K fd ps (n + 1) ks gg gV)
    (hgD : ∀ ι H (xs zs : List D) (vs us : List V), Reps W ι H xs vs → Reps W ι H zs us → Reps W ι H (gD xs zs) (gV vs us)) (hx : Passes CX0 X E) (he : PE X o (T W mo)) (ha : PA X (e :: es) (TAs W am)) (hkw : PK X kws (TAs W km))
    (hall : (backToKw pos (keywordEach kws X.env)).all (·.1.isSome) = true := by rfl) (hks : (backToKw pos (keywordEach kws X.env)).filterMap (·.1) = ks := by rfl)
    (hs : starEach (e :: es) X.env = (false, eval e X.env) :: starEach es X.env := by rfl)
    (hpl : ((backTo pos (starEach (e :: es) X.env)).any (·.1) || (backToKw pos (keywordEach kws X.env)).any (·.1.isNone)) = false := by rfl)
    (ht : eval (.Call (.Attribute o m apos) (e :: es) kws pos) X.env = (do
      let ov ← eval o X.env
      standAt apos.atName
      let (f, first) ← holding [ov] (getMethod ov m pl)
      callWith pos f first (backTo pos (starEach (e :: es) X.env)) (backToKw pos (keywordEach kws X.env))) := by rfl) (hmk : ks.length = j := by rfl) :
    PE X (.Call (.Attribute o m apos) (e :: es) kws pos) (T W (eMethN cn m ar n j F gD mo am km)) := hmk ▸ (pe_methN (pl := pl) he c hm F0 hr hb hx ha hkw hall hks hs hpl ht).imp fun σ H Q h => tMethN_of hgD h
end
section
variable {env : Env} {st : Store} {Q : D → Store → Prop}
theorem ev_methN {cn m : Str} {ar n j : Nat} {F : FM} {g : List D → List D → List D} {mo : EM} {am km : AM} : EvE (eMethN cn m ar n j F g mo am km) env st Q ↔ EvE mo env st fun x s1 => ∃ fs vs, insA s1 x = some (cn, fs, vs) ∧ m ∉ fs ∧ EvA am env s1 fun xs s2 => EvA km env s2 fun zs s3 => (xs.length = n ∧ zs.length = j ∧ (g (x :: xs) zs).length = ar) ∧ EvF F (g (x :: xs) zs) s3 Q := by
  unfold EvE EvA EvF eMethN
  constructor
  · rintro ⟨d, s, e, q⟩
    split at e
    · rename_i x s1 h
      split at e
      · rename_i n' fs vs h3
        split at e
        · rename_i hc
          obtain ⟨rfl, hl⟩ := hc
          split at e
          · rename_i xs s2 h2
            split at e
            · rename_i zs s3 h4
              split at e
              · rename_i hz
                exact ⟨_, _, h, fs, vs, h3, hl, _, _, h2, _, _, h4, hz, _, _, e, q⟩
              · cases e
            · cases e
          · cases e
        · cases e
      · cases e
    · cases e
  · rintro ⟨x, s1, h, fs, vs, h3, hl, xs, s2, h2, zs, s3, h4, hz, d, s, e, q⟩
    exact ⟨d, s, by rw [h]; simp only [h3]; rw [if_pos ⟨trivial, hl⟩]; simp only [h2, h4]; rw [if_pos hz]; exact e, q⟩
theorem ev_lc2 {im im1 : IM} {g g1 : GM} {tt tt1 : TM} {el : EM} {vs vs1 : List Nat} : EvE (eLc2 im g tt im1 g1 tt1 el vs vs1) env st Q ↔ ∃ ds gd s1, im env st = some (ds, gd, s1) ∧ ∃ ys s2, lcGo2 gd g tt im1 g1 tt1 el vs1 (wipeE env vs) ds s1 = some (ys, s2) ∧ ys.length ≤ sizeLine ∧ Q (.lst ys) s2 := by
  unfold EvE eLc2
  constructor
  · rintro ⟨d, s, e, q⟩
    split at e
    · rename_i ds gd s1 h
      split at e
      · rename_i ys s2 h2
        split at e
        · rename_i hz
          cases e
          exact ⟨_, _, _, h, _, _, h2, hz, q⟩
        · cases e
      · cases e
    · cases e
  · rintro ⟨ds, gd, s1, h, ys, s2, h2, hz, q⟩
    exact ⟨_, _, by rw [h]; simp only [h2]; rw [if_pos hz], q⟩
end
/-! ### text * int -/
def strRep (x : Str) (k : Int) : Str := ⟨(List.replicate k.toNat x.cps).foldl (· ++ ·) #[]⟩
theorem strRep_list (x : Str) (k : Int) : (strRep x k).cps.toList = (List.replicate k.toNat x.cps.toList).flatten := by
  have : ∀ (n : Nat) (a : Array Nat), ((List.replicate n x.cps).foldl (· ++ ·) a).toList = a.toList ++ (List.replicate n x.cps.toList).flatten := by
    intro n
    induction n with
    | zero => intro a; simp
    | succ n ih =>
      intro a
      rw [List.replicate_succ, List.foldl_cons, ih, List.replicate_succ, List.flatten_cons, Array.toList_append, List.append_assoc]
  have h := this k.toNat #[]
  show (List.foldl (fun x1 x2 => x1 ++ x2) #[] (List.replicate k.toNat x.cps)).toList = _
  simpa using h
theorem strRep_len (x : Str) (k : Int) : (strRep x k).length = k.toNat * x.length := by
  show (strRep x k).cps.size = k.toNat * x.cps.size
  rw [← Array.length_toList, strRep_list, PyProof.Rows.lm_len_rep_flat, Array.length_toList]
open Classical in
noncomputable def dMulS (a b : D) (_ : Store) : Option D := match a, b with
  | .str x, .int k => if -(2 ^ 63) ≤ k ∧ k ≤ 1000000 ∧ x.length ≤ 10 then some (.str (strRep x k)) else none
  | _, _ => none
section
variable {X : Cx} {W : Wd}
theorem jo_mulS : OpR X (binaryOp .Mult) (M2 W dMulS) := by
  intro pins s σ H x y v u Q I rx ry ⟨ι, st, a, b, d, r, ha, hb, e, k⟩
  unfold dMulS at e
  split at e
  · rename_i z n
    split at e
    · rename_i h
      cases e
      cases rep_int hb
      simp only [Rep] at ha
      subst ha
      obtain ⟨t, rfl⟩ := rx
      obtain ⟨t', rfl⟩ := ry
      obtain ⟨h1, h2, h3⟩ := h
      have fin : ∀ (t2 : Tok) (tk : Tok), EP X pins σ Q (.str (strRep z n) t2) { s with toks := tk } := fun t2 tk => ⟨.str (strRep z n), H, I.tok _, ⟨_, rfl⟩, k _ _ _ Grow.refl r (by simp only [Rep])⟩
      have hlen := strRep_len z n
      have hb2 : ¬ n < 1 → (n == 1 || z.length == 0) = false → ¬ ((z.length : Int) > (2 ^ 63 - 1) / n) := by
        intro n1 _ hgt
        have : (10 : Int) ≤ (2 ^ 63 - 1) / n := (Int.le_ediv_iff_mul_le (by omega)).mpr (by omega)
        omega
      have hm : z.length * n.toNat ≤ 10 * 1000000 := Nat.mul_le_mul h3 (by omega)
      refine PySem.P.mul_str (by rw [decide_eq_false (by omega), decide_eq_false (by omega)]; rfl) hb2 (fun _ _ => ?_) ?_
      · unfold Builtin.Str.tooLong
        rw [sizeLine_eq]
        simp
        omega
      · by_cases c1 : n < 1
        · rw [if_pos c1]
          have e0 : strRep z n = Str.empty := by
            unfold strRep
            rw [show n.toNat = 0 by omega]
            rfl
          rw [e0] at fin
          exact ⟨by decide, fin _ _⟩
        · rw [if_neg c1]
          by_cases c2 : (n == 1 || z.length == 0) = true
          · rw [if_pos c2]
            have e0 : strRep z n = z := by
              have hl := strRep_list z n
              rw [Bool.or_eq_true, beq_iff_eq, beq_iff_eq] at c2
              have : (strRep z n).cps = z.cps := by
                apply Array.toList_inj.mp
                rw [hl]
                rcases c2 with c2 | c2
                · subst c2
                  simp
                · have : z.cps.toList = [] := by
                    apply List.eq_nil_of_length_eq_zero
                    rw [Array.length_toList]
                    exact c2
                  rw [this]
                  simp
              cases z
              unfold strRep at this ⊢
              congr 1
            rw [e0] at fin
            obtain ⟨hh, g, dd, tk, os⟩ := s
            exact fin t tk
          · rw [if_neg c2]
            refine ⟨?_, fin _ _⟩
            have : (strRep z n).length ≤ sizeLine := by
              rw [hlen, Nat.mul_comm, sizeLine_eq]
              omega
            exact this
    · cases e
  · cases e
end
/-! ### facts about methods with keyword-only defaults -/
structure MeFK (K : PySem.W.Frag) (C : Addr) (m qual : Str) (st : Stmt) (ps : List Str) (kws : List (Str × V)) : Prop where
  ex : ∃ (f : Addr) (fd : FuncData), FunD K m qual (defArgs st) (defBody st) (defScope st) [] kws f fd ∧ (∃ ds, Vals (kws.map (·.2)) ds ∧ Binds K fd ps ds) ∧ Meth K C m f
section
variable {env : Env} {st : Store} {Q : D → Store → Prop} {QS : Out → Store → Prop}
theorem ev_slM2 {mx : EM} {ml mh : OM} : EvE (eSlM mx ml mh) env st Q ↔ EvE mx env st fun x s1 => EvO ml env s1 fun lo s2 => EvO mh env s2 fun hi s3 => ∃ xs, seqL s3 x = some xs ∧ Q (.ref s3.length) (s3 ++ [.lst (cutD xs lo hi)]) := by
  rw [ev_slM]
  unfold EvO EvE
  constructor
  · rintro ⟨x, s1, h1, lo, s2, h2, hi, s3, h3, q⟩
    exact ⟨x, s1, h1, lo, s2, h2, hi, s3, h3, q⟩
  · rintro ⟨x, s1, h1, lo, s2, h2, hi, s3, h3, q⟩
    exact ⟨x, s1, h1, lo, s2, h2, hi, s3, h3, q⟩
theorem ev_fldAugM {n f : Str} {g : D → D → Store → Option D} {mo mv : EM} : EvS (sFldAugM n f g mo mv) env st QS ↔ EvE mo env st fun o s1 => ∃ fs vs x, insA s1 o = some (n, fs, vs) ∧ fGet fs vs f = some x ∧ EvE mv env s1 fun y s2 => ∃ z, g x y s2 = some z ∧ ∃ s3, fldPut n f o z s2 = some s3 ∧ QS (.nx env) s3 := by
  unfold EvS EvE sFldAugM
  constructor
  · rintro ⟨d, s, e, q⟩
    split at e
    · rename_i o s1 h1
      split at e
      · rename_i n' fs vs h2
        split at e
        · rename_i hn
          subst hn
          split at e
          · rename_i x h3
            split at e
            · rename_i y s2 h4
              split at e
              · rename_i z h5
                split at e
                · rename_i s3 h6
                  cases e
                  exact ⟨_, _, h1, _, _, _, h2, h3, _, _, h4, _, h5, _, h6, q⟩
                · cases e
              · cases e
            · cases e
          · cases e
        · cases e
      · cases e
    · cases e
  · rintro ⟨o, s1, h1, fs, vs, x, h2, h3, y, s2, h4, z, h5, s3, h6, q⟩
    exact ⟨_, _, by rw [h1]; simp only [h2]; rw [if_pos trivial]; simp only [h3, h4, h5, h6], q⟩
theorem lc2_flat {α : Type} {gd : Store → Prop} {g1 : GM} {im1 : IM} {el : EM} {env : Env} {i : Nat} {vs1 : List Nat} (c : α → D) (f : α → List D) (hg : gd st) :
    ∀ {xs : List α}, (∀ a ∈ xs, ∃ gd1, im1 (env.set i (some (c a))) st = some (f a, gd1, st) ∧ gd1 st ∧ ∀ y ∈ f a, ∃ e2, g1 y (wipeE (env.set i (some (c a))) vs1) = some e2 ∧ el e2 st = some (y, st)) →
      lcGo2 gd (gNm i) bYes im1 g1 bYes el vs1 env (xs.map c) st = some (xs.flatMap f, st) := by
  have inner : ∀ {gd1 : Store → Prop} {e1 : Env} (h1 : gd1 st) {ys : List D}, (∀ y ∈ ys, ∃ e2, g1 y e1 = some e2 ∧ el e2 st = some (y, st)) → lcGo gd1 g1 bYes el e1 ys st = some (ys, st) := by
    intro gd1 e1 h1 ys
    induction ys with
    | nil => intro _; unfold lcGo; rw [if_pos h1]
    | cons y ys ih =>
      intro h
      obtain ⟨e2, h2, h3⟩ := h y List.mem_cons_self
      unfold lcGo
      rw [if_pos h1, h2]
      simp only [bYes, h3, ih fun y m => h y (List.mem_cons_of_mem _ m)]
  intro ds
  induction ds with
  | nil => intro _; show lcGo2 _ _ _ _ _ _ _ _ _ [] st = _; unfold lcGo2; rw [if_pos hg]; rfl
  | cons d ds ih =>
    intro h
    obtain ⟨gd1, h1, h2, h3⟩ := h d List.mem_cons_self
    rw [List.map_cons]
    unfold lcGo2
    rw [if_pos hg]
    simp only [gNm, bYes, h1, inner h2 h3]
    have := ih fun d m => h d (List.mem_cons_of_mem _ m)
    rw [this]
    simp [List.flatMap_cons]
end
end My

namespace My
open PySem PySem.Spec PyProof.Rows L2
/-! ### dict(pairs) as a cell, d.update(d2): keys that are numbers or texts -/
def fDictPM : FM := fun as st => match as with
  | [d] => match seqL st d with
    | some xs => match pairsK xs with
      | some (ks, vs) => some (.ref st.length, st ++ [.dk (mrgK [] [] ks vs) (mrgV [] [] ks vs)])
      | none => none
    | none => none
  | _ => none
def mUpdK : MM := fun o as st => match o, as with
  | .ref n, [.dk ks2 vs2] => match st[n]? with
    | some (.dk ks vs) => if ks.length + ks2.length ≤ sizeLine then some (.non, st.set n (.dk (mrgK ks vs ks2 vs2) (mrgV ks vs ks2 vs2))) else none
    | _ => none
  | _, _ => none
section
variable {X : Cx} {W : Wd}
theorem jc_dictPM (hK : X.K = W.K) (hc : X.calm = true) : CallR X (.type "dict") (MA W fDictPM) := by
  intro pins s σ H xs us Q I rx ⟨ι, st, ds, d, st', r, h, e, k⟩
  unfold fDictPM at e
  split at e
  · obtain ⟨v, rfl, hv⟩ := reps1 h
    split at e
    · rename_i ys q
      split at e
      · rename_i ks ws e2
        cases e
        obtain ⟨a, vs, rfl, ha, hvs⟩ := seqL_ok r hv q
        obtain ⟨ps, us1, rfl, f2, f3, f4⟩ := pairs_k hvs e2
        refine call_dictP hc pins s σ H _ us Q I rx ⟨a, ps, _, rfl, SqL.of ha, hK ▸ f4, fun p hp => ?_⟩
        obtain ⟨us', m1, m2, m3⟩ := mrg_ok (κ := Key) (ks2 := ks) (ks := []) (ds := []) (us := []) (W := W) (ι := ι) (H := H) Reps.nil rfl f3 f2
        have m1' : mergeK [] (ks.zip us1) = (mrgK [] [] ks ws).zip us' := m1
        rw [m1']
        exact k.cellM r hp ⟨us', upd_same, m2, Reps.grow (Grow.cell hp) _ _ m3⟩
      · cases e
    · cases e
  · cases e
theorem jm_updK : MtR X "dict.update" (MMt W mUpdK) := by
  intro pins s σ H x xs v us Q I rx rxs ⟨ι, st, o, as, d, st', r, ho, ha, e, k⟩
  unfold mUpdK at e
  split at e
  · rename_i n ks2 vs2
    obtain ⟨p, c, rfl, h1, h2, h3⟩ := rep_ref r ho
    obtain ⟨wv, rfl, hw⟩ := reps1 ha
    rw [h2] at e
    obtain ⟨z, hz, mz⟩ := h3.there
    split at e
    · rename_i ks vs q
      cases q
      split at e
      · rename_i hl
        cases e
        obtain ⟨us1, h4, h5, h6⟩ := h3
        simp only [Rep] at hw
        obtain ⟨p2, rfl, nh, us2, h7, h8, h9⟩ := hw
        obtain rfl : v = Value.ref p := rx
        obtain ⟨u, eu, ru⟩ := vals1 rxs
        subst eu
        cases ru
        have hne : p ≠ p2 := fun z => nh (.inl (z ▸ List.mem_of_getElem? h1))
        obtain ⟨z1, y1, xs1, kv1, dd1⟩ := dk_of I.hok h4
        obtain ⟨z2, y2, xs2, kv2, dd2⟩ := dk_of I.hok h7
        obtain ⟨us', m1, m2, m3⟩ := mrg_ok h6 h5 h9 h8
        have l1 : (ks.zip us1).length = ks.length := by rw [List.length_zip, ← h6.length, h5, Nat.min_self]
        have l2 : (ks2.zip us2).length = ks2.length := by rw [List.length_zip, ← h9.length, h8, Nat.min_self]
        have km := KV.merge kv2 kv1
        have m1' : mergeK (ks.zip us1) (ks2.zip us2) = (mrgK ks vs ks2 vs2).zip us' := m1
        rw [m1'] at km
        have hle : ((mrgK ks vs ks2 vs2).zip us').length ≤ sizeLine := by
          rw [← m1']
          have := length_mergeK (ks2.zip us2) (ks.zip us1)
          omega
        refine call_meetsIn PySem.F.slot_dict_update dd1.typeIs PySem.F.entry_dict_update (PySem.F.args_dict_update_2 _ _) (meets_dict_update (mixKind X.prog X.w) p p2 hne y2) ⟨xs1, xs2, dd1, dd2, by rw [← Paired.length kv1, ← Paired.length kv2, l1, l2]; exact hl, fun h' d1 _ sb => ?_⟩
        have g : Grow ι H ι (upd H p (.dK ((mrgK ks vs ks2 vs2).zip us'))) := Grow.put h1 hz mz
        have he : ∃ q, h'.get? p = some q := let ⟨q, _, _, hq, _⟩ := d1; ⟨q, hq⟩
        exact ⟨.non, upd H p (.dK ((mrgK ks vs ks2 vs2).zip us')), d_write (t' := s.toks) I (by rw [h4]; exact True.intro) sb he (dk_new hle y1 km d1), rfl,
          k _ _ _ g (r.put h1 ⟨us', upd_same, m2, Reps.grow g _ _ m3⟩) non_rep⟩
      · cases e
    · cases e
  · cases e
end
end My

namespace My
open PySem PySem.Spec PyProof.Rows L2
/-! ### {"a": x, ..}: a new dict with texts as keys, as a cell -/
open Classical in
noncomputable def eDispM (ks : List Str) (am : AM) : EM := fun env st => match am env (st ++ [.dk [] []]) with
  | some (xs, s1) => if xs.length = ks.length ∧ ks.Nodup ∧ s1[st.length]? = some (.dk [] []) then some (.ref st.length, s1.set st.length (.dk (ks.map Sum.inr) xs)) else none
  | none => none
section
variable {X : Cx} {W : Wd} {pos : Pos}
structure PDs (X : Cx) (W : Wd) (pos : Pos) (keys : List (Option Expr)) (values : List Expr) (ks : List Str) (am : AM) : Prop where
  ex : ∃ trs, PPs X pos keys values trs ∧ keys.length = ks.length ∧ values.length = ks.length ∧ keys.all (·.isSome) = true ∧
    ∀ {σ : L2.St} {H : Hp} {Q : List (V × V) → Hp → Prop} {ι : Lay} {st st' : Store} {env : Env} {xs : List D}, RelH W ι H st → REnv W ι H env σ → am env st = some (xs, st') →
      (∀ ι' H' vs, Grow ι H ι' H' → RelH W ι' H' st' → Reps W ι' H' xs vs → Q ((ks.zip vs).map fun q => (V.str q.1, q.2)) H') → tPairs trs σ H Q
theorem jd_nil : PDs X W pos [] [] [] aNil := ⟨[], pps_nil, rfl, rfl, rfl, fun r n e k => by
  cases e
  exact k _ _ _ Grow.refl r Reps.nil⟩
theorem jd_cons {x : Str} {j : _} {p : Pos} {v : Expr} {keys : List (Option Expr)} {values : List Expr} {ks : List Str} {mv : EM} {am : AM} (hv : PE X v (T W mv)) (hr : PDs X W pos keys values ks am) : PDs X W pos (some (.Constant (.str x) j p) :: keys) (v :: values) (x :: ks) (aCons mv am) := by
  obtain ⟨trs, h, l1, l2, l3, h2⟩ := hr.ex
  refine ⟨_, pps_cons (j_str (W := W)) hv h, by simp [l1], by simp [l2], by simp [l3], fun {σ H Q ι st st' env xs} r n e k => ?_⟩
  unfold aCons at e
  split at e
  · rename_i y s1 e1
    split at e
    · rename_i ys s2 e2
      cases e
      refine T.of r n (show eC (.str x) env st = some (.str x, st) from rfl) fun u ι1 H1 g1 r1 p1 => ?_
      cases rep_str p1
      refine T.of r1 (n.grow g1) e1 fun w ι2 H2 g2 r2 p2 => ?_
      refine h2 r2 ((n.grow g1).grow g2) e2 fun ι3 H3 vs g3 r3 p3 => ?_
      exact k ι3 H3 (w :: vs) ((g1.trans g2).trans g3) r3 (Reps.cons (Rep.grow g3 _ _ p2) p3)
    · cases e
  · cases e
theorem mergeK_nd : ∀ {more acc : List (Key × V)}, ((acc ++ more).map (·.1)).Nodup → mergeK acc more = acc ++ more
  | [], acc, _ => by simp [mergeK]
  | p :: r, acc, h => by
    have hn : valV acc p.1 = none := by
      unfold valV
      rw [Option.map_eq_none_iff, List.find?_eq_none]
      intro q hq hc
      rw [List.map_append, List.nodup_append] at h
      exact h.2.2 q.1 (List.mem_map_of_mem hq) p.1 (by simp) (of_decide_eq_true hc)
    show mergeK (putK acc p.1 p.2) r = _
    rw [putK_new _ hn, mergeK_nd (by simpa [List.append_assoc] using h)]
    simp
theorem j_dispM {keys : List (Option Expr)} {values : List Expr} {ks : List Str} {am : AM} (h : PDs X W pos keys values ks am) (h0 : ks ≠ [] := by decide) (h15 : ks.length ≤ 15 := by decide) : PE X (.Dict keys values pos) (T W (eDispM ks am)) := by
  obtain ⟨trs, hp, l1, l2, l3, hr⟩ := h.ex
  refine (pe_disp hp l3 (l1.trans l2.symm) (fun z => h0 (by rw [z] at l1; exact List.eq_nil_of_length_eq_zero l1.symm)) (by omega)).imp fun σ H Q ⟨ι, st, env, d, st', r, n, e, kk⟩ => ?_
  unfold eDispM at e
  split at e
  · rename_i xs s1 e1
    split at e
    · rename_i hc
      obtain ⟨hl, hnd, hcell⟩ := hc
      cases e
      intro p hp
      have ro : RelH W (ι.add p) (upd H p (.dK [])) (st ++ [.dk [] []]) := r.new hp ⟨[], upd_same, rfl, Reps.nil⟩
      have g0 : Grow ι H (ι.add p) (upd H p (.dK [])) := Grow.cell hp
      refine hr ro (n.grow g0) e1 fun ι2 H2 vs g2 r2 p2 => ?_
      have ep : (ι.add p).c[st.length]? = some p := by
        rw [← r.len]
        show (ι.c ++ [p])[_]? = _
        simp
      have ep2 := g2.pre _ _ ep
      obtain ⟨c, hc, ok⟩ := r2.at ep2
      rw [hcell] at hc
      cases hc
      obtain ⟨us, h4, h5, h6⟩ := ok
      rw [h6.nil_of] at h4
      have h4' : H2 p = some (.dK []) := h4
      have lv : ks.length = vs.length := hl.symm.trans p2.length
      have hz : ((ks.map (Sum.inr : Str → Key)).zip vs).map (·.1) = ks.map Sum.inr := List.map_fst_zip (by rw [List.length_map, lv]; exact Nat.le_refl _)
      have hm : mergeK [] ((ks.map Sum.inr).zip vs) = (ks.map Sum.inr).zip vs := by
        rw [mergeK_nd (by
          rw [List.nil_append, hz]
          exact List.Pairwise.map _ (fun a b hab e => hab (by cases e; rfl)) hnd)]
        rfl
      have gp : Grow ι2 H2 ι2 (upd H2 p (.dK ((ks.map Sum.inr).zip vs))) := Grow.put ep2 h4' True.intro
      refine ⟨h4', (ks.map Sum.inr).zip vs, ?_, ?_, ?_⟩
      · rw [List.zip_map_left, List.map_map]
        rfl
      · rw [List.length_zip, List.length_map]
        omega
      · rw [hm]
        refine kk _ ι2 _ ((g0.trans g2).trans gp) (r2.put ep2 ⟨vs, upd_same, by simp [lv, ← hl, p2.length], Reps.grow gp _ _ p2⟩) ?_
        simp only [Rep]
        exact ⟨p, rfl, ep2⟩
    · cases e
  · cases e
end
theorem ev_dispM {env : Env} {st : Store} {Q : D → Store → Prop} {ks : List Str} {am : AM} : EvE (eDispM ks am) env st Q ↔ EvA am env (st ++ [.dk [] []]) fun xs s1 => xs.length = ks.length ∧ ks.Nodup ∧ s1[st.length]? = some (.dk [] []) ∧ Q (.ref st.length) (s1.set st.length (.dk (ks.map Sum.inr) xs)) := by
  unfold EvE EvA eDispM
  constructor
  · rintro ⟨d, s, e, q⟩
    split at e
    · rename_i xs s1 e1
      split at e
      · rename_i hc
        cases e
        exact ⟨_, _, e1, hc.1, hc.2.1, hc.2.2, q⟩
      · cases e
    · cases e
  · rintro ⟨xs, s1, e1, h1, h2, h3, q⟩
    exact ⟨_, _, by rw [e1]; simp only []; rw [if_pos ⟨h1, h2, h3⟩], q⟩
end My

namespace My
open PySem PySem.Spec PyProof.Rows L2
/-! ### len(x), x an instance of a class with its own __len__ -/
noncomputable def fLenO (n : Str) (F : FM) : FM := fun ds st => match ds with
  | [o] => match insA st o with
    | some (n', _, _) => if n' = n then (match F [o] st with
      | some (.int i, s1) => if 0 ≤ i ∧ i < 2 ^ 63 then some (.int i, s1) else none
      | _ => none) else none
    | none => none
  | _ => none
section
variable {X : Cx} {W : Wd} {n : Str}
theorem jc_lenO {f : Addr} {fd : FuncData} {ps : List Str} {F : FM} {E : XK} {k : Nat} (F0 : FnOk X.prog X.w X.K X.mg X.base CX0 k f fd ps (spM W 1 F)) (hM : Meth X.K (W.cl n) "__len__" f) (hr : Room (k + 1) X.A) (hb : Binds X.K fd ps []) (hx : Passes CX0 X E) : CallR X (.builtin "len") (MA W (fLenO n F)) := by
  intro pins s σ H xs us Q I rx ⟨ι, st, ds, d, st', r, h, e, ok⟩
  unfold fLenO at e
  split at e
  · rename_i o
    obtain ⟨v, rfl, hv⟩ := reps1 h
    split at e
    · rename_i n' fs vs q
      split at e
      · rename_i hn
        subst hn
        split at e
        · rename_i i s1 e1
          split at e
          · rename_i hi
            cases e
            obtain ⟨a', dx, vs', rfl, ha, _, _⟩ := insA_ok r hv q
            cases rx with
            | cons ra rn =>
              cases ra
              cases rn
              obtain ⟨mA, J, _⟩ := ins_get I.hok ha
              obtain ⟨od, J, _⟩ := J.look
              obtain ⟨m, hF⟩ := I.fr
              refine PySem.W.len_K hF I.ok.mod.kin J hM.at_ hM.fn ?_
              have hsp : spM W 1 F [.ref a'] H (fun v H' => v = .int i ∧ Q v H') E := ⟨ι, st, [o], .int i, _, r, h, rfl, e1, fun v ι' H' g r' p' => ⟨rep_int p', ok v ι' H' g r' p'⟩⟩
              have e0 : Env0 X.prog X.w X.K X.mg X.base X.A X.stack s H := I.env0
              have hl := F0.len _ _ _ _ hsp
              have r2 : Vals [V.ref a'] [Value.ref a'] := .cons rfl .nil
              refine wpAny_call (codeAny_mono (F0.run X.A.in1 X.stack s H ⟨[.ref a'], []⟩ [.ref a'] [.ref a'] _ E hr.in1 e0.in1 (by
                have := hb s [.ref a'] I.kIn (by simpa using hl)
                simpa using this) r2 hsp) fun rr s' hq => ?_)
              cases rr with
              | error e => exact hx pins σ H s e s' I hq
              | ok fl =>
                cases fl with
                | ret w =>
                  obtain ⟨z, H', I', rz, ez, qq⟩ := I.after hq
                  subst ez
                  obtain ⟨t, rfl⟩ := rz
                  exact ⟨hi, .int i, H', I'.tok _, ⟨_, rfl⟩, qq⟩
                | next => exact False.elim hq
                | brk => exact False.elim hq
                | cont => exact False.elim hq
          · cases e
        · cases e
      · cases e
    · cases e
  · cases e
end
theorem ev_lenO {n : Str} {F : FM} {o : D} {fs : List Str} {vs : List D} {st : Store} {Q : D → Store → Prop} (h : insA st o = some (n, fs, vs)) (k : EvF F [o] st fun d s => ∃ i, d = .int i ∧ 0 ≤ i ∧ i < 2 ^ 63 ∧ Q d s) : EvF (fLenO n F) [o] st Q := by
  obtain ⟨d, s, e, i, rfl, h0, h1, q⟩ := k
  refine ⟨_, s, ?_, q⟩
  simp only [fLenO, h, e]
  rw [if_pos trivial, if_pos ⟨h0, h1⟩]
end My

namespace My
open PySem PySem.Spec PyProof.Rows L2
/-! ### a, b = a list; d.update(another dict that is a cell) -/
def gLs (n : Nat) (gs : GMs) : GM := fun d env => match d with
  | .lst xs => if xs.length = n then gs xs env else none
  | _ => none
section
variable {X : Cx} {W : Wd} {pos : Pos}
theorem jg_lst {es : List Expr} {kk : Nat} {gs : GMs} {n : Nat} {vs : List Nat} (hK : X.K = W.K) (hc : X.calm = true) (h : PGs X es (TGsm W gs vs))
    (hn : (assignEach es X.env).length = n := by rfl) (hst : (assignEach es X.env).findIdx? (·.1) = none := by rfl) : PG X (.Tuple es kk pos) (TGm W (gLs n gs) vs) := (pg_lst hc h hn hst).imp' fun v σ H Q ⟨ι, st, env, d, env', r, n', h, e, k⟩ => by
  unfold gLs at e
  split at e
  · rename_i xs
    split at e
    · rename_i hl
      obtain ⟨a, us, rfl, h1, h2⟩ := seqL_ok r h (xs := xs) rfl
      exact ⟨a, us, rfl, SqL.of h1, by rw [← h2.length]; exact hl, ι, st, env, xs, env', r, n', h2, e, k⟩
    · cases e
  · cases e
end
def mUpdR : MM := fun o as st => match o, as with
  | .ref n, [.ref m] => match st[n]?, st[m]? with
    | some (.dk ks vs), some (.dk ks2 vs2) => if n ≠ m ∧ ks.length + ks2.length ≤ sizeLine then some (.non, st.set n (.dk (mrgK ks vs ks2 vs2) (mrgV ks vs ks2 vs2))) else none
    | _, _ => none
  | _, _ => none
section
variable {X : Cx} {W : Wd}
theorem jm_updR : MtR X "dict.update" (MMt W mUpdR) := by
  intro pins s σ H x xs v us Q I rx rxs ⟨ι, st, o, as, d, st', r, ho, ha, e, k⟩
  unfold mUpdR at e
  split at e
  · rename_i n m
    obtain ⟨p, c, rfl, h1, h2, h3⟩ := rep_ref r ho
    obtain ⟨wv, rfl, hw⟩ := reps1 ha
    obtain ⟨p2, c2, rfl, w1, w2, w3⟩ := rep_ref r hw
    rw [h2, w2] at e
    obtain ⟨z, hz, mz⟩ := h3.there
    split at e
    · rename_i ks vs ks2 vs2 q q2
      cases q
      cases q2
      split at e
      · rename_i hl
        obtain ⟨hnm, hl⟩ := hl
        cases e
        obtain ⟨us1, h4, h5, h6⟩ := h3
        obtain ⟨us2, h7, h8, h9⟩ := w3
        obtain rfl : v = Value.ref p := rx
        obtain ⟨u, eu, ru⟩ := vals1 rxs
        subst eu
        cases ru
        have hne : p ≠ p2 := fun z => by
          subst z
          have l1 := (List.getElem?_eq_some_iff.mp h1).1
          exact hnm ((List.getElem?_inj l1 r.nd).mp (h1.trans w1.symm))
        obtain ⟨z1, y1, xs1, kv1, dd1⟩ := dk_of I.hok h4
        obtain ⟨z2, y2, xs2, kv2, dd2⟩ := dk_of I.hok h7
        obtain ⟨us', m1, m2, m3⟩ := mrg_ok h6 h5 h9 h8
        have l1 : (ks.zip us1).length = ks.length := by rw [List.length_zip, ← h6.length, h5, Nat.min_self]
        have l2 : (ks2.zip us2).length = ks2.length := by rw [List.length_zip, ← h9.length, h8, Nat.min_self]
        have km := KV.merge kv2 kv1
        have m1' : mergeK (ks.zip us1) (ks2.zip us2) = (mrgK ks vs ks2 vs2).zip us' := m1
        rw [m1'] at km
        have hle : ((mrgK ks vs ks2 vs2).zip us').length ≤ sizeLine := by
          rw [← m1']
          have := length_mergeK (ks2.zip us2) (ks.zip us1)
          omega
        refine call_meetsIn PySem.F.slot_dict_update dd1.typeIs PySem.F.entry_dict_update (PySem.F.args_dict_update_2 _ _) (meets_dict_update (mixKind X.prog X.w) p p2 hne y2) ⟨xs1, xs2, dd1, dd2, by rw [← Paired.length kv1, ← Paired.length kv2, l1, l2]; exact hl, fun h' d1 _ sb => ?_⟩
        have g : Grow ι H ι (upd H p (.dK ((mrgK ks vs ks2 vs2).zip us'))) := Grow.put h1 hz mz
        have he : ∃ q, h'.get? p = some q := let ⟨q, _, _, hq, _⟩ := d1; ⟨q, hq⟩
        exact ⟨.non, upd H p (.dK ((mrgK ks vs ks2 vs2).zip us')), d_write (t' := s.toks) I (by rw [h4]; exact True.intro) sb he (dk_new hle y1 km d1), rfl,
          k _ _ _ g (r.put h1 ⟨us', upd_same, m2, Reps.grow g _ _ m3⟩) non_rep⟩
      · cases e
    · cases e
  · cases e
end
end My

namespace My
open PySem PySem.Spec PyProof.Rows L2
/-! ### xs != [], whatever the list holds -/
def dNeN (a b : D) (st : Store) : Option D := match seqL st a, b with
  | some xs, .lst [] => some (.bl (!xs.isEmpty))
  | _, _ => none
section
variable {X : Cx} {W : Wd}
theorem jo_neN (hu : X.A.units + 65 < cLine) : OpR X (compareOp .NotEq) (M2 W dNeN) := by
  intro pins s σ H x y v u Q I rx ry ⟨ι, st, a, b, d, r, ha, hb, e, k⟩
  unfold dNeN at e
  split at e
  · rename_i xs q
    cases e
    obtain ⟨p, us, rfl, h1, h2⟩ := seqL_ok r ha q
    obtain ⟨p2, us2, rfl, h3, h4⟩ := seqL_ok r hb (xs := []) rfl
    cases rx
    cases ry
    obtain ⟨its, rv, pl, hz⟩ := I.list (SqL.of h1)
    obtain ⟨its2, rv2, pl2, hz2⟩ := I.list (SqL.of h3)
    have l2 : its2 = [] := by
      rw [h4.nil_of] at rv2
      cases rv2
      rfl
    subst l2
    have ll : xs.length = its.length := h2.length.trans rv.length
    have ok : ∀ c : Bool, c = !xs.isEmpty → EP X pins σ Q (.bool c) s := fun c hc => ⟨.bl c, H, I, rfl, hc ▸ k _ _ _ Grow.refl r bl_rep⟩
    cases hx : xs with
    | nil =>
      have hi : its = [] := List.eq_nil_of_length_eq_zero (by rw [← ll, hx]; rfl)
      subst hi
      exact SeqAt.RcNeAt.lists (e := fun _ => true) pl.isList pl2.isList rfl (by omega) (fun j h _ => absurd h (Nat.not_lt_zero _)) _ _ _ _ (ok _ (by rw [hx]; rfl))
    | cons z zs =>
      refine SeqAt.RcNeAt.lists_lengths pl.isList pl2.isList ?_ (by omega) _ _ _ _ (ok _ (by rw [hx]; rfl))
      rw [List.size_toArray, ← ll, hx]
      rfl
  · cases e
end
theorem neN_ev {a : D} {xs : List D} {st : Store} (h : seqL st a = some xs) : dNeN a (.lst []) st = some (.bl (!xs.isEmpty)) := by
  unfold dNeN
  rw [h]
end My

namespace My
open PySem PySem.Spec PyProof.Rows L2
/-! ### repr of trees that have dicts in them -/
mutual
/-- data in the heap; its dicts are none of the system's -/
inductive Rd (h : Heap) : Value → PyData → Prop
  | non : Rd h .none .none
  | bl (b : Bool) : Rd h (.bool b) (.bool b)
  | int (i : Int) (t : Tok) : Rd h (.int i t) (.int i)
  | str (z : Str) (t : Tok) : Rd h (.str z t) (.str z)
  | lst {a : Addr} {o : Obj} {vs : Array Value} {n : Nat} {xs : List PyData} : h.get? a = some o → o.cls = .type "list" → o.data = .seq vs n → RdAll h vs.toList xs → Rd h (.ref a) (.list xs)
  | tup {a : Addr} {o : Obj} {vs : Array Value} {n : Nat} {xs : List PyData} : h.get? a = some o → o.cls = .type "tuple" → o.data = .seq vs n → RdAll h vs.toList xs → Rd h (.ref a) (.tuple xs)
  | dct {a : Addr} {o : Obj} {es : Array DictEntry} {n : Nat} {kvs : List (PyData × PyData)} : (a == sysModules) = false → h.get? a = some o → o.cls = .type "dict" → o.data = .dict es n →
      RdAll h (es.toList.map (·.key)) (kvs.map (·.1)) → RdAll h (es.toList.map (·.val)) (kvs.map (·.2)) → Rd h (.ref a) (.dict kvs)
inductive RdAll (h : Heap) : List Value → List PyData → Prop
  | nil : RdAll h [] []
  | cons {v : Value} {vs : List Value} {d : PyData} {ds : List PyData} : Rd h v d → RdAll h vs ds → RdAll h (v :: vs) (d :: ds)
end
section
variable {prog : Program} {w : World} {h : Heap}
mutual
theorem Rd.reads : ∀ {v : Value} {d : PyData}, Rd h v d → ∃ as, Reads h v d as
  | _, _, .non => ⟨_, .none⟩
  | _, _, .bl b => ⟨_, .bool b⟩
  | _, _, .int i t => ⟨_, .int i t⟩
  | _, _, .str z t => ⟨_, .str z t⟩
  | _, _, .lst e1 e2 e3 r => let ⟨_, q⟩ := RdAll.reads r; ⟨_, .list e1 e2 e3 q⟩
  | _, _, .tup e1 e2 e3 r => let ⟨_, q⟩ := RdAll.reads r; ⟨_, .tuple e1 e2 e3 q⟩
  | _, _, .dct _ e1 e2 e3 r1 r2 => let ⟨_, q1⟩ := RdAll.reads r1; let ⟨_, q2⟩ := RdAll.reads r2; ⟨_, .dict e1 e2 e3 q1 q2⟩
theorem RdAll.reads : ∀ {vs : List Value} {ds : List PyData}, RdAll h vs ds → ∃ as, ReadsAll h vs ds as
  | _, _, .nil => ⟨_, .nil⟩
  | _, _, .cons r rs => let ⟨_, q1⟩ := Rd.reads r; let ⟨_, q2⟩ := RdAll.reads rs; ⟨_, .cons q1 q2⟩
end
/-- what a shower of one thing needs: the addresses met, none of them deeper -/
abbrev Rk (prog : Program) (w : World) (h : Heap) (v : Value) (d : PyData) : Prop := ∃ bs, ReadAtMost h d.depth bs ∧ ReprK prog w bs h d.depth v d.shown
abbrev RkAll (prog : Program) (w : World) (h : Heap) (vs : List Value) (ds : List PyData) : Prop := ∃ bs, ReadAtMost h (PyData.depthAll ds) bs ∧ ReprAllK prog w bs h (PyData.depthAll ds) vs (PyData.shownAll ds)
theorem depth_list (xs : List PyData) : (PyData.list xs).depth = PyData.depthAll xs + 1 := by simp only [PyData.depth]
theorem depth_tuple (xs : List PyData) : (PyData.tuple xs).depth = PyData.depthAll xs + 1 := by simp only [PyData.depth]
theorem depth_dict (xs : List (PyData × PyData)) : (PyData.dict xs).depth = PyData.depthKv xs + 1 := by simp only [PyData.depth]
mutual
theorem Rd.rk : ∀ {v : Value} {d : PyData}, Rd h v d → d.showable = true → d.shown.length ≤ sizeLine → Rk prog w h v d
  | _, _, .non, _, _ => ⟨[], nofun, by rw [PyData.shown_none]; exact .of_is ReprIs.none _ _ _⟩
  | _, _, .bl b, _, _ => ⟨[], nofun, by rw [PyData.shown_bool]; exact .of_is (ReprIs.bool b) _ _ _⟩
  | _, _, .int i t, sh, _ => ⟨[], nofun, by rw [PyData.shown_int]; exact .of_is (ReprIs.int t (by simpa [PyData.showable] using sh)) _ _ _⟩
  | _, _, .str z t, _, ln => ⟨[], nofun, by rw [PyData.shown_str] at ln ⊢; exact .of_is (ReprIs.str z t ln) _ _ _⟩
  | _, _, .lst (a := a) (vs := vs) (xs := xs) e1 e2 e3 rs, sh, ln => by
    have sh' : PyData.showableAll xs = true := by simpa [PyData.showable] using sh
    have ln' : (listText (PyData.shownAll xs)).length ≤ sizeLine := by simpa only [PyData.shown] using ln
    obtain ⟨bs, m, k⟩ := RdAll.rk rs sh' fun t ht => Nat.le_trans (listText_mem_le ht) ln'
    obtain ⟨as, q⟩ := RdAll.reads rs
    have r : Reads h (.ref a) (.list xs) (a :: as) := .list e1 e2 e3 q
    have na : a ∉ bs := not_mem_of_deeper r (by rw [depth_list]; exact Nat.lt_succ_self _) m
    have sw : (PyData.list xs).shown = listText (PyData.shownAll xs) := by simp only [PyData.shown]
    refine ⟨a :: bs, ReadAtMost.cons r (by rw [depth_list]; exact Nat.le_succ _) m, ?_⟩
    rw [depth_list, sw]
    rcases vs with ⟨_ | ⟨x, l⟩⟩
    · have q' : RdAll h [] xs := rs
      cases q'
      rw [PyData.shownAll_nil, listText_nil]
      exact ReprK.listEmpty e1 e2 e3
    · exact ReprK.list e1 e2 e3 na (by simpa using k.length_eq) fun i y z => k.item i y (by simpa using z)
  | _, _, .tup (a := a) (xs := xs) e1 e2 e3 rs, sh, ln => by
    have sh' : PyData.showableAll xs = true := by simpa [PyData.showable] using sh
    have ln' : (tupleText (PyData.shownAll xs)).length ≤ sizeLine := by simpa only [PyData.shown] using ln
    obtain ⟨bs, m, k⟩ := RdAll.rk rs sh' fun t ht => Nat.le_trans (tupleText_mem_le ht) ln'
    obtain ⟨as, q⟩ := RdAll.reads rs
    have r : Reads h (.ref a) (.tuple xs) as := .tuple e1 e2 e3 q
    have na : a ∉ bs := not_mem_of_deeper r (by rw [depth_tuple]; exact Nat.lt_succ_self _) m
    have sw : (PyData.tuple xs).shown = tupleText (PyData.shownAll xs) := by simp only [PyData.shown]
    refine ⟨a :: bs, ReadAtMost.cons r (by rw [depth_tuple]; exact Nat.le_succ _) m, ?_⟩
    rw [depth_tuple, sw]
    exact ReprK.tuple e1 e2 e3 na k
  | _, _, .dct (a := a) (es := es) (kvs := kvs) ns e1 e2 e3 r1 r2, sh, ln => by
    have ln' : (dictText (PyData.shownKv kvs)).length ≤ sizeLine := by simpa only [PyData.shown] using ln
    obtain ⟨s1, s2⟩ := PyData.showableKv_split kvs (by simpa [PyData.showable] using sh)
    have l1 : ∀ t ∈ PyData.shownAll (kvs.map (·.1)), t.length ≤ sizeLine := fun t ht => by
      obtain ⟨p, hp, hl⟩ := PyData.shownKv_key_le kvs t ht
      exact Nat.le_trans hl (Nat.le_trans (dictText_mem_le hp) ln')
    have l2 : ∀ t ∈ PyData.shownAll (kvs.map (·.2)), t.length ≤ sizeLine := fun t ht => by
      obtain ⟨p, hp, hl⟩ := PyData.shownKv_val_le kvs t ht
      exact Nat.le_trans hl (Nat.le_trans (dictText_mem_le hp) ln')
    obtain ⟨b1, m1, k1⟩ := RdAll.rk r1 s1 l1
    obtain ⟨b2, m2, k2⟩ := RdAll.rk r2 s2 l2
    obtain ⟨a1, q1⟩ := RdAll.reads r1
    obtain ⟨a2, q2⟩ := RdAll.reads r2
    have r := Reads.dict e1 e2 e3 q1 q2
    have m := (m1.mono (PyData.depthAll_keys_le kvs)).append (m2.mono (PyData.depthAll_vals_le kvs))
    have na : a ∉ b1 ++ b2 := not_mem_of_deeper r (by rw [depth_dict]; exact Nat.lt_succ_self _) m
    have sw : (PyData.dict kvs).shown = dictText (PyData.shownKv kvs) := by simp only [PyData.shown]
    refine ⟨a :: (b1 ++ b2), ReadAtMost.cons r (by rw [depth_dict]; exact Nat.le_succ _) m, ?_⟩
    rw [depth_dict, sw, PyData.shownKv_eq]
    exact ReprK.dict e1 e2 e3 ns na (ReprEntriesK.of_two es.toList _ _ (k1.more_le (fun b z => List.mem_append_left _ z) (PyData.depthAll_keys_le kvs)) (k2.more_le (fun b z => List.mem_append_right _ z) (PyData.depthAll_vals_le kvs)))
theorem RdAll.rk : ∀ {vs : List Value} {ds : List PyData}, RdAll h vs ds → PyData.showableAll ds = true → (∀ t ∈ PyData.shownAll ds, t.length ≤ sizeLine) → RkAll prog w h vs ds
  | _, _, .nil, _, _ => ⟨[], nofun, by rw [PyData.shownAll_nil]; exact .nil⟩
  | _, _, .cons (d := d) (ds := ds) r rs, sh, ln => by
    rw [PyData.shownAll_cons] at ln
    have sh' : d.showable = true ∧ PyData.showableAll ds = true := by simpa [PyData.showableAll] using sh
    obtain ⟨b1, m1, k1⟩ := Rd.rk r sh'.1 (ln _ List.mem_cons_self)
    obtain ⟨b2, m2, k2⟩ := RdAll.rk rs sh'.2 fun t ht => ln t (List.mem_cons_of_mem _ ht)
    have e : PyData.depthAll (d :: ds) = max d.depth (PyData.depthAll ds) := by simp only [PyData.depthAll]
    refine ⟨b1 ++ b2, ?_, ?_⟩
    · rw [e]
      exact (m1.mono (Nat.le_max_left _ _)).append (m2.mono (Nat.le_max_right _ _))
    · rw [e, PyData.shownAll_cons]
      exact .cons ((k1.more fun b z => List.mem_append_left _ z).level_le (Nat.le_max_left _ _)) (k2.more_le (fun b z => List.mem_append_right _ z) (Nat.le_max_right _ _))
end
theorem Rd.shows {a : Addr} {d : PyData} (r : Rd h (.ref a) d) (sh : d.showable = true) (ln : d.shown.length ≤ sizeLine) : ∃ T idr, ShowsBy prog w h a d T idr := by
  cases r with
  | lst e1 e2 e3 rs =>
    rename_i o vs n xs
    have sh' : PyData.showableAll xs = true := by simpa [PyData.showable] using sh
    have ln' : (listText (PyData.shownAll xs)).length ≤ sizeLine := by simpa only [PyData.shown] using ln
    have sw : (PyData.list xs).shown = listText (PyData.shownAll xs) := by simp only [PyData.shown]
    obtain ⟨bs, m, k⟩ := RdAll.rk (prog := prog) (w := w) rs sh' fun t ht => Nat.le_trans (listText_mem_le ht) ln'
    obtain ⟨as, q⟩ := RdAll.reads rs
    have na : a ∉ bs := not_mem_of_deeper (.list e1 e2 e3 q) (by rw [depth_list]; exact Nat.lt_succ_self _) m
    refine ⟨"list", "list.__repr__", F.slot_list_repr.toG, F.slot_list_str, F.slot_list_format, fun s k0 => ⟨o, k0 _ _ e1, e2⟩, fun A E s Q hg hu k0 hQ => ?_⟩
    rw [depth_list] at hu
    rw [sw] at hQ
    rcases vs with ⟨_ | ⟨x, l⟩⟩
    · have q' : RdAll h [] xs := rs
      cases q'
      rw [PyData.shownAll_nil, listText_nil] at hQ
      exact call_list_repr_empty ⟨o, k0 _ _ e1, e2⟩ (k0 _ _ e1) e3 (hQ s.heap _ _ fun _ _ e => e)
    · exact call_list_reprK e1 e2 e3 na (by simpa using k.length_eq) (fun i y z => k.item i y (by simpa using z)) hg (fun b _ => Clear.nil b) hu k0 hQ ln'
  | tup e1 e2 e3 rs =>
    rename_i o vs n xs
    have sh' : PyData.showableAll xs = true := by simpa [PyData.showable] using sh
    have ln' : (tupleText (PyData.shownAll xs)).length ≤ sizeLine := by simpa only [PyData.shown] using ln
    have sw : (PyData.tuple xs).shown = tupleText (PyData.shownAll xs) := by simp only [PyData.shown]
    obtain ⟨bs, m, k⟩ := RdAll.rk (prog := prog) (w := w) rs sh' fun t ht => Nat.le_trans (tupleText_mem_le ht) ln'
    obtain ⟨as, q⟩ := RdAll.reads rs
    have na : a ∉ bs := not_mem_of_deeper (.tuple e1 e2 e3 q) (by rw [depth_tuple]; exact Nat.lt_succ_self _) m
    refine ⟨"tuple", "tuple.__repr__", F.slot_tuple_repr, F.slot_tuple_str, F.slot_tuple_format, fun s k0 => ⟨o, k0 _ _ e1, e2⟩, fun A E s Q hg hu k0 hQ => ?_⟩
    rw [depth_tuple] at hu
    rw [sw] at hQ
    exact call_tuple_reprK e1 e2 e3 na k hg (fun b _ => Clear.nil b) hu k0 hQ ln'
  | dct ns e1 e2 e3 r1 r2 =>
    rename_i o es n kvs
    obtain ⟨bs, m, k⟩ := Rd.rk (prog := prog) (w := w) (.dct ns e1 e2 e3 r1 r2) sh ln
    have ln' : (dictText (PyData.shownKv kvs)).length ≤ sizeLine := by simpa only [PyData.shown] using ln
    have sw : (PyData.dict kvs).shown = dictText (PyData.shownKv kvs) := by simp only [PyData.shown]
    obtain ⟨s1, s2⟩ := PyData.showableKv_split kvs (by simpa [PyData.showable] using sh)
    obtain ⟨b1, m1, k1⟩ := RdAll.rk (prog := prog) (w := w) r1 s1 fun t ht => by
      obtain ⟨p, hp, hl⟩ := PyData.shownKv_key_le kvs t ht
      exact Nat.le_trans hl (Nat.le_trans (dictText_mem_le hp) ln')
    obtain ⟨b2, m2, k2⟩ := RdAll.rk (prog := prog) (w := w) r2 s2 fun t ht => by
      obtain ⟨p, hp, hl⟩ := PyData.shownKv_val_le kvs t ht
      exact Nat.le_trans hl (Nat.le_trans (dictText_mem_le hp) ln')
    obtain ⟨a1, q1⟩ := RdAll.reads r1
    obtain ⟨a2, q2⟩ := RdAll.reads r2
    have mm := (m1.mono (PyData.depthAll_keys_le kvs)).append (m2.mono (PyData.depthAll_vals_le kvs))
    have na : a ∉ b1 ++ b2 := not_mem_of_deeper (.dict e1 e2 e3 q1 q2) (by rw [depth_dict]; exact Nat.lt_succ_self _) mm
    refine ⟨"dict", "dict.__repr__", F.slot_dict_repr, F.slot_dict_str, F.slot_dict_format, fun s k0 => ⟨o, k0 _ _ e1, e2⟩, fun A E s Q hg hu k0 hQ => ?_⟩
    rw [depth_dict] at hu
    rw [sw, PyData.shownKv_eq] at hQ
    exact call_dict_reprK e1 e2 e3 ns na (ReprEntriesK.of_two es.toList _ _ (k1.more_le (fun b z => List.mem_append_left _ z) (PyData.depthAll_keys_le kvs)) (k2.more_le (fun b z => List.mem_append_right _ z) (PyData.depthAll_vals_le kvs))) hg (fun b _ => Clear.nil b) hu k0 hQ (by rw [← PyData.shownKv_eq]; exact ln')
end
/-! ### trees -/
def keyD : Key → PyData
  | .inl i => .int i
  | .inr z => .str z
mutual
def D.pyD : D → Option PyData
  | .non => some .none
  | .bl b => some (.bool b)
  | .int i => some (.int i)
  | .str x => some (.str x)
  | .tup ds => (D.pyDs ds).map .tuple
  | .tpf ds => (D.pyDs ds).map .tuple
  | .lst ds => (D.pyDs ds).map .list
  | .dk ks ds => (D.pyDs ds).map fun ps => .dict ((ks.map keyD).zip ps)
  | _ => none
def D.pyDs : List D → Option (List PyData)
  | [] => some []
  | d :: ds => match D.pyD d with
    | some p => (D.pyDs ds).map (p :: ·)
    | none => none
end
theorem pyDs_len : ∀ {ds : List D} {ps : List PyData}, D.pyDs ds = some ps → ps.length = ds.length
  | [], _, e => by
    simp only [D.pyDs] at e
    cases e; rfl
  | d :: ds, _, e => by
    simp only [D.pyDs] at e
    split at e
    · rw [Option.map_eq_some_iff] at e
      obtain ⟨q, e1, rfl⟩ := e
      simp [pyDs_len e1]
    · cases e
section
variable {X : Cx} {W : Wd} {ι : Lay} {pins : List (Addr × Obj)} {σ : L2.St} {H : Hp} {s : Shared}
/-- a dict's entries: its keys and its values -/
theorem dk_entries {ks : List Key} : ∀ {vs : List V} {kvs : List (Key × Value)} {es : List DictEntry}, ks.length = vs.length → KV (ks.zip vs) kvs → Pairs (mixKind X.prog X.w) es kvs →
    (∃ us, es.map (·.val) = us ∧ Vals vs us) ∧ RdAll s.heap (es.map (·.key)) (ks.map keyD) := by
  induction ks with
  | nil =>
    intro vs kvs es hl h1 h2
    cases vs with
    | nil =>
      cases h1
      cases h2
      exact ⟨⟨[], rfl, .nil⟩, .nil⟩
    | cons _ _ => simp at hl
  | cons k ks ih =>
    intro vs kvs es hl h1 h2
    cases vs with
    | nil => simp at hl
    | cons v vs =>
      cases h1 with
      | cons p1 p2 =>
        rename_i q qs
        cases h2 with
        | cons r0 r1 r2 =>
          obtain ⟨⟨us, e1, e2⟩, e3⟩ := ih (by simpa using hl) p2 r2
          obtain ⟨p3, p4⟩ := p1
          refine ⟨⟨_, rfl, ?_⟩, ?_⟩
          · rw [List.map_cons, e1, r1]
            exact .cons p4 e2
          · rw [List.map_cons, List.map_cons]
            refine .cons ?_ e3
            have r0' : keyIs q.1 _ = true := r0
            rw [← show k = q.1 from p3] at r0'
            rcases keyIs_shape r0' with ⟨i, t, z1, z2⟩ | ⟨x, t, z1, z2⟩
            · rw [z1, z2]; exact .int i t
            · rw [z1, z2]; exact .str x t
mutual
theorem rd_ok (I : Inv X pins σ H s) (hK : X.K = W.K) : ∀ (d : D) (p : PyData) (v : V) (u : Value), d.pyD = some p → Rep W ι H d v → RelV v u → Rd s.heap u p
  | .non, _, _, _, e, h, r => by
    simp only [D.pyD] at e; cases e
    simp only [Rep] at h; subst h
    cases r
    exact .non
  | .bl b, _, _, _, e, h, r => by
    simp only [D.pyD] at e; cases e
    simp only [Rep] at h; subst h
    cases r
    exact .bl b
  | .int b, _, _, _, e, h, r => by
    simp only [D.pyD] at e; cases e
    simp only [Rep] at h; subst h
    obtain ⟨t, rfl⟩ := r
    exact .int b t
  | .str b, _, _, _, e, h, r => by
    simp only [D.pyD] at e; cases e
    simp only [Rep] at h; subst h
    obtain ⟨t, rfl⟩ := r
    exact .str b t
  | .tup ds, _, v, _, e, h, r => by
    simp only [D.pyD, Option.map_eq_some_iff] at e
    obtain ⟨ps, e1, rfl⟩ := e
    simp only [Rep] at h
    obtain ⟨a, rfl, vs, h1, h2⟩ := h
    cases r
    obtain ⟨its, rv, ⟨o, ho, hc, n, hd⟩, _⟩ := I.tuple (SqT.of h1)
    exact .tup ho hc hd (rds_ok I hK ds ps vs its e1 h2 rv)
  | .tpf ds, _, v, _, e, h, r => by
    simp only [D.pyD, Option.map_eq_some_iff] at e
    obtain ⟨ps, e1, rfl⟩ := e
    obtain ⟨a, o, vs, rfl, _, _, h1, h2⟩ := tpf_ok h
    cases r
    obtain ⟨its, rv, ⟨o, ho, hc, n, hd⟩, _⟩ := I.tuple (hK ▸ h1)
    exact .tup ho hc hd (rds_ok I hK ds ps vs its e1 h2 rv)
  | .lst ds, _, v, _, e, h, r => by
    simp only [D.pyD, Option.map_eq_some_iff] at e
    obtain ⟨ps, e1, rfl⟩ := e
    simp only [Rep] at h
    obtain ⟨a, rfl, _, vs, h1, h2⟩ := h
    cases r
    obtain ⟨its, rv, ⟨o, n, ho, hc, _, hd⟩, _⟩ := I.list (SqL.of h1)
    exact .lst ho hc hd (rds_ok I hK ds ps vs its e1 h2 rv)
  | .dk ks ds, _, v, _, e, h, r => by
    simp only [D.pyD, Option.map_eq_some_iff] at e
    obtain ⟨ps, e1, rfl⟩ := e
    simp only [Rep] at h
    obtain ⟨a, rfl, _, vs, h1, hl, h2⟩ := h
    cases r
    obtain ⟨_, ns, kvs, kv, o, es, ep, g1, g2, g3, _, g4, _⟩ := I.hok a _ h1
    obtain ⟨⟨us, e2, e3⟩, e4⟩ := dk_entries (s := s) (X := X) (hl.trans h2.length) kv g4
    have hlp : (ks.map keyD).length = ps.length := by rw [List.length_map, hl, pyDs_len e1]
    have m1 : ((ks.map keyD).zip ps).map (·.1) = ks.map keyD := List.map_fst_zip (Nat.le_of_eq hlp)
    have m2 : ((ks.map keyD).zip ps).map (·.2) = ps := List.map_snd_zip (Nat.le_of_eq hlp.symm)
    refine .dct ns g1 g2.1 g3 ?_ ?_
    · rw [m1]; exact e4
    · rw [m2, e2]
      exact rds_ok I hK ds ps vs us e1 h2 e3
  | .scr _, _, _, _, e, _, _ => by simp [D.pyD] at e
  | .ty _, _, _, _, e, _, _ => by simp [D.pyD] at e
  | .cls _, _, _, _, e, _, _ => by simp [D.pyD] at e
  | .dt _ _, _, _, _, e, _, _ => by simp [D.pyD] at e
  | .set _, _, _, _, e, _, _ => by simp [D.pyD] at e
  | .ins _ _ _, _, _, _, e, _, _ => by simp [D.pyD] at e
  | .ref _, _, _, _, e, _, _ => by simp [D.pyD] at e
theorem rds_ok (I : Inv X pins σ H s) (hK : X.K = W.K) : ∀ (ds : List D) (ps : List PyData) (vs : List V) (us : List Value), D.pyDs ds = some ps → Reps W ι H ds vs → Vals vs us → RdAll s.heap us ps
  | [], _, _, _, e, h, r => by
    simp only [D.pyDs] at e
    cases e
    have := h.nil_of
    subst this
    cases r
    exact .nil
  | d :: ds, _, _, _, e, h, r => by
    obtain ⟨v, vs, rfl, h1, h2⟩ := h.uncons
    simp only [D.pyDs] at e
    split at e
    · rename_i p q
      rw [Option.map_eq_some_iff] at e
      obtain ⟨ps, e1, rfl⟩ := e
      cases r with
      | cons r1 r2 => exact .cons (rd_ok I hK d p v _ q h1 r1) (rds_ok I hK ds ps vs _ e1 h2 r2)
    · cases e
end
structure TxD (n k : Nat) (d : PyData) : Prop where
  sh : d.showable = true
  dp : d.depth ≤ k
  ln : d.shown.length ≤ n
open Classical in
noncomputable def fReprD : FM := ro fun ds _ => match ds with
  | [d] => match d.pyD with
    | some p => if TxD 16777216 60 p then some (.str p.shown) else none
    | none => none
  | _ => none
theorem jc_reprD {n : Nat} (hK : X.K = W.K) (hg : X.A.guards = some []) (hr : Room n X.A) : CallR X (.builtin "repr") (MA W fReprD) := by
  intro pins s σ H xs us Q I rx ⟨ι, st, ds, d, st', r, h, e, k⟩
  replace e := ro_ok e
  obtain ⟨e, rfl⟩ := e
  split at e
  · rename_i x
    obtain ⟨v, rfl, hv⟩ := reps1 h
    split at e
    · rename_i p q
      split at e
      · rename_i tx
        cases e
        obtain ⟨u, rfl, ru⟩ := vals1 rx
        have hu := hr.units
        have hz : p.shown.length ≤ sizeLine := by
          rw [sizeLine_eq]
          exact tx.ln
        have rd := rd_ok I hK x p v u q hv ru
        have dp := tx.dp
        have sh := tx.sh
        have go : ∀ (t : Tok) (h' : Heap) (tk : Nat), (∀ b o, s.heap.get? b = some o → h'.get? b = some o) → EP X pins σ Q (.str p.shown t) { s with heap := h', toks := tk } := fun t h' tk hk =>
          ⟨.str p.shown, H, I.kept hk, ⟨_, rfl⟩, k.now r str_rep⟩
        have big : ∀ a, u = .ref a → wpAny (model X.prog X.w) X.A (call (.builtin "repr") [u]) (EP X pins σ Q) X.xe s := by
          rintro a rfl
          obtain ⟨T, idr, S⟩ := rd.shows (prog := X.prog) (w := X.w) sh hz
          exact call_repr_slot (by omega) (S.typeIs s fun _ _ e => e) S.slotRepr (S.call X.A.in1 X.xe s _ hg (by show X.A.units + 1 + p.depth < cLine; omega) (fun _ _ e => e) fun h' t tk hk => ⟨_, _, rfl, go t h' tk hk⟩)
        cases rd with
        | non => exact PySem.P.repr_of_none (by rw [← PyData.shown_none]; exact go _ _ _ fun _ _ e => e)
        | bl b => exact PySem.P.repr_of_bool (by rw [← PyData.shown_bool]; exact go _ _ _ fun _ _ e => e)
        | int i t => exact PySem.P.repr_of_int (by simpa only [PyData.showable, decide_eq_true_eq] using sh) (by rw [← PyData.shown_int]; exact go _ _ _ fun _ _ e => e)
        | str z t => exact PySem.P.repr_of_str (by rw [← PyData.shown_str]; exact go _ _ _ fun _ _ e => e) (by simpa only [PyData.shown_str] using hz)
        | lst _ _ _ _ => exact big _ rfl
        | tup _ _ _ _ => exact big _ rfl
        | dct _ _ _ _ _ _ => exact big _ rfl
      · cases e
    · cases e
  · cases e
end
end My

namespace My
open PySem PySem.Spec PyProof.Rows L2 PySem.W HT
/-! ### t[::-1] of a tuple -/
theorem adjust_rev (n : Nat) : Builtin.Slice.sliceAdjust none none (-1) (n : Int) = ((n : Int) - 1, -1) := by
  unfold Builtin.Slice.sliceAdjust
  simp
theorem places_rev (n : Nat) : Builtin.Slice.slicePlaces ((n : Int) - 1) (-1) (-1) = n := by
  unfold Builtin.Slice.slicePlaces
  have h1 : ¬ ((-1 : Int) > 0) := by decide
  simp only [h1, if_false]
  split
  · rw [show (- -1 : Int) = 1 by decide, Int.ediv_one]
    omega
  · omega
theorem fm_congr {α β : Type} {f g : α → Option β} : ∀ {xs : List α}, (∀ x ∈ xs, f x = g x) → xs.filterMap f = xs.filterMap g
  | [], _ => rfl
  | x :: xs, h => by
    rw [List.filterMap_cons, List.filterMap_cons, h x List.mem_cons_self, fm_congr fun y hy => h y (List.mem_cons_of_mem _ hy)]
theorem pick_rev (items : Array Value) : ((List.range items.size).filterMap fun (k : Nat) => items[(((items.size : Int) - 1) + (k : Int) * (-1)).toNat]?).toArray = items.toList.reverse.toArray := by
  have e : ((List.range items.size).filterMap fun (k : Nat) => items[(((items.size : Int) - 1) + (k : Int) * (-1)).toNat]?) = ((List.range items.size).map fun k => items.size - 1 - k).filterMap (items[·]?) := by
    rw [List.filterMap_map]
    refine fm_congr fun k hk => ?_
    have := List.mem_range.mp hk
    have e : (((items.size : Int) - 1) + (k : Int) * (-1)).toNat = items.size - 1 - k := by omega
    show items[(((items.size : Int) - 1) + (k : Int) * (-1)).toNat]? = items[items.size - 1 - k]?
    rw [e]
  rw [e, krv_range, List.filterMap_reverse, krv_all]
section
variable {prog : Program} {w : World} {A : Around} {E : Value → Shared → Prop} {s : Shared}
theorem sliceApplied_rev {sl : Addr} {vs : Value} {n : Nat} {Q : Int × Int × Nat → Shared → Prop} (hs : s.heap.IsSliceOf sl .none .none vs) (ps : IsPart vs (some (-1)))
    (h : Q ((n : Int) - 1, -1, n) s) : wpAny (model prog w) A (Builtin.Slice.sliceApplied (.ref sl) (pure (n : Int))) Q E s := by
  obtain ⟨os, hos, hcs, hds⟩ := id hs
  unfold Builtin.Slice.sliceApplied Builtin.Slice.sliceFields
  refine wpAny_bind (wpAny_bind (wpAny_field hos hds (x := .none) rfl (wpAny_bind (wpAny_field hos hds (x := .none) rfl (wpAny_bind (wpAny_field hos hds (x := vs) rfl (wpAny_pure ?_)))))))
  refine wpAny_bind (slicePart_ ps ?_)
  show wpAny _ _ (if ((-1 : Int) == 0) = true then _ else _) _ _ s
  rw [if_neg (by decide)]
  refine wpAny_bind (slicePart_none (wpAny_bind (slicePart_none (wpAny_bind (wpAny_pure ?_)))))
  show wpAny _ _ (match Builtin.Slice.sliceAdjust none none (-1) (n : Int) with | (lo, hi) => pure (lo, (-1 : Int), Builtin.Slice.slicePlaces lo hi (-1))) _ _ s
  rw [adjust_rev n]
  show wpAny _ _ (pure ((n : Int) - 1, (-1 : Int), Builtin.Slice.slicePlaces ((n : Int) - 1) (-1) (-1))) _ _ s
  rw [places_rev]
  exact wpAny_pure h
theorem getItem_tuple_rev {t sl : Addr} {items : Array Value} {vs : Value} {Q : Value → Shared → Prop} (ht : IsTup s.heap t items) (hs : s.heap.IsSliceOf sl .none .none vs) (ps : IsPart vs (some (-1)))
    (h : Q (.ref s.heap.objs.size) { s with heap := s.heap.push { cls := .type "tuple", data := .seq items.toList.reverse.toArray } })
    (hsz : items.size ≤ sizeLine) : wpAny (model prog w) A (getItem (.ref t) (.ref sl)) Q E s := by
  have htake : sizeOk (.seq items.toList.reverse.toArray) := by
    show items.toList.reverse.toArray.size ≤ sizeLine
    rw [List.size_toArray, List.length_reverse, Array.length_toList]
    exact hsz
  obtain ⟨os, hos, hcs, hds⟩ := id hs
  have hTs : s.TypeIs (.ref sl) "slice" := ⟨os, hos, hcs⟩
  unfold getItem
  try with_reducible refine wpAny_holding ?_
  first | refine wpAny_bind (wpAny_pure ?_) | skip
  refine wpAny_bind (wpAny_sequenceKey ht.typeIs (by decide) ?_)
  refine wpAny_bind (wpAny_callSpecial?_slot (name := Str.ofString "__getitem__") ht.typeIs PyProof.Rows.slot_tuple_getitem
    (wpAny_call_entry PyProof.Rows.slot_tuple_getitem ht.typeIs entry_tuple_getitem ?_ (args_tuple_getitem _ _)))
  show wpAny _ _ (Builtin.Tuple.tupleItemsOf (.ref t) >>= _) _ _ s
  refine wpAny_bind (tupleItemsOf_ ht ?_)
  refine wpAny_bind (wpAny_typeOf hTs ?_)
  rw [if_pos (by decide)]
  refine wpAny_bind (sliceApplied_rev hs ps ?_)
  have hno : ¬ ((((items.size : Int) - 1) == 0 && (-1 : Int) == 1 && items.size == items.size) = true) := by
    intro q
    rw [Bool.and_eq_true, Bool.and_eq_true] at q
    exact absurd q.1.2 (by decide)
  show wpAny _ _ (if (((items.size : Int) - 1) == 0 && (-1 : Int) == 1 && items.size == items.size) = true then _ else _) _ _ s
  rw [if_neg hno, pick_rev]
  first
    | exact wpAny_bind (m := Builtin.Tuple.tupleExact _) (wpAny_newObj_type (wpAny_pure ⟨_, rfl, wpAny_pure h⟩) htake)
    | exact wpAny_bind (m := Builtin.Tuple.tupleExact _) (wpAny_newObj_type (wpAny_bind (wpAny_pure (wpAny_pure ⟨_, rfl, wpAny_pure h⟩))) htake)
    | exact wpAny_bind (wpAny_bind (m := Builtin.Tuple.tupleExact _) (wpAny_newObj_type (wpAny_pure (wpAny_pure ⟨_, rfl, wpAny_pure h⟩)) htake))
    | exact wpAny_bind (wpAny_bind (m := Builtin.Tuple.tupleExact _) (wpAny_newObj_type (wpAny_pure ⟨_, rfl, wpAny_pure h⟩) htake))
end
section
variable {X : Cx} {W : Wd} {e : Expr} {m : EM}
def tRevT (K : PySem.W.Frag) (te : TE) : TE := fun σ H Q => te σ H fun x H1 => ∃ a xs, x = .ref a ∧ SqT K H1 a xs ∧ ∀ p, H1 p = none → Q (.ref p) (upd H1 p (.tup xs.reverse))
theorem pe_revT {te : TE} {k : Nat} {p1 p2 p3 pos : Pos} (he : PE X e te) : PE X (.Subscript e (.Slice none none (some (.UnaryOp .USub (.Constant (.int 1) k p1) p2)) p3) pos) (tRevT X.K te) := by
  refine ⟨fun pins s σ H Q I h => ?_⟩
  refine Subscript_ (thn (he.run pins s σ H _ I h) fun v s1 ⟨x, H1, I1, r1, q1⟩ => ?_)
  obtain ⟨a, xs, ex, hx, q⟩ := q1
  subst ex
  cases r1
  have hst : PO X (some (.UnaryOp .USub (.Constant (.int 1) k p1) p2)) (tPart (tUn (rU fun i => .int (-i)) (tC (.int 1)))) := po_some (pe_un un_neg pe_int)
  refine wpAny_Slice (thn (po_none.run pins s1 σ H1 (fun o H2 => o = none ∧ H2 = H1) I1 ⟨rfl, rfl⟩) fun vl s2 ⟨l, H2, I2, pl, el, e2⟩ => ?_)
  subst el e2
  refine thn (po_none.run pins s2 σ H2 (fun o H3 => o = none ∧ H3 = H2) I2 ⟨rfl, rfl⟩) fun vu s3 ⟨u, H3, I3, pu, eu, e3⟩ => ?_
  subst eu e3
  refine thn (hst.run pins s3 σ H3 (fun o H4 => o = some (-1) ∧ H4 = H3) I3 ⟨1, rfl, -1, rfl, rfl, rfl⟩) fun vs s4 ⟨o, H4, I4, ps, eo, e4⟩ => ?_
  subst eo e4
  cases pl
  cases pu
  have I5 : Inv X pins σ H4 { s4 with heap := s4.heap.push { cls := .type "slice", data := .fields #[.none, .none, vs] } } := I4.kept (t' := s4.toks) fun b ob q => Heap.get?_push_of_some _ q
  obtain ⟨its, r, ht, hz⟩ := I5.tuple hx
  have hlen := r.length
  show wpAny (model X.prog X.w) X.A (subscriptTail e (.Slice none none (some (.UnaryOp .USub (.Constant (.int 1) k p1) p2)) p3) (.ref a) (.ref s4.heap.objs.size)) (EP X pins σ Q) X.xe { s4 with heap := s4.heap.push { cls := .type "slice", data := .fields #[.none, .none, vs] } }
  refine tail_any (ops := [.ref a, .ref s4.heap.objs.size]) ht.typeIs (PyProof.Rows.slot_tuple_getitem.lookup) ?_ (by with_unfolding_all rfl)
  refine getItem_tuple_rev ht (Heap.IsSliceOf.new _ .none .none vs) ps ?_ (by rw [List.size_toArray]; omega)
  refine ⟨.ref _, _, I5.laid (t' := s4.toks) (o := .tup xs.reverse) (fun b ob q => Heap.get?_push_of_some _ q) (Nat.le_refl _) ?_, rfl, q _ (I5.hok.fresh (Nat.le_refl _))⟩
  exact ⟨by rw [List.length_reverse]; exact hz, _, r.reverse, IsTup.new _ _⟩
def eRevT (m : EM) : EM := fun env st => match m env st with
  | some (.tup xs, s1) => some (.tup xs.reverse, s1)
  | _ => none
theorem j_revT {k : Nat} {p1 p2 p3 pos : Pos} (hK : X.K = W.K) (he : PE X e (T W m)) : PE X (.Subscript e (.Slice none none (some (.UnaryOp .USub (.Constant (.int 1) k p1) p2)) p3) pos) (T W (eRevT m)) := (pe_revT he).imp fun σ H Q ⟨ι, st, env, d, st', r, n, e, k⟩ => by
  unfold eRevT at e
  split at e
  · rename_i xs s1 e1
    cases e
    refine T.of r n e1 fun v ι1 H1 g1 r1 p1 => ?_
    obtain ⟨a, vs, rfl, h1, h2⟩ := seqT_ok p1 (xs := xs) rfl
    exact ⟨a, vs, rfl, hK ▸ SqT.of h1, fun p hp => (k.go g1).tup r1 h2.rev hp⟩
  · cases e
end
theorem ev_revT {m : EM} {env : Env} {st : Store} {Q : D → Store → Prop} : EvE (eRevT m) env st Q ↔ EvE m env st fun d s1 => ∃ xs, d = .tup xs ∧ Q (.tup xs.reverse) s1 := by
  unfold EvE eRevT
  constructor
  · rintro ⟨d, s, e, q⟩
    split at e
    · rename_i xs s1 h
      cases e
      exact ⟨_, _, h, xs, rfl, q⟩
    · cases e
  · rintro ⟨d, s, h, xs, rfl, q⟩
    exact ⟨_, _, by rw [h], q⟩
end My

namespace My
open PySem PySem.Spec PyProof.Rows L2
/-! ### set(xs) of a list of ints, sorted -/
section
variable {P : Program} {w : World} {A : Around} {E : Value → Shared → Prop} {s : Shared}
theorem call_set_lstI {la : Addr} {its : Array Value} (zs : List Int) {Q : Value → Shared → Prop} (calm : A.handled = none) (el : s.heap.IsList la its) (eit : IntsAre its.toList zs) (eb : zs.length + 1 < scanBound)
    (h : ∀ (hx : Heap) (tk c : Nat), SetR w hx s.heap.objs.size (fun j => decide (j ∈ zs)) c → c ≤ zs.length → (∀ b o, s.heap.get? b = some o → hx.get? b = some o) → Q (.ref s.heap.objs.size) { s with heap := hx, toks := tk }) :
    wpAny (model P w) A (call (.type "set") [.ref la]) Q E s := by
  have isz : its.size = zs.length := by
    have q := IntsAre.length eit
    rw [Array.length_toList] at q
    exact q
  obtain ⟨c, tl, emro⟩ := PySem.F.called_set.mro
  have emade := PySem.F.called_set.made
  have esub := PySem.F.called_set.sub
  refine wpAny_call (codeAny_of_tree ?_)
  show wpAny _ _ (callAny (.type "set") _) _ _ _
  refine wpAny_pure ⟨Code.quiet_builtin _ (by decide +kernel), codeAny_builtin PySem.F.entry_type_call ?_⟩
  rw [Around.under_plain (weight_type_call_type "set" [.ref la] []) rfl]
  have g1 := PySem.F.called_set.notType
  have g2x := PySem.F.called_set.canCreate
  have ect := PySem.F.typeCall_set_1 (.ref la)
  repeat (any_goals (first | assumption | wp_step))

  refine codeAny_mono (code_set_led1 (.ref la) (E := E) (Q₁ := fun ob1 s₁ => ob1 = .ref s.heap.objs.size ∧ s₁ = { s with heap := s.heap.push { cls := .type "set", dict := none, data := .set #[] 0 (.fresh 0 0 (!w.params.followText "set-order")) } }) ⟨rfl, rfl⟩) fun rs s₁ er => ?_
  cases rs with
  | error e => exact er
  | ok fl1 =>
    cases fl1 with
    | ret ob1 =>
      obtain ⟨rfl, rfl⟩ := er
      have eS : (s.heap.push { cls := .type "set", dict := none, data := .set #[] 0 (.fresh 0 0 (!w.params.followText "set-order")) }).get? s.heap.objs.size = some { cls := .type "set", dict := none, data := .set #[] 0 (.fresh 0 0 (!w.params.followText "set-order")) } := Heap.get?_push_size _ rfl
      have eT : Shared.TypeIs { s with heap := s.heap.push { cls := .type "set", dict := none, data := .set #[] 0 (.fresh 0 0 (!w.params.followText "set-order")) } } (.ref s.heap.objs.size) "set" := ⟨_, eS, rfl⟩
      have eli := PySem.F.called_set.init.lookup
      have ebi := PySem.F.called_set.init.bind (.ref s.heap.objs.size)
      repeat (any_goals (first | assumption | wp_step))

      refine codeAny_mono (codeAny_call_builtin (R := wants (fun rs s₂ => rs = .none ∧ ∃ hx tk c, s₂ = { s with heap := hx, toks := tk } ∧ SetR w hx s.heap.objs.size (fun j => decide (j ∈ zs)) c ∧ c ≤ zs.length ∧
          (∀ b o, s.heap.get? b = some o → hx.get? b = some o)) E) PySem.F.called_set.init.plain PySem.F.entry_set_init (check_set_init_1 eT ?_)) fun r₂ s₂ hr₂ => ?_
      · obtain ⟨ol2, eol, ecl, nl2, edl⟩ := el
        obtain ⟨oc2, od2, oda2, os2⟩ := ol2
        simp only at ecl edl
        subst ecl; subst edl
        have eol1 : (s.heap.push { cls := .type "set", dict := none, data := .set #[] 0 (.fresh 0 0 (!w.params.followText "set-order")) }).get? la = some { cls := .type "list", dict := od2, data := .seq its nl2, slots := os2 } := Heap.get?_push_of_some _ eol
        have esl := PySem.F.sub_list_set
        have eslf := PySem.F.sub_list_frozenset
        have ene : (Value.type "list" == Value.type "dict") = false := by decide
        have el1 : (s.heap.push { cls := .type "set", dict := none, data := .set #[] 0 (.fresh 0 0 (!w.params.followText "set-order")) }).IsList la its := ⟨_, eol1, rfl, nl2, rfl⟩
        unfold Builtin.«set.__init__» noKeywords Builtin.Frozenset.updateFrom
        generalize hPI : pyIter = PI
        wp_walk
        subst hPI

        refine wpAny_pyIter_list el1 ?_
        refine wpAny_bind (wpAny_runValue ?_)
        have elS : la < s.heap.objs.size := Heap.lt_size eol
        have calm3 : A.in1.in1.in1.handled = none := by simp [calm]
        have ez1 : (s.heap.push { cls := .type "set", dict := none, data := .set #[] 0 (.fresh 0 0 (!w.params.followText "set-order")) }).objs.size = s.heap.objs.size + 1 := Heap.size_push ..
        have eneI : la ≠ (s.heap.push { cls := .type "set", dict := none, data := .set #[] 0 (.fresh 0 0 (!w.params.followText "set-order")) }).objs.size := by
          rw [Heap.size_push]; exact Nat.ne_of_lt (Nat.lt_succ_of_lt elS)
        have eSf : s.heap.objs.size ∉ [(s.heap.push { cls := .type "set", dict := none, data := .set #[] 0 (.fresh 0 0 (!w.params.followText "set-order")) }).objs.size, la] := by
          rw [Heap.size_push]; simp only [List.mem_cons, List.mem_singleton, List.not_mem_nil, or_false, not_or]
          exact ⟨Nat.ne_of_lt (Nat.lt_succ_self _), Nat.ne_of_gt elS⟩
        have evl : ∀ (i : Nat) (v : Value), its[i]? = some v → ∃ k t, zs[i]? = some k ∧ v = .int k t := fun i v hv => by
          have hi : i < zs.length := by rw [← isz]; exact (Array.getElem?_eq_some_iff.mp hv).1
          obtain ⟨t, e⟩ := PyProof.Rows.IntsAre.int_at eit i v (by rw [Array.getElem?_toList]; exact hv)
          refine ⟨zs[i], t, List.getElem?_eq_getElem hi, ?_⟩
          rw [e, List.getD_eq_getElem?_getD, List.getElem?_eq_getElem hi] <;> rfl
        refine set_update_ints ((Walks.list calm3 _ la eneI its).toS) s.heap.objs.size
          eSf zs isz eb evl (its.size - 0) 0 _ (by omega) (Nat.zero_le _)
          ⟨⟨_, Heap.get?_push_size _ rfl, rfl, rfl⟩, (el1.push _)⟩ ?hS0 ?hR
        case hS0 =>
          have eget : ((s.heap.push { cls := .type "set", dict := none, data := .set #[] 0 (.fresh 0 0 (!w.params.followText "set-order")) }).push { cls := .type "list_iterator", data := .fields #[.ref la, .int 0 0] }).get? s.heap.objs.size
              = some { cls := .type "set", dict := none, data := .set #[] 0 (.fresh 0 0 (!w.params.followText "set-order")) } := Heap.get?_push_of_some _ eS
          exact ⟨0, Nat.le_refl 0, setR_new_at eget⟩
        case hR =>
          intro sx cx em ec1 eS1
          obtain ⟨hx, g2, dx, tkx, osx⟩ := sx
          have eg1 : g2 = s.gens := em.gens
          have ed1 : dx = s.drawn := em.drawn
          have eo1 : osx = s.os := em.os
          subst eg1; subst ed1; subst eo1
          show wpAny _ _ _ _ _ _
          refine wpAny_pure ?_
          show wpAny _ _ (ret Value.none) _ _ _
          rw [isz] at ec1
          refine wpAny_pure ⟨rfl, hx, tkx, cx, rfl, eS1, ec1, fun b o e => ?_⟩
          have eb0 : b < s.heap.objs.size := Heap.lt_size e
          have eb1 : b ≠ s.heap.objs.size := Nat.ne_of_lt eb0
          have eb2 : b ≠ (s.heap.push { cls := .type "set", dict := none, data := .set #[] 0 (.fresh 0 0 (!w.params.followText "set-order")) }).objs.size := by
            rw [Heap.size_push]; exact Nat.ne_of_lt (Nat.lt_succ_of_lt eb0)
          exact em.heap b o (by simp only [List.mem_cons, List.mem_singleton, List.not_mem_nil, or_false, not_or]; exact ⟨eb1, eb2⟩) (Heap.get?_push_of_some _ (Heap.get?_push_of_some _ e))

      · cases r₂ with
        | error e => exact hr₂
        | ok fl₂ =>
          cases fl₂ with
          | ret rs =>
            obtain ⟨rfl, hx, tk, cx, rfl, eS1, ec1, ek1⟩ := hr₂
            repeat (any_goals (first | assumption | wp_step))
            exact h _ _ _ eS1 ec1 ek1
          | _ => exact hr₂.elim
    | _ => exact er.elim

end
end My

namespace My
open PySem PySem.Spec PyProof.Rows L2
/-- the ascending list of the distinct members -/
def ins1 (x : Int) : List Int → List Int
  | [] => [x]
  | y :: ys => if x < y then x :: y :: ys else if x = y then y :: ys else y :: ins1 x ys
def iset (ns : List Int) : List Int := ns.foldr ins1 []
theorem ins1_mem {x z : Int} : ∀ {ys : List Int}, z ∈ ins1 x ys ↔ z = x ∨ z ∈ ys
  | [] => by simp [ins1]
  | y :: ys => by
    unfold ins1
    split
    · simp
    · split
      · rename_i h; subst h; simp
      · rw [List.mem_cons, ins1_mem, List.mem_cons]
        constructor
        · rintro (h | h | h)
          · exact .inr (.inl h)
          · exact .inl h
          · exact .inr (.inr h)
        · rintro (h | h | h)
          · exact .inr (.inl h)
          · exact .inl h
          · exact .inr (.inr h)
theorem ins1_pw {x : Int} : ∀ {ys : List Int}, ys.Pairwise (· < ·) → (ins1 x ys).Pairwise (· < ·)
  | [], _ => by simp [ins1]
  | y :: ys, h => by
    unfold ins1
    split
    · rename_i hxy
      refine List.pairwise_cons.mpr ⟨fun z hz => ?_, h⟩
      rcases List.mem_cons.mp hz with rfl | hz
      · exact hxy
      · exact Int.lt_trans hxy ((List.pairwise_cons.mp h).1 z hz)
    · split
      · exact h
      · refine List.pairwise_cons.mpr ⟨fun z hz => ?_, ins1_pw (List.pairwise_cons.mp h).2⟩
        rcases ins1_mem.mp hz with rfl | hz
        · omega
        · exact (List.pairwise_cons.mp h).1 z hz
theorem iset_pw : ∀ {ns : List Int}, (iset ns).Pairwise (· < ·)
  | [] => List.Pairwise.nil
  | _ :: _ => ins1_pw iset_pw
theorem iset_mem {x : Int} : ∀ {ns : List Int}, x ∈ iset ns ↔ x ∈ ns
  | [] => Iff.rfl
  | n :: ns => by
    show x ∈ ins1 n (iset ns) ↔ _
    rw [ins1_mem, iset_mem, List.mem_cons]
theorem iset_ext : ∀ {as bs : List Int}, as.Pairwise (· < ·) → bs.Pairwise (· < ·) → (∀ x, x ∈ as ↔ x ∈ bs) → as = bs
  | [], [], _, _, _ => rfl
  | [], b :: bs, _, _, h => absurd ((h b).mpr List.mem_cons_self) List.not_mem_nil
  | a :: as, [], _, _, h => absurd ((h a).mp List.mem_cons_self) List.not_mem_nil
  | a :: as, b :: bs, ha, hb, h => by
    obtain ⟨a1, a2⟩ := List.pairwise_cons.mp ha
    obtain ⟨b1, b2⟩ := List.pairwise_cons.mp hb
    have e : a = b := by
      have p1 := (h a).mp List.mem_cons_self
      have p2 := (h b).mpr List.mem_cons_self
      rcases List.mem_cons.mp p1 with z | z
      · exact z
      · rcases List.mem_cons.mp p2 with w | w
        · exact w.symm
        · have := b1 a z
          have := a1 b w
          omega
    subst e
    rw [iset_ext a2 b2 fun x => ?_]
    constructor
    · intro hx
      rcases List.mem_cons.mp ((h x).mp (List.mem_cons_of_mem _ hx)) with z | z
      · have := a1 x hx; omega
      · exact z
    · intro hx
      rcases List.mem_cons.mp ((h x).mpr (List.mem_cons_of_mem _ hx)) with z | z
      · have := b1 x hx; omega
      · exact z
section
variable {X : Cx} {W : Wd}
/-- set(xs), its order kept out of sight -/
def rSetA (w : World) (K : PySem.W.Frag) : List V → Hp → VK → Prop := fun xs H Q => ∃ (a : Addr) (ns : List Int), xs = [.ref a] ∧ (SqL K H a (ns.map V.int) ∨ SqT K H a (ns.map V.int)) ∧ ns.length ≤ 60 ∧ ∀ p c, H p = none → c ≤ ns.length → Q (.ref p) (upd H p (SetO w p (fun j => decide (j ∈ ns)) c))
theorem cr_setA (hc : X.calm = true) : CallR X (.type "set") (rSetA X.w X.K) := by
  intro pins s σ H xs us Q I rx ⟨a, ns, e, hq, hl, q⟩
  subst e
  obtain ⟨u, eu, ru⟩ := vals1 rx
  subst eu
  cases ru
  have hs : ns.length + 1 < scanBound := Nat.lt_of_le_of_lt (show ns.length + 1 ≤ 61 by omega) (by decide)
  rcases hq with hq | hq
  · obtain ⟨its, rv, pl, hz⟩ := I.list hq
    refine call_set_lstI ns (I.ok.hd hc) pl.isList (by simpa using intsAre_of rv) hs fun h' tk c hS hc' hk => ?_
    exact ⟨.ref s.heap.objs.size, _, I.laid (t' := tk) hk (Nat.le_refl _) (setO_new hS), rfl, q _ _ (I.hok.fresh (Nat.le_refl _)) hc'⟩
  · obtain ⟨its, rv, pl, hz⟩ := I.tuple hq
    refine call_set_tupI (items := its.toArray) ns (I.ok.hd hc) pl (by simpa using intsAre_of rv) hs fun h' tk c hS hc' hk => ?_
    exact ⟨.ref s.heap.objs.size, _, I.laid (t' := tk) hk (Nat.le_refl _) (setO_new hS), rfl, q _ _ (I.hok.fresh (Nat.le_refl _)) hc'⟩
/-- sorted(set(x)) -/
def eSS (m : EM) : EM := fun env st => match m env st with
  | some (d, s1) => match (seqA s1 d).bind intsOf with
    | some ns => if ns.length ≤ 60 then some (.lst ((iset ns).map .int), s1) else none
    | none => none
  | none => none
theorem ev_ss {m : EM} {env : Env} {st : Store} {Q : D → Store → Prop} : EvE (eSS m) env st Q ↔ EvE m env st fun d s1 => ∃ ns, (seqA s1 d).bind intsOf = some ns ∧ ns.length ≤ 60 ∧ Q (.lst ((iset ns).map .int)) s1 := by
  unfold EvE eSS
  constructor
  · rintro ⟨d, s, e, q⟩
    split at e
    · rename_i x s1 h
      split at e
      · rename_i ns h2
        split at e
        · rename_i hz
          cases e
          exact ⟨x, _, h, ns, h2, hz, q⟩
        · cases e
      · cases e
    · cases e
  · rintro ⟨x, s1, h, ns, h2, hz, q⟩
    refine ⟨_, _, ?_, q⟩
    rw [h]
    simp only [h2, if_pos hz]
theorem seq_ints {ι : Lay} {H : Hp} {st : Store} {d : D} {v : V} {ys : List D} {ns : List Int} (r : RelH W ι H st) (h : Rep W ι H d v) (e : seqA st d = some ys) (e2 : intsOf ys = some ns) : ∃ p, v = .ref p ∧ (SqL W.K H p (ns.map V.int) ∨ SqT W.K H p (ns.map V.int)) := by
  obtain ⟨p, ws, rfl, h1, h2⟩ := seqA_ok r h e
  rw [intsOf_eq e2] at h2
  rw [h2.ints] at h1
  exact ⟨p, rfl, h1⟩
theorem j_ss {p1 p2 pos1 pos2 : Pos} {e : Expr} {m : EM} (hg : Gl X "sorted") (hm : X.mg "sorted" = none) (hg2 : Gl X "set") (hm2 : X.mg "set" = none) (ha : PE X e (T W m)) (hc : X.calm = true := by rfl) (hK : X.K = W.K := by rfl)
    (he : starEach [e] X.env = (false, eval e X.env) :: starEach [] X.env := by rfl) (hpl : (backTo pos2 (starEach [] X.env)).any (·.1) = false := by rfl)
    (he2 : starEach [.Call (.Name "set" p2) [e] [] pos2] X.env = (false, eval (.Call (.Name "set" p2) [e] [] pos2) X.env) :: starEach [] X.env := by rfl) (hpl2 : (backTo pos1 (starEach [] X.env)).any (·.1) = false := by rfl) :
    PE X (.Call (.Name "sorted" p1) [.Call (.Name "set" p2) [e] [] pos2] [] pos1) (T W (eSS m)) := by
  have h1 := pe_callTy (p := p2) (cr_setA hc) hg2 hm2 PyProof.Rows.boot_set (pa_cons ha pa_nil he) (by decide) (by decide) he hpl
  refine (pe_callB (cr_sortedSet hc) hg hm (by rfl) (pa_cons h1 pa_nil he2) (by decide) (by decide) he2 hpl2).imp fun σ H Q ⟨ι, st, env, d, st', r, n, em, k⟩ => ?_
  unfold eSS at em
  split at em
  · rename_i x s1 e1
    split at em
    · rename_i ns e3
      split at em
      · rename_i hz
        cases em
        show T W m σ H _
        refine T.of r n e1 fun v ι1 H1 g1 r1 p1 => ?_
        rw [Option.bind_eq_some_iff] at e3
        obtain ⟨ys, e2, e3⟩ := e3
        obtain ⟨p, rfl, hp⟩ := seq_ints r1 p1 e2 e3
        refine ⟨p, ns, rfl, hK ▸ hp, hz, fun q c hq hcn => ?_⟩
        show rSortedSet X.w [V.ref q] (upd H1 q (SetO X.w q (fun j => decide (j ∈ ns)) c)) Q
        refine ⟨q, _, c, rfl, upd_same, by omega, fun ms p2 hpw hmm _ hp2 => ?_⟩
        have e5 : ms = iset ns := iset_ext hpw iset_pw fun x => by rw [hmm, iset_mem]; simp
        rw [e5]
        exact (k.go (g1.trans (Grow.laid hq))).lst (r1.laid hq) (Reps.map fun x _ => int_rep) hp2
      · cases em
    · cases em
  · cases em
end
end My

namespace My
open PySem PySem.Spec PyProof.Rows L2
/-! ### xs != (), xs == (): whatever the tuple holds -/
def tupA : D → Option (List D)
  | .tup xs => some xs
  | .tpf xs => some xs
  | _ => none
def dNeT0 (a b : D) (st : Store) : Option D := match tupA a, b with
  | some xs, .tup [] => some (.bl (!xs.isEmpty))
  | _, _ => none
def dEqT0 (a b : D) (st : Store) : Option D := match tupA a, b with
  | some xs, .tup [] => some (.bl xs.isEmpty)
  | _, _ => none
section
variable {X : Cx} {W : Wd} {ι : Lay} {H : Hp}
theorem tupA_ok {d : D} {xs : List D} {v : V} (e : tupA d = some xs) (h : Rep W ι H d v) : ∃ a vs, v = .ref a ∧ SqT W.K H a vs ∧ Reps W ι H xs vs := by
  unfold tupA at e
  split at e
  · cases e
    obtain ⟨a, vs, rfl, h1, h2⟩ := seqT_ok h (xs := xs) rfl
    exact ⟨a, vs, rfl, SqT.of h1, h2⟩
  · cases e
    obtain ⟨a, o, vs, rfl, _, _, h1, h2⟩ := tpf_ok h
    exact ⟨a, vs, rfl, h1, h2⟩
  · cases e
theorem jo_neT0 (hK : X.K = W.K) (hu : X.A.units + 65 < cLine) : OpR X (compareOp .NotEq) (M2 W dNeT0) := by
  intro pins s σ H x y v u Q I rx ry ⟨ι, st, a, b, d, r, ha, hb, e, k⟩
  unfold dNeT0 at e
  split at e
  · rename_i xs q
    cases e
    obtain ⟨p, us, rfl, h1, h2⟩ := tupA_ok q ha
    obtain ⟨p2, us2, rfl, h3, h4⟩ := seqT_ok hb (xs := []) rfl
    cases rx
    cases ry
    obtain ⟨its, rv, pl, hz⟩ := I.tuple (hK ▸ h1)
    obtain ⟨its2, rv2, pl2, hz2⟩ := I.tuple (SqT.of h3)
    have l2 : its2 = [] := by
      rw [h4.nil_of] at rv2
      cases rv2
      rfl
    subst l2
    have ll : xs.length = its.length := h2.length.trans rv.length
    have ok : ∀ c : Bool, c = !xs.isEmpty → EP X pins σ Q (.bool c) s := fun c hc => ⟨.bl c, H, I, rfl, hc ▸ k _ _ _ Grow.refl r bl_rep⟩
    refine SeqAt.RcNeAt.tuples (e := fun _ => true) pl pl2 (by omega) (fun j _ h => absurd h (Nat.not_lt_zero _)) _ _ _ _ (ok _ ?_)
    cases xs with
    | nil => cases its with
      | nil => rfl
      | cons _ _ => simp at ll
    | cons _ _ => cases its with
      | nil => simp at ll
      | cons _ _ => simp
  · cases e
theorem jo_eqT0 (hK : X.K = W.K) (hu : X.A.units + 65 < cLine) : OpR X (compareOp .Eq) (M2 W dEqT0) := by
  intro pins s σ H x y v u Q I rx ry ⟨ι, st, a, b, d, r, ha, hb, e, k⟩
  unfold dEqT0 at e
  split at e
  · rename_i xs q
    cases e
    obtain ⟨p, us, rfl, h1, h2⟩ := tupA_ok q ha
    obtain ⟨p2, us2, rfl, h3, h4⟩ := seqT_ok hb (xs := []) rfl
    cases rx
    cases ry
    obtain ⟨its, rv, pl, hz⟩ := I.tuple (hK ▸ h1)
    obtain ⟨its2, rv2, pl2, hz2⟩ := I.tuple (SqT.of h3)
    have l2 : its2 = [] := by
      rw [h4.nil_of] at rv2
      cases rv2
      rfl
    subst l2
    have ll : xs.length = its.length := h2.length.trans rv.length
    have ok : ∀ c : Bool, c = xs.isEmpty → EP X pins σ Q (.bool c) s := fun c hc => ⟨.bl c, H, I, rfl, hc ▸ k _ _ _ Grow.refl r bl_rep⟩
    refine SeqAt.RcAt.tuples (e := fun _ => true) pl pl2 (by omega) (fun j _ h => absurd h (Nat.not_lt_zero _)) _ _ _ _ (ok _ ?_)
    cases xs with
    | nil => cases its with
      | nil => rfl
      | cons _ _ => simp at ll
    | cons _ _ => cases its with
      | nil => simp at ll
      | cons _ _ => simp
  · cases e
end
theorem neT0_ev {a : D} {xs : List D} {st : Store} (h : tupA a = some xs) : dNeT0 a (.tup []) st = some (.bl (!xs.isEmpty)) := by
  unfold dNeT0
  rw [h]
theorem eqT0_ev {a : D} {xs : List D} {st : Store} (h : tupA a = some xs) : dEqT0 a (.tup []) st = some (.bl xs.isEmpty) := by
  unfold dEqT0
  rw [h]
/-! ### f(.., k = v, ..) of a function that has no defaults -/
theorem kw_fun {K : PySem.W.Frag} {x qual : Str} {st : Stmt} {f : Addr} {fd : FuncData} {ps : List Str} (F : Fun K x qual st f fd) (n : Nat) (ks : List Str) (g : {α : Type} → List α → List α → List α)
    (hrel : ∀ {vs zs : List V} {us ws : List Value}, Vals vs us → Vals zs ws → Vals (g vs zs) (g us ws))
    (h : ∀ (kV doc pm : Value) (an : Option Addr) (cdv ct : Value) (us ws : List Value), us.length = n → ws.length = ks.length →
      bindArgs (PySem.W.fnOf x qual (defArgs st) (defBody st) (defScope st) .none kV doc pm an cdv ct) ⟨us, ks.zip ws⟩ = pure (ps.zip (g us ws))) : KBn K fd ps n ks (fun us ws => g us ws) (fun vs zs => g vs zs) := by
  obtain ⟨oc, od, kV, doc, pm, an, cdv, ct, osl, rfl, lk, hcd⟩ := F.ex
  exact ⟨fun s us ws _ h1 h2 => .of_eq (h kV doc pm an cdv ct us ws h1 h2), fun r1 r2 => hrel r1 r2⟩
end My

namespace My
open PySem PySem.Spec PyProof.Rows L2
/-! values of any kind: how deep, how long they are when they are shown -/
mutual
def D.dep : D → Nat
  | .tup ds => D.deps ds + 1
  | .tpf ds => D.deps ds + 1
  | .lst ds => D.deps ds + 1
  | .dk _ ds => D.deps ds + 1
  | _ => 0
def D.deps : List D → Nat
  | [] => 0
  | d :: ds => max (D.dep d) (D.deps ds)
end
mutual
def D.sz : D → Nat
  | .non => 4
  | .bl _ => 5
  | .int _ => 62
  | .str z => 10 * z.length + 2
  | .tup ds => D.szs ds + 3
  | .tpf ds => D.szs ds + 3
  | .lst ds => D.szs ds + 3
  | .dk ks ds => 16 * ks.length + D.szs ds + 3
  | _ => 0
def D.szs : List D → Nat
  | [] => 0
  | d :: ds => D.sz d + 2 + D.szs ds
end
def OkZ (z : Str) : Prop := ∀ c ∈ z.cps.toList, c < 16 ^ 8
mutual
def D.good (B : Nat) : D → Prop
  | .non => True
  | .bl _ => True
  | .int i => i.natAbs ≤ 10 ^ 30 + B
  | .str z => OkZ z
  | .tup ds => D.goods B ds
  | .tpf _ => False
  | .lst ds => D.goods B ds
  | .dk ks ds => (∃ n, ks = List.replicate n (.inr "a")) ∧ ks.length = ds.length ∧ D.goods B ds
  | _ => False
def D.goods (B : Nat) : List D → Prop
  | [] => True
  | d :: ds => D.good B d ∧ D.goods B ds
end
theorem goods_iff {B : Nat} : ∀ {ds : List D}, D.goods B ds ↔ ∀ d ∈ ds, d.good B
  | [] => by simp [D.goods]
  | d :: ds => by simp only [D.goods, goods_iff (ds := ds), List.mem_cons, forall_eq_or_imp]
theorem deps_le {k : Nat} : ∀ {ds : List D}, D.deps ds ≤ k ↔ ∀ d ∈ ds, d.dep ≤ k
  | [] => by simp [D.deps]
  | d :: ds => by simp only [D.deps, Nat.max_le, deps_le (ds := ds), List.mem_cons, forall_eq_or_imp]
theorem szs_app : ∀ (xs ys : List D), D.szs (xs ++ ys) = D.szs xs + D.szs ys
  | [], ys => by simp [D.szs]
  | x :: xs, ys => by simp only [List.cons_append, D.szs, szs_app xs ys]; omega
theorem szs_rev (xs : List D) : D.szs xs.reverse = D.szs xs := by
  induction xs with
  | nil => rfl
  | cons x xs ih =>
    rw [List.reverse_cons, szs_app, ih]
    simp only [D.szs]
    omega
theorem szs_len : ∀ xs : List D, 2 * xs.length ≤ D.szs xs
  | [] => by simp [D.szs]
  | x :: xs => by
    have := szs_len xs
    simp only [D.szs, List.length_cons]; omega
theorem good_mono {B B' : Nat} (h : B ≤ B') : ∀ {d : D}, d.good B → d.good B' := by
  intro d
  exact D.rec (motive_1 := fun d => d.good B → d.good B') (motive_2 := fun ds => D.goods B ds → D.goods B' ds)
    (fun x => by simpa only [D.good] using x) (fun b x => by simpa only [D.good] using x) (fun i x => by simp only [D.good] at x ⊢; omega) (fun z x => by simpa only [D.good] using x)
    (fun _ x => by simp only [D.good] at x) (fun _ x => by simp only [D.good] at x)
    (fun ds ih x => by simp only [D.good] at x ⊢; exact ih x) (fun ds ih x => by simp only [D.good] at x) (fun ds ih x => by simp only [D.good] at x ⊢; exact ih x)
    (fun _ x => by simp only [D.good] at x) (fun ks ds ih x => by simp only [D.good] at x ⊢; exact ⟨x.1, x.2.1, ih x.2.2⟩) (fun _ _ _ x => by simp only [D.good] at x)
    (fun _ x => by simp only [D.good] at x) (fun _ _ _ _ x => by simp only [D.good] at x) (fun _ x => by simp only [D.good] at x)
    (fun _ => by simp only [D.goods]) (fun d ds h1 h2 x => by simp only [D.goods] at x ⊢; exact ⟨h1 x.1, h2 x.2⟩) d
theorem good_blw {B : Nat} : ∀ {d : D}, d.good B → d.blw 0 = true := by
  intro d
  exact D.rec (motive_1 := fun d => d.good B → d.blw 0 = true) (motive_2 := fun ds => D.goods B ds → D.blws 0 ds = true)
    (fun x => rfl) (fun b x => rfl) (fun i x => rfl) (fun z x => rfl)
    (fun _ x => rfl) (fun _ x => rfl)
    (fun ds ih x => by simp only [D.good] at x; exact blw_tup (ih x)) (fun ds ih x => by simp only [D.good] at x) (fun ds ih x => by simp only [D.good] at x; exact blw_lst (ih x))
    (fun _ x => rfl) (fun ks ds ih x => by simp only [D.good] at x; simp only [D.blw]; exact ih x.2.2) (fun _ _ _ x => by simp only [D.good] at x)
    (fun _ x => by simp only [D.good] at x) (fun _ _ _ _ x => by simp only [D.good] at x) (fun _ x => by simp only [D.good] at x)
    (fun _ => rfl) (fun d ds h1 h2 x => by simp only [D.goods] at x; simp only [D.blws, h1 x.1, h2 x.2, Bool.and_self]) d
/-- what is shown of it -/
def D.shw (d : D) : Str := match d.pyD with
  | some p => p.shown
  | none => ""
theorem join_szs : ∀ {ps : List PyData} {ds : List D}, ps.length = ds.length → (∀ (i : Nat) (p : PyData) (d : D), ps[i]? = some p → ds[i]? = some d → p.shown.length ≤ d.sz) → (Str.join ", " (PyData.shownAll ps)).length ≤ D.szs ds
  | [], [], _, _ => by rw [PyData.shownAll_nil]; exact Nat.zero_le _
  | [p], [d], _, h => by
    rw [PyData.shownAll_cons, PyData.shownAll_nil]
    show p.shown.length ≤ _
    have := h 0 p d rfl rfl
    simp only [D.szs]
    omega
  | p :: q :: ps, d :: e :: ds, hl, h => by
    have ih := join_szs (ps := q :: ps) (ds := e :: ds) (by simpa using hl) fun i p d h1 h2 => h (i + 1) p d (by simpa using h1) (by simpa using h2)
    have h0 := h 0 p d rfl rfl
    rw [PyData.shownAll_cons, PyData.shownAll_cons]
    rw [PyData.shownAll_cons] at ih
    show (p.shown ++ ", " ++ Str.join ", " (q.shown :: PyData.shownAll ps)).length ≤ _
    rw [strLen_append, strLen_append]
    have e2 : (", " : Str).length = 2 := by decide
    rw [e2]
    show _ ≤ d.sz + 2 + D.szs (e :: ds)
    omega
  | [], _ :: _, h, _ => by simp at h
  | _ :: _, [], h, _ => by simp at h
  | _ :: _ :: _, [_], h, _ => by simp at h
  | [_], _ :: _ :: _, h, _ => by simp at h
structure PyOk (d : D) (p : PyData) : Prop where
  py : d.pyD = some p
  sh : p.showable = true
  dp : p.depth ≤ d.dep
  ln : p.shown.length ≤ d.sz
inductive PyOks : List D → List PyData → Prop
  | nil : PyOks [] []
  | cons {d : D} {p : PyData} {ds : List D} {ps : List PyData} : PyOk d p → PyOks ds ps → PyOks (d :: ds) (p :: ps)
theorem PyOks.all : ∀ {ds : List D} {ps : List PyData}, PyOks ds ps → D.pyDs ds = some ps ∧ PyData.showableAll ps = true ∧ PyData.depthAll ps ≤ D.deps ds ∧ ps.length = ds.length ∧ (∀ (i : Nat) (p : PyData) (d : D), ps[i]? = some p → ds[i]? = some d → p.shown.length ≤ d.sz)
  | _, _, .nil => ⟨by simp only [D.pyDs], by simp only [PyData.showableAll], by simp [PyData.depthAll], rfl, fun i p d h => by simp at h⟩
  | _, _, .cons h t => by
    obtain ⟨h1, h2, h3, h4, h5⟩ := PyOks.all t
    refine ⟨by simp only [D.pyDs, h.py, h1, Option.map_some], by simp only [PyData.showableAll, h.sh, h2, Bool.and_self], ?_, by simp [h4], fun i p d e1 e2 => ?_⟩
    · have := h.dp
      simp only [PyData.depthAll, D.deps]
      omega
    · cases i with
      | zero => simp at e1 e2; subst e1 e2; exact h.ln
      | succ i => exact h5 i p d (by simpa using e1) (by simpa using e2)
theorem shownKv_rep (z : Str) : ∀ (n : Nat) (ps : List PyData), n = ps.length → PyData.shownKv ((List.replicate n (PyData.str z)).zip ps) = (PyData.shownAll ps).map fun t => reprText z ++ ": " ++ t
  | 0, [], _ => by simp [PyData.shownKv, PyData.shownAll]
  | n + 1, p :: ps, h => by
    simp only [List.replicate_succ, List.zip_cons_cons, PyData.shownKv, PyData.shownAll, List.map_cons, shownKv_rep z n ps (by simpa using h), PyData.shown]
  | 0, _ :: _, h => by simp at h
  | _ + 1, [], h => by simp at h
theorem join_add (z : Str) : ∀ ts : List Str, (Str.join ", " (ts.map fun t => z ++ t)).length ≤ z.length * ts.length + (Str.join ", " ts).length
  | [] => Nat.zero_le _
  | [t] => by
    show (z ++ t).length ≤ z.length * 1 + t.length
    rw [strLen_append]
    omega
  | t :: u :: ts => by
    have ih := join_add z (u :: ts)
    show (z ++ t ++ ", " ++ Str.join ", " ((u :: ts).map fun t => z ++ t)).length ≤ z.length * (ts.length + 1 + 1) + (t ++ ", " ++ Str.join ", " (u :: ts)).length
    rw [strLen_append, strLen_append, strLen_append, strLen_append, strLen_append, Nat.mul_succ]
    simp only [List.length_cons] at ih
    omega
theorem py_good {B : Nat} (hB : B ≤ 10 ^ 39) : ∀ {d : D}, d.good B → ∃ p, PyOk d p := by
  intro d
  have go : ∀ {ds : List D}, (D.goods B ds → ∃ ps, PyOks ds ps) → D.goods B ds → ∃ ps, PyOks ds ps := fun h x => h x
  refine D.rec (motive_1 := fun d => d.good B → ∃ p, PyOk d p) (motive_2 := fun ds => D.goods B ds → ∃ ps, PyOks ds ps)
    ?_ ?_ ?_ ?_ ?_ ?_ ?_ ?_ ?_ ?_ ?_ ?_ ?_ ?_ ?_ ?_ ?_ d
  · exact fun _ => ⟨.none, by simp only [D.pyD], by simp only [PyData.showable], by simp [PyData.depth], by rw [PyData.shown_none]; decide⟩
  · exact fun b _ => ⟨.bool b, by simp only [D.pyD], by simp only [PyData.showable], by simp [PyData.depth], by rw [PyData.shown_bool]; cases b <;> decide⟩
  · intro i x
    simp only [D.good] at x
    have t := Tx.int (i := i) (n := 60) (by decide) (by decide) (by
      have : 10 ^ 30 + 10 ^ 39 < 10 ^ 60 := by decide
      omega)
    exact ⟨.int i, by simp only [D.pyD], t.sh, t.dp, Nat.le_trans t.ln (by simp only [D.sz]; decide)⟩
  · intro z x
    simp only [D.good] at x
    have t := Tx.str x
    exact ⟨.str z, by simp only [D.pyD], t.sh, t.dp, t.ln⟩
  · exact fun _ x => by simp only [D.good] at x
  · exact fun _ x => by simp only [D.good] at x
  · intro ds ih x
    simp only [D.good] at x
    obtain ⟨ps, q⟩ := ih x
    obtain ⟨h1, h2, h3, h4, h5⟩ := q.all
    have h6 := join_szs h4 h5
    refine ⟨.tuple ps, by simp only [D.pyD, h1, Option.map_some], by simp only [PyData.showable, h2], by simp only [PyData.depth, D.dep]; omega, ?_⟩
    rw [PyData.shown_tuple, strLen_append, strLen_append]
    have e1 : ("(" : Str).length = 1 := by decide
    have e2 : ((if ps.length == 1 then ",)" else ")" : String) : Str).length ≤ 2 := by split <;> decide
    simp only [D.sz]
    omega
  · exact fun _ _ x => by simp only [D.good] at x
  · intro ds ih x
    simp only [D.good] at x
    obtain ⟨ps, q⟩ := ih x
    obtain ⟨h1, h2, h3, h4, h5⟩ := q.all
    have h6 := join_szs h4 h5
    refine ⟨.list ps, by simp only [D.pyD, h1, Option.map_some], by simp only [PyData.showable, h2], by simp only [PyData.depth, D.dep]; omega, ?_⟩
    rw [PyData.shown_list, strLen_append, strLen_append]
    have e1 : ("[" : Str).length = 1 := by decide
    have e2 : ("]" : Str).length = 1 := by decide
    simp only [D.sz]
    omega
  · exact fun _ x => by simp only [D.good] at x
  · intro ks ds ih x
    simp only [D.good] at x
    obtain ⟨⟨n, rfl⟩, x2, x3⟩ := x
    obtain ⟨ps, q⟩ := ih x3
    obtain ⟨h1, h2, h3, h4, h5⟩ := q.all
    have h6 := join_szs h4 h5
    have hk : (List.replicate n (Sum.inr "a" : Key)).map keyD = List.replicate n (PyData.str "a") := by rw [List.map_replicate]; rfl
    have hn : n = ps.length := by rw [h4, ← x2, List.length_replicate]
    refine ⟨.dict ((List.replicate n (PyData.str "a")).zip ps), by simp only [D.pyD, h1, Option.map_some, hk], ?_, ?_, ?_⟩
    · simp only [PyData.showable]
      refine PySem.Spec.showableKv_of fun p hp => ?_
      obtain ⟨p1, p2⟩ := p
      have m := List.of_mem_zip hp
      rw [List.mem_replicate] at m
      refine ⟨by rw [m.1.2]; simp only [PyData.showable], (showableAll_iff ps).mp h2 _ m.2⟩
    · simp only [PyData.depth, D.dep]
      have : ∀ (n : Nat) (ps : List PyData), PyData.depthKv ((List.replicate n (PyData.str "a")).zip ps) ≤ PyData.depthAll ps := by
        intro n
        induction n with
        | zero => intro ps; simp [PyData.depthKv]
        | succ n ih =>
          intro ps
          cases ps with
          | nil => simp [PyData.depthKv]
          | cons p ps =>
            have := ih ps
            simp only [List.replicate_succ, List.zip_cons_cons, PyData.depthKv, PyData.depthAll, PyData.depth]
            omega
      have := this n ps
      omega
    · rw [PyData.shown_dict, shownKv_rep _ _ _ hn, strLen_append, strLen_append]
      have e1 : ("{" : Str).length = 1 := by decide
      have e2 : ("}" : Str).length = 1 := by decide
      have e3 : (reprText "a" ++ ": ").length = 5 := by decide +kernel
      have h7 := join_add (reprText "a" ++ ": ") (PyData.shownAll ps)
      rw [e3, PyData.shownAll_length, ← hn] at h7
      simp only [D.sz, List.length_replicate]
      omega
  · exact fun _ _ _ x => by simp only [D.good] at x
  · exact fun _ x => by simp only [D.good] at x
  · exact fun _ _ _ _ x => by simp only [D.good] at x
  · exact fun _ x => by simp only [D.good] at x
  · exact fun _ => ⟨[], .nil⟩
  · intro d ds h1 h2 x
    simp only [D.goods] at x
    obtain ⟨p, hp⟩ := h1 x.1
    obtain ⟨ps, hps⟩ := h2 x.2
    exact ⟨p :: ps, .cons hp hps⟩
theorem ev_reprD {B : Nat} {d : D} {st : Store} {Q : D → Store → Prop} (h : d.good B) (hB : B ≤ 10 ^ 39) (hk : d.dep ≤ 60) (hz : d.sz ≤ 16777216) (q : Q (.str d.shw) st) : EvF fReprD [d] st Q := by
  obtain ⟨p, h1, h2, h3, h4⟩ := py_good hB h
  refine ⟨.str p.shown, st, ?_, ?_⟩
  · show (fReprD [d] st) = _
    simp only [fReprD, ro, h1]
    rw [if_pos ⟨h2, by omega, by omega⟩]
    rfl
  · unfold D.shw at q
    rw [h1] at q
    exact q
theorem AnyT.good {k : Nat} {d : D} (h : AnyT k d) : d.good 0 ∧ d.dep ≤ k + 1 ∧ d.sz ≤ 70 * 3 ^ k := by
  have p3 : ∀ k : Nat, 1 ≤ 3 ^ k := fun k => Nat.one_le_pow _ _ (by decide)
  have hs : ∀ k : Nat, 3 ^ (k + 1) = 3 * 3 ^ k := fun k => by rw [Nat.pow_succ]; omega
  induction h with
  | non => rename_i k; have := p3 k; simp only [D.good, D.dep, D.sz, true_and]; omega
  | bl b => rename_i k; have := p3 k; simp only [D.good, D.dep, D.sz, true_and]; omega
  | int i h => rename_i k; have := p3 k; simp only [D.good, D.dep, D.sz]; omega
  | str z h =>
    rename_i k
    have := p3 k
    have h1 := h.1
    refine ⟨?_, by simp only [D.dep]; omega, by simp only [D.sz]; omega⟩
    simp only [D.good]
    exact fun c hc => Nat.lt_trans (h.2 c hc).2 (by decide)
  | tup0 => rename_i k; have := p3 k; simp only [D.good, D.goods, D.dep, D.deps, D.sz, D.szs, true_and]; omega
  | lst0 => rename_i k; have := p3 k; simp only [D.good, D.goods, D.dep, D.deps, D.sz, D.szs, true_and]; omega
  | dk0 => rename_i k; have := p3 k; refine ⟨?_, by simp only [D.dep, D.deps]; omega, by simp only [D.sz, D.szs, List.length_nil]; omega⟩; simp only [D.good, D.goods]; exact ⟨⟨0, rfl⟩, rfl, trivial⟩
  | tup1 h ih => rename_i k d; have := p3 k; have := hs k; obtain ⟨i1, i2, i3⟩ := ih; refine ⟨by simp only [D.good, D.goods]; exact ⟨i1, trivial⟩, by simp only [D.dep, D.deps]; omega, by simp only [D.sz, D.szs]; omega⟩
  | lst1 h ih => rename_i k d; have := p3 k; have := hs k; obtain ⟨i1, i2, i3⟩ := ih; refine ⟨by simp only [D.good, D.goods]; exact ⟨i1, trivial⟩, by simp only [D.dep, D.deps]; omega, by simp only [D.sz, D.szs]; omega⟩
  | dk1 h ih => rename_i k d; have := p3 k; have := hs k; obtain ⟨i1, i2, i3⟩ := ih; refine ⟨by simp only [D.good, D.goods]; exact ⟨⟨1, rfl⟩, rfl, i1, trivial⟩, by simp only [D.dep, D.deps]; omega, by simp only [D.sz, D.szs, List.length_cons, List.length_nil]; omega⟩
  | tup2 h h2 ih ih2 =>
    rename_i k d e
    have := p3 k
    have := hs k
    obtain ⟨i1, i2, i3⟩ := ih
    obtain ⟨j1, j2, j3⟩ := ih2
    refine ⟨by simp only [D.good, D.goods]; exact ⟨i1, j1, trivial⟩, by simp only [D.dep, D.deps]; omega, by simp only [D.sz, D.szs]; omega⟩
end My

namespace My
open PySem L2

/-! ### totals of files that begin with a line -/
def Reach (ls : List Int) (x t : Int) : Prop := ∃ zs : List Int, (∀ z ∈ zs, z ∈ ls) ∧ t = x + zs.sum
theorem Reach.self {ls : List Int} {x : Int} : Reach ls x x := ⟨[], fun _ h => absurd h (by simp), by simp⟩
theorem Reach.add {ls : List Int} {x t l : Int} (h : Reach ls x t) (hl : l ∈ ls) : Reach ls x (t + l) := by
  obtain ⟨zs, h1, rfl⟩ := h
  refine ⟨l :: zs, fun z hz => ?_, by rw [List.sum_cons]; omega⟩
  rcases List.mem_cons.mp hz with rfl | hz
  · exact hl
  · exact h1 z hz
theorem Reach.last {ls : List Int} {x t : Int} (h : Reach ls x t) (n : t ≠ x) : ∃ l, l ∈ ls ∧ Reach ls x (t - l) := by
  obtain ⟨zs, h1, rfl⟩ := h
  cases zs with
  | nil => exact absurd (by simp) n
  | cons l zs =>
    refine ⟨l, h1 l List.mem_cons_self, zs, fun z hz => h1 z (List.mem_cons_of_mem _ hz), ?_⟩
    rw [List.sum_cons]
    omega
theorem sum_nn : ∀ {zs : List Int}, (∀ z ∈ zs, 1 ≤ z) → 0 ≤ zs.sum
  | [], _ => by simp
  | z :: zs, h => by
    have h1 := h z List.mem_cons_self
    have h2 := sum_nn (zs := zs) fun y hy => h y (List.mem_cons_of_mem _ hy)
    rw [List.sum_cons]
    omega
theorem Reach.ge {ls : List Int} {x t : Int} (hp : ∀ l ∈ ls, 1 ≤ l) (h : Reach ls x t) : x ≤ t := by
  obtain ⟨zs, h1, rfl⟩ := h
  have := sum_nn fun z hz => hp z (h1 z hz)
  omega
theorem Reach.iff {ls : List Int} {x t : Int} (n : t ≠ x) : Reach ls x t ↔ ∃ l, l ∈ ls ∧ Reach ls x (t - l) := by
  constructor
  · exact fun h => h.last n
  · rintro ⟨l, hl, h⟩
    have := h.add hl
    rw [Int.sub_add_cancel] at this
    exact this

/-! ### a list by a function of the place -/
def ov : Option Int → V
  | some i => .int i
  | none => .non
def tab (n : Nat) (g : Nat → Option Int) : List V := (List.range n).map fun i => ov (g i)
theorem tab_len (n : Nat) (g : Nat → Option Int) : (tab n g).length = n := by simp [tab]
theorem tab_at {n : Nat} {g : Nat → Option Int} {i : Int} (h0 : 0 ≤ i) (h1 : i < n) : atI (tab n g) i = some (ov (g i.toNat)) := by
  obtain ⟨k, rfl⟩ : ∃ k : Nat, i = k := ⟨i.toNat, by omega⟩
  refine atI_nat ?_
  unfold tab
  rw [List.getElem?_map, List.getElem?_range (by omega)]
  rfl
def put {α : Type} (g : Nat → α) (k : Nat) (v : α) : Nat → α := fun i => if i = k then v else g i
theorem put_same {α : Type} {g : Nat → α} {k : Nat} {v : α} : put g k v k = v := if_pos rfl
theorem put_ne {α : Type} {g : Nat → α} {k i : Nat} {v : α} (h : i ≠ k) : put g k v i = g i := if_neg h
theorem tab_set {n : Nat} {g : Nat → Option Int} {k : Nat} {l : Int} : (tab n g).set k (.int l) = tab n (put g k (some l)) := by
  apply List.ext_getElem?
  intro i
  unfold tab
  by_cases hi : i < n
  · by_cases e : k = i
    · subst e
      rw [List.getElem?_set_self (by simpa using hi), List.getElem?_map, List.getElem?_range hi]
      show _ = some (ov (put g k (some l) k))
      rw [put_same]
      rfl
    · rw [List.getElem?_set_ne e, List.getElem?_map, List.getElem?_map, List.getElem?_range hi]
      show some (ov (g i)) = some (ov (put g k (some l) i))
      rw [put_ne (Ne.symm e)]
  · rw [List.getElem?_eq_none (by simp; omega), List.getElem?_eq_none (by simp; omega)]
theorem tab_new (n : Nat) : (List.replicate n [V.non]).flatten = tab n fun _ => none := by
  apply List.ext_getElem?
  intro i
  have e : (List.replicate n [V.non]).flatten = List.replicate n V.non := by
    induction n with
    | zero => rfl
    | succ n ih => rw [List.replicate_succ, List.flatten_cons, ih, List.replicate_succ]; rfl
  rw [e]
  unfold tab
  by_cases hi : i < n
  · rw [List.getElem?_replicate, if_pos hi, List.getElem?_map, List.getElem?_range hi]
    rfl
  · rw [List.getElem?_eq_none (by simp; omega), List.getElem?_eq_none (by simp; omega)]
theorem ixN_in {n : Nat} {i : Int} (h0 : 0 ≤ i) (h1 : i < n) : ixN n i = some i.toNat := by
  unfold ixN
  rw [if_pos h0, if_pos h1]

/-- what last_lines finds: for each total the last line -/
def LastOk (ls : List Int) (x : Int) (g : Nat → Option Int) (t : Nat) : Prop :=
  ((g t).isSome = true ↔ Reach ls x t) ∧ ∀ l, g t = some l → l ∈ ls ∧ ((t : Int) = x ∨ Reach ls x (t - l))
def Lasts (S : Int) (ls : List Int) (x : Int) (g : Nat → Option Int) : Prop := ∀ t : Nat, (t : Int) ≤ S → LastOk ls x g t

/-- the totals of turns, in ascending order -/
def Totals (S : Int) (ls : List Int) (x y : Int) (ts : List Int) : Prop := ts.Pairwise (· < ·) ∧ ∀ t, t ∈ ts ↔ (S - y < t ∧ t ≤ S ∧ Reach ls x t)
theorem asc_ext : ∀ {xs ys : List Int}, xs.Pairwise (· < ·) → ys.Pairwise (· < ·) → (∀ t, t ∈ xs ↔ t ∈ ys) → xs = ys
  | [], [], _, _, _ => rfl
  | [], y :: ys, _, _, h => absurd ((h y).mpr List.mem_cons_self) (by simp)
  | x :: xs, [], _, _, h => absurd ((h x).mp List.mem_cons_self) (by simp)
  | x :: xs, y :: ys, hx, hy, h => by
    obtain ⟨hx1, hx2⟩ := List.pairwise_cons.mp hx
    obtain ⟨hy1, hy2⟩ := List.pairwise_cons.mp hy
    have e : x = y := by
      rcases List.mem_cons.mp ((h x).mp List.mem_cons_self) with e | e
      · exact e
      · rcases List.mem_cons.mp ((h y).mpr List.mem_cons_self) with e2 | e2
        · exact e2.symm
        · have a := hy1 x e
          have b := hx1 y e2
          omega
    subst e
    congr 1
    refine asc_ext hx2 hy2 fun t => ?_
    constructor
    · intro ht
      rcases List.mem_cons.mp ((h t).mp (List.mem_cons_of_mem _ ht)) with e | e
      · have := hx1 t ht
        omega
      · exact e
    · intro ht
      rcases List.mem_cons.mp ((h t).mpr (List.mem_cons_of_mem _ ht)) with e | e
      · have := hy1 t ht
        omega
      · exact e
theorem Totals.uniq {S x y : Int} {ls ts us : List Int} (h1 : Totals S ls x y ts) (h2 : Totals S ls x y us) : ts = us :=
  asc_ext h1.1 h2.1 fun t => (h1.2 t).trans (h2.2 t).symm
/-- there always is one -/
theorem turn_there {S : Int} {ls : List Int} {x y : Int} (hx : x ≤ S) (hy : y ∈ ls) (y1 : 1 ≤ y) : ∃ t, S - y < t ∧ t ≤ S ∧ Reach ls x t := by
  have : ∀ n : Nat, ∀ t : Int, (S - t).toNat = n → t ≤ S → Reach ls x t → ∃ t, S - y < t ∧ t ≤ S ∧ Reach ls x t := by
    intro n
    induction n using Nat.strongRecOn with
    | _ n ih =>
      intro t e ht h
      by_cases q : S - y < t
      · exact ⟨t, q, ht, h⟩
      · exact ih (S - (t + y)).toNat (by omega) (t + y) rfl (by omega) (h.add hy)
  exact this _ x rfl hx Reach.self
theorem Totals.ne {S x y : Int} {ls ts : List Int} (h : Totals S ls x y ts) (hx : x ≤ S) (hy : y ∈ ls) (y1 : 1 ≤ y) : ts ≠ [] := by
  obtain ⟨t, h1, h2, h3⟩ := turn_there hx hy y1
  exact List.ne_nil_of_mem ((h.2 t).mpr ⟨h1, h2, h3⟩)
/-- the least fill of a turn -/
structure Least (S : Int) (ls : List Int) (x y c : Int) : Prop where
  lo : S - y < c
  hi : c ≤ S
  re : Reach ls x c
  le : ∀ t, S - y < t → t ≤ S → Reach ls x t → c ≤ t
structure Greatest (S : Int) (ls : List Int) (x y c : Int) : Prop where
  lo : S - y < c
  hi : c ≤ S
  re : Reach ls x c
  le : ∀ t, S - y < t → t ≤ S → Reach ls x t → t ≤ c
theorem Least.uniq {S x y c d : Int} {ls : List Int} (h : Least S ls x y c) (h2 : Least S ls x y d) : c = d := by
  have a := h.le d h2.lo h2.hi h2.re
  have b := h2.le c h.lo h.hi h.re
  omega
theorem Greatest.uniq {S x y c d : Int} {ls : List Int} (h : Greatest S ls x y c) (h2 : Greatest S ls x y d) : c = d := by
  have a := h.le d h2.lo h2.hi h2.re
  have b := h2.le c h.lo h.hi h.re
  omega
theorem Totals.first {S x y : Int} {ls ts : List Int} (h : Totals S ls x y ts) (n : ts ≠ []) : ∃ c, atI (ts.map V.int) 0 = some (.int c) ∧ Least S ls x y c ∧ ts[0]? = some c := by
  cases ts with
  | nil => exact absurd rfl n
  | cons c ts =>
    obtain ⟨a1, a2, a3⟩ := (h.2 c).mp List.mem_cons_self
    refine ⟨c, atI_nat (j := 0) rfl, ⟨a1, a2, a3, fun t b1 b2 b3 => ?_⟩, rfl⟩
    rcases List.mem_cons.mp ((h.2 t).mpr ⟨b1, b2, b3⟩) with rfl | e
    · exact Int.le_refl _
    · exact Int.le_of_lt ((List.pairwise_cons.mp h.1).1 t e)
theorem Totals.last {S x y : Int} {ls ts : List Int} (h : Totals S ls x y ts) (n : ts ≠ []) : ∃ c, atI (ts.map V.int) (-1) = some (.int c) ∧ Greatest S ls x y c ∧ ts.getLast? = some c := by
  obtain ⟨init, c, rfl⟩ : ∃ init c, ts = init ++ [c] := ⟨ts.dropLast, ts.getLast n, (List.dropLast_concat_getLast n).symm⟩
  obtain ⟨a1, a2, a3⟩ := (h.2 c).mp (by simp)
  refine ⟨c, by rw [List.map_append]; exact atI_last _ _, ⟨a1, a2, a3, fun t b1 b2 b3 => ?_⟩, by simp⟩
  rcases List.mem_append.mp ((h.2 t).mpr ⟨b1, b2, b3⟩) with e | e
  · exact Int.le_of_lt ((List.pairwise_append.mp h.1).2.2 t e c (by simp))
  · have : t = c := by simpa using e
    omega

/-! ### promises -/
def sp_last_lines : Sp := fun vs H Q _ => ∃ (p : Addr) (S : Int) (ls : List Int) (x : Int), vs = [.ref p, .int x] ∧ BookAt H p S ls ∧ Rules S ls ∧ x ∈ ls ∧
  ∀ (l : Addr) (g : Nat → Option Int) (H' : Hp), Lasts S ls x g → H l = none → H' l = some (.lst (tab (S + 1).toNat g)) → Same H H' → Q (.ref l) H'
def sp_totals_for : Sp := fun vs H Q _ => ∃ (l : Addr) (S : Int) (ls : List Int) (x y : Int) (g : Nat → Option Int), vs = [.ref l, .int y] ∧ H l = some (.lst (tab (S + 1).toNat g)) ∧ Lasts S ls x g ∧ Rules S ls ∧ 1 ≤ y ∧ y ≤ S ∧
  ∀ (r : Addr) (ts : List Int) (H' : Hp), Totals S ls x y ts → H r = none → H' r = some (.lst (ts.map V.int)) → Same H H' → Q (.ref r) H'
def sp_total (G : Int → List Int → Int → Int → Int → Prop) : Sp := fun vs H Q _ => ∃ (p : Addr) (S : Int) (ls : List Int) (x y : Int), vs = [.ref p, .int x, .int y] ∧ BookAt H p S ls ∧ Rules S ls ∧ x ∈ ls ∧ y ∈ ls ∧
  ∀ (c : Int) (H' : Hp), G S ls x y c → Same H H' → Q (.int c) H'
def sp_least_file : Sp := fun vs H Q _ => ∃ (p : Addr) (S : Int) (ls : List Int) (x y : Int), vs = [.ref p, .int x, .int y] ∧ BookAt H p S ls ∧ Rules S ls ∧ x ∈ ls ∧ y ∈ ls ∧
  ∀ (t : Addr) (zs : List Int) (H' : Hp), (∀ z ∈ zs, z ∈ ls) → Least S ls x y (x + zs.sum) → H t = none → H' t = some (.tup ((x :: zs).map V.int)) → Same H H' → Q (.ref t) H'
/-- the rows of turns, in the order of the pairs -/
def TurnRow (S : Int) (ls : List Int) (x y : Int) (r : List Int) : Prop := ∃ lo hi, r = [x, y, lo, hi] ∧ Least S ls x y lo ∧ Greatest S ls x y hi
/-- a row of tuples of ints -/
def RowsAt (H : Hp) : List V → List (List Int) → Prop := Paired fun v r => ∃ a, v = .ref a ∧ H a = some (.tup (r.map V.int))
theorem RowsAt.same {H H' : Hp} {vs : List V} {rs : List (List Int)} (h : RowsAt H vs rs) (s : Same H H') : RowsAt H' vs rs :=
  Paired.mapP h fun v r ⟨a, e, h1⟩ => ⟨a, e, s _ _ h1⟩
theorem Paired.snoc {α β : Type} {R : α → β → Prop} : ∀ {xs : List α} {ys : List β} {x : α} {y : β}, Paired R xs ys → R x y → Paired R (xs ++ [x]) (ys ++ [y])
  | _, _, _, _, .nil, r => .cons r .nil
  | _, _, _, _, .cons q t, r => .cons q (Paired.snoc t r)
theorem RowsAt.dp {K : PySem.W.Frag} {H : Hp} : ∀ {vs : List V} {rs : List (List Int)}, RowsAt H vs rs → DpAll K H vs (rs.map fun r => .tuple (r.map PyData.int))
  | _, _, .nil => .nil
  | _, _, .cons ⟨a, e, h⟩ t => by
    subst e
    exact .cons (.tup (SqT.of h) (dp_ints _)) (RowsAt.dp t)
/-- all pairs, in order -/
def TurnsOf (S : Int) (ls : List Int) (rs : List (List Int)) : Prop := Paired (fun (p : Int × Int) r => TurnRow S ls p.1 p.2 r) (ls.flatMap fun x => ls.map fun y => (x, y)) rs
def sp_turns : Sp := fun vs H Q _ => ∃ (p : Addr) (S : Int) (ls : List Int), vs = [.ref p] ∧ BookAt H p S ls ∧ Rules S ls ∧
  ∀ (t : Addr) (xs : List V) (rs : List (List Int)) (H' : Hp), H' t = some (.tup xs) → RowsAt H' xs rs → TurnsOf S ls rs → Same H H' → Q (.ref t) H'
/-- the law's own totals -/
def sp_Ltotals : Sp := fun vs H Q _ => ∃ (p : Addr) (S : Int) (ls : List Int) (x y : Int), vs = [.ref p, .int x, .int y] ∧ BookAt H p S ls ∧ Rules S ls ∧ x ∈ ls ∧ y ∈ ls ∧
  ∀ (r : Addr) (ts : List Int) (H' : Hp), Totals S ls x y ts → H r = none → H' r = some (.lst (ts.map V.int)) → Same H H' → Q (.ref r) H'
theorem turnsOf_uniq {S : Int} {ls : List Int} : ∀ {ps : List (Int × Int)} {rs us : List (List Int)}, Paired (fun (p : Int × Int) r => TurnRow S ls p.1 p.2 r) ps rs → Paired (fun (p : Int × Int) r => TurnRow S ls p.1 p.2 r) ps us → rs = us
  | _, _, _, .nil, .nil => rfl
  | _, _, _, .cons ⟨a, b, e1, l1, g1⟩ t1, .cons ⟨c, d, e2, l2, g2⟩ t2 => by
    rw [e1, e2, l1.uniq l2, g1.uniq g2, turnsOf_uniq t1 t2]

def tabB (n : Nat) (g : Nat → Bool) : List V := (List.range n).map fun i => V.bl (g i)
theorem tabB_len (n : Nat) (g : Nat → Bool) : (tabB n g).length = n := by simp [tabB]
theorem tabB_at {n : Nat} {g : Nat → Bool} {i : Int} (h0 : 0 ≤ i) (h1 : i < n) : atI (tabB n g) i = some (.bl (g i.toNat)) := by
  obtain ⟨k, rfl⟩ : ∃ k : Nat, i = k := ⟨i.toNat, by omega⟩
  refine atI_nat ?_
  unfold tabB
  rw [List.getElem?_map, List.getElem?_range (by omega)]
  rfl
theorem tabB_set {n : Nat} {g : Nat → Bool} {k : Nat} {l : Bool} : (tabB n g).set k (.bl l) = tabB n (put g k l) := by
  apply List.ext_getElem?
  intro i
  unfold tabB
  by_cases hi : i < n
  · by_cases e : k = i
    · subst e
      rw [List.getElem?_set_self (by simpa using hi), List.getElem?_map, List.getElem?_range hi]
      show _ = some (V.bl (put g k l k))
      rw [put_same]
    · rw [List.getElem?_set_ne e, List.getElem?_map, List.getElem?_map, List.getElem?_range hi]
      show some (V.bl (g i)) = some (V.bl (put g k l i))
      rw [put_ne (Ne.symm e)]
  · rw [List.getElem?_eq_none (by simp; omega), List.getElem?_eq_none (by simp; omega)]
end My

namespace My
open PySem PySem.Spec PyProof.Rows L2
local macro_rules | `(tactic| walk_at "ev") => `(tactic| try simp only [ev_var, ev_c, ev_un, ev_op, ev_nil, ev_cons, ev_call, ev_callD, ev_callN, ev_callK, ev_opM, ev_lcM, ev_tup, ev_lst, ev_lstM, ev_dkM, ev_dtM, ev_bE, ev_bAnd, ev_bOr, ev_bNot, ev_bYes, ev_eAnd, ev_eOr, ev_eNot, ev_if, ev_chain, ev_oNone, ev_oSome, ev_sl, ev_bm, ev_skip, ev_brk, ev_cnt, ev_seq, then_nx, then_rt, then_bk, then_ct, ev_set, ev_asg, ev_par, ev_par3, ev_ret, ev_drop, ev_sIf, ev_aug, ev_sub, ev_seqI, ev_fld, ev_fldM, ev_meth, ev_new, ev_newK, ev_enum, ev_zip, ev_range1, ev_range2, ev_for, ev_lc, enter, gNm, gsNil, gsCons, gTp, wipeE,
  List.map_cons, List.map_nil, List.length_cons, List.length_nil, List.replicate, List.cons_append, List.nil_append, List.append_nil, List.getElem?_cons_zero, List.getElem?_cons_succ, List.set_cons_zero, List.set_cons_succ, Option.some.injEq, exists_eq_left', exists_eq_left, D.bl.injEq, D.int.injEq, D.str.injEq, D.tup.injEq, D.lst.injEq, D.ref.injEq, decide_eq_true_eq, List.cons.injEq, and_true, true_and, if_true, if_false, reduceCtorEq, Bool.false_eq_true, ite_true, ite_false, Nat.sub_self, Nat.reduceAdd, Nat.reduceSub, Nat.zero_add, exists_and_left, exists_const, Bool.not_true, Bool.not_false, Bool.not_eq_true', exists_eq_right, and_assoc, List.length_set, exists_eq_right',
  add_int, addI_int, sub_int, neg_int, lt_int, le_int, gt_int, ge_int, eq_int, ne_int, eq_str, ne_str, eq_bl, ne_bl, eq_is, eq_si, ne_is, ne_si, is_nn, ix_tup, ix_lst, ix_scr, at_0, at_1, at_2, at_3, len_tup, len_lst, len_scr, outF, outK, ev_len_tup, ev_len_lst, ev_len_scr, ev_abs, ev_int, ev_intb, ev_max2, ev_min2, ev_tuple_lst, ev_tuple_tup, ev_list_lst, ev_list_tup, sz0, sz1, sz2, sz3, sz4, sz5, sz6, sz7, sz8, sz9, sz10, sz11, sz12, s_rl, s_lr, atI_last, decide_false, decide_true, Bool.or_false, Bool.false_or])
local macro_rules | `(tactic| walk_at "st") => `(tactic| try simp only [List.append_assoc, List.cons_append, List.nil_append, List.length_append, List.length_cons, List.length_nil, Nat.reduceAdd, Nat.add_assoc])
/- last_lines: 0:rules, 1:first, 2:size, 3:lengths, 4:found, 5:total, 6:length -/
noncomputable def mb_last_lines : SM :=
(sSeq (sAsg (eVar 0) (gTp 2 (gsCons (gNm 2) (gsCons (gNm 3) gsNil))))
(sSeq (sSet 4 (eOpM dRpt (eLstM (aCons (eC .non) aNil)) (eOp dAdd (eVar 2) (eC (.int 1)))))
(sSeq (sSub dPut (eVar 4) (eVar 1) (eVar 1))
(sSeq (sFor (iRange2 (eOp dAdd (eVar 1) (eC (.int 1))) (eOp dAdd (eVar 2) (eC (.int 1)))) (gNm 5)
(sFor (iSeq (eVar 3)) (gNm 6)
(sIf (bAnd (bE (eOp dLe (eVar 6) (eVar 5))) (bE (eOp dIsNot (eOp dIx (eVar 4) (eOp dSub (eVar 5) (eVar 6))) (eC .non))))
(sSub dPut (eVar 4) (eVar 5) (eVar 6))
sSkip)))
(sRet (eVar 4))))))
noncomputable def mf_last_lines : FM := mkF 7 mb_last_lines

/- totals_for: 0:lasts, 1:later, 2:size, 3:total -/
noncomputable def mb_totals_for : SM :=
(sSeq (sSet 2 (eOp dSub (eCall fLen (aCons (eVar 0) aNil)) (eC (.int 1))))
(sRet (eLc (iRange2 (eOp dAdd (eOp dSub (eVar 2) (eVar 1)) (eC (.int 1))) (eOp dAdd (eVar 2) (eC (.int 1)))) (gNm 3) (bE (eOp dIsNot (eOp dIx (eVar 0) (eVar 3)) (eC .non))) (eVar 3) [3])))
noncomputable def mf_totals_for : FM := mkF 4 mb_totals_for

/- turns: 0:rules, 1:found, 2:first, 3:lasts, 4:later, 5:totals -/
noncomputable def mb_turns : SM :=
(sSeq (sSet 1 (eLstM aNil))
(sSeq (sFor (iSeq (eOp dIx (eVar 0) (eC (.int 1)))) (gNm 2)
(sSeq (sSet 3 (eCallD 2 mf_last_lines [] (aCons (eVar 0) (aCons (eVar 2) aNil))))
(sFor (iSeq (eOp dIx (eVar 0) (eC (.int 1)))) (gNm 4)
(sSeq (sSet 5 (eCallD 2 mf_totals_for [] (aCons (eVar 3) (aCons (eVar 4) aNil))))
(sDrop (eBM "list" mAppend (eVar 1) (aCons (eTup (aCons (eVar 2) (aCons (eVar 4) (aCons (eOp dIx (eVar 5) (eC (.int 0))) (aCons (eOp dIx (eVar 5) (eUn dNeg (eC (.int 1)))) aNil))))) aNil)))))))
(sRet (eCall fTuple (aCons (eVar 1) aNil)))))
noncomputable def mf_turns : FM := mkF 6 mb_turns

def oD : Option Int → D
  | some i => .int i
  | none => .non
def tabD (n : Nat) (g : Nat → Option Int) : List D := (List.range n).map fun i => oD (g i)
theorem tabD_len (n : Nat) (g : Nat → Option Int) : (tabD n g).length = n := by simp [tabD]
theorem tabD_at {n : Nat} {g : Nat → Option Int} {i : Int} (h0 : 0 ≤ i) (h1 : i < n) : atI (tabD n g) i = some (oD (g i.toNat)) := by
  obtain ⟨m, rfl⟩ : ∃ m : Nat, i = m := ⟨i.toNat, by omega⟩
  refine atI_nat ?_
  unfold tabD
  rw [List.getElem?_map, List.getElem?_range (by omega)]
  rfl
theorem tabD_set {n : Nat} {g : Nat → Option Int} {k : Nat} {l : Int} : (tabD n g).set k (.int l) = tabD n (put g k (some l)) := by
  refine List.ext_getElem? fun i => ?_
  unfold tabD
  by_cases e : k = i
  · subst e
    by_cases h : k < n
    · rw [List.getElem?_set_self (by simpa using h), List.getElem?_map, List.getElem?_range h]
      simp [put, oD]
    · rw [List.getElem?_eq_none (by simp; omega), List.getElem?_eq_none (by simp; omega)]
  · rw [List.getElem?_set_ne e]
    by_cases h : i < n
    · rw [List.getElem?_map, List.getElem?_map, List.getElem?_range h]
      simp [put, Ne.symm e]
    · rw [List.getElem?_eq_none (by simp; omega), List.getElem?_eq_none (by simp; omega)]
theorem tabD_new (n : Nat) : (List.replicate n [D.non]).flatten = tabD n fun _ => none := by
  refine List.ext_getElem? fun i => ?_
  unfold tabD
  have e : (List.replicate n [D.non]).flatten = List.replicate n D.non := by
    induction n with
    | zero => rfl
    | succ n ih => rw [List.replicate_succ, List.replicate_succ, List.flatten_cons, ih]; rfl
  rw [e]
  by_cases h : i < n
  · rw [List.getElem?_map, List.getElem?_range h, List.getElem?_replicate, if_pos h]
    rfl
  · rw [List.getElem?_eq_none (by simp; omega), List.getElem?_eq_none (by simp; omega)]
theorem isnot_oD (o : Option Int) (st : Store) : dIsNot (oD o) .non st = some (.bl o.isSome) := by cases o <;> rfl
def bookD (S : Int) (ls : List Int) : D := .tup [.int S, .tup (ls.map .int)]
/-- before the total t all is told -/
def LLok (ls : List Int) (x : Int) (t : Nat) (g : Nat → Option Int) : Prop := (∀ u : Nat, (u : Int) < x + 1 + t → LastOk ls x g u) ∧ ∀ u : Nat, x + 1 + t ≤ (u : Int) → g u = none
def LLI (st : Store) (S : Int) (ls : List Int) (x : Int) (i : Nat) (env : Env) (s : Store) : Prop := ∃ (g : Nat → Option Int) (x5 x6 : Option D), LLok ls x i g ∧ env = [some (bookD S ls), some (.int x), some (.int S), some (.tup (ls.map .int)), some (.ref (st.length + 1)), x5, x6] ∧ s = st ++ [.lst [.non], .lst (tabD (S + 1).toNat g)]
def LLJ (st : Store) (S : Int) (ls : List Int) (x : Int) (i t : Nat) (g : Nat → Option Int) (j : Nat) (env : Env) (s : Store) : Prop := ∃ (g' : Nat → Option Int) (x6 : Option D), (∀ u, u ≠ t → g' u = g u) ∧ ((g' t).isSome = true ↔ ∃ m, m ∈ ls.take j ∧ Reach ls x (t - m)) ∧ (∀ m, g' t = some m → m ∈ ls ∧ Reach ls x (t - m)) ∧
  env = [some (bookD S ls), some (.int x), some (.int S), some (.tup (ls.map .int)), some (.ref (st.length + 1)), some (.int (x + 1 + (i : Int))), x6] ∧ s = st ++ [.lst [.non], .lst (tabD (S + 1).toNat g')]
theorem ev_last_lines {st : Store} {S x : Int} {ls : List Int} {Q : D → Store → Prop} (R : Rules S ls) (hx : x ∈ ls) (k : ∀ g, Lasts S ls x g → Q (.lst (tabD (S + 1).toNat g)) st) : EvF mf_last_lines [bookD S ls, .int x] st Q := by
  rw [mf_last_lines, ev_mkF]
  unfold mb_last_lines
  have S1 := R.s1
  have S2 := R.s2
  obtain ⟨x1, x2⟩ := R.mem x hx
  have pos : ∀ l ∈ ls, 1 ≤ l := fun l hl => (R.mem l hl).1
  walk_at "ev"
  refine ⟨_, rfl, ?_⟩
  walk_at "ev"
  walk_at "st"
  have e1 : dRpt (.ref st.length) (.int (S + 1)) (st ++ [D.lst [D.non]]) = some (tabD (S + 1).toNat fun _ => none) := by
    have h : seqL (st ++ [D.lst [D.non]]) (.ref st.length) = some [.non] := seqL_cell (up_at (i := 0) rfl)
    simp only [dRpt, h]
    rw [if_pos ⟨by omega, by omega, by show 1 * (S + 1).toNat ≤ sizeLine; exact Nat.le_trans (show _ ≤ 101 by omega) (by decide)⟩, tabD_new]
  have g1 : ∀ T : List D, (st ++ [D.lst [D.non], D.lst T])[st.length + 1]? = some (.lst T) := fun T => up_at (i := 1) rfl
  have p1 : ∀ (T : List D) (w : D), (st ++ [D.lst [D.non], D.lst T]).set (st.length + 1) w = st ++ [D.lst [D.non], w] := fun T w => putj_at (i := 1)
  have pt : ∀ (g : Nat → Option Int) (i l : Int), 0 ≤ i → i < S + 1 → dPut (.ref (st.length + 1)) (.int i) (.int l) (st ++ [D.lst [D.non], D.lst (tabD (S + 1).toNat g)]) = some (st ++ [D.lst [D.non], D.lst (tabD (S + 1).toNat (put g i.toNat (some l)))]) := by
    intro g i l h0 h1
    rw [put_cell (g1 _) h0 (by rw [tabD_len]; omega), p1, tabD_set]
  refine ⟨_, e1, _, pt _ x x (by omega) (by omega), by omega, by omega, by omega, by omega, ?_⟩
  have ok0 : LLok ls x 0 (put (fun _ => none) x.toNat (some x)) := by
    refine ⟨fun u hu => ?_, fun u hu => put_ne (by omega)⟩
    by_cases e : u = x.toNat
    · subst e
      have ex : ((x.toNat : Nat) : Int) = x := by omega
      refine ⟨?_, fun m hm => ?_⟩
      · rw [put_same, ex]
        exact ⟨fun _ => Reach.self, fun _ => rfl⟩
      · rw [put_same] at hm
        cases hm
        exact ⟨hx, .inl ex⟩
    · refine ⟨?_, fun m hm => ?_⟩
      · rw [put_ne e]
        constructor
        · intro z
          cases z
        · intro z
          have := z.ge pos
          omega
      · rw [put_ne e] at hm
        cases hm
  refine for_inv (LLI st S ls x) ⟨_, none, none, ok0, rfl, rfl⟩ (fun _ _ _ _ _ => trivial) ?_ ?_
  · generalize thenS _ _ = QR
    rintro i hi env s ⟨g, v5, v6, ⟨ok1, ok2⟩, rfl, rfl⟩
    rw [intsTo_len] at hi
    obtain ⟨t, ht⟩ : ∃ t : Nat, (t : Int) = x + 1 + i := ⟨(x + 1 + i).toNat, by omega⟩
    have e2 : (intsTo (x + 1) (S + 1 - (x + 1)).toNat)[i]'(by rw [intsTo_len]; exact hi) = .int (x + 1 + (i : Int)) := by simp [intsTo]
    rw [e2]
    refine ⟨_, rfl, ?_⟩
    walk_at "ev"
    refine for_inv (LLJ st S ls x i t g) ⟨g, _, fun _ _ => rfl, by rw [ok2 t (by omega)]; simp, fun m hm => (by rw [ok2 t (by omega)] at hm; cases hm), rfl, rfl⟩ (fun _ _ _ _ _ => trivial) ?_ ?_
    · rintro j hj env s ⟨g', x6, d1, d2, d3, rfl, rfl⟩
      have hjl : j < ls.length := by rwa [List.length_map] at hj
      rw [List.getElem_map]
      have hm : ls[j] ∈ ls := List.getElem_mem hjl
      have tk : ls.take (j + 1) = ls.take j ++ [ls[j]] := by rw [List.take_add_one, List.getElem?_eq_getElem hjl]; rfl
      generalize ls[j] = m at hm tk ⊢
      obtain ⟨m1, m2⟩ := R.mem m hm
      refine ⟨_, rfl, ?_⟩
      have gt : m ≤ x + 1 + i → (g' (t - m.toNat)) = g (t - m.toNat) := fun _ => d1 _ (by omega)
      have rch : m ≤ x + 1 + i → ((g' (x + 1 + (i : Int) - m).toNat).isSome = true ↔ Reach ls x (t - m)) := fun hle => by
        have e : (x + 1 + (i : Int) - m).toNat = t - m.toNat := by omega
        rw [e, gt hle]
        have q := (ok1 (t - m.toNat) (by omega)).1
        have e2 : ((t - m.toNat : Nat) : Int) = t - m := by omega
        rw [e2] at q
        exact q
      have skip : ¬ Reach ls x (t - m) → ∀ x6, LLJ st S ls x i t g (j + 1) [some (bookD S ls), some (.int x), some (.int S), some (.tup (ls.map .int)), some (.ref (st.length + 1)), some (.int (x + 1 + (i : Int))), x6] (st ++ [.lst [.non], .lst (tabD (S + 1).toNat g')]) := fun nr x6 => by
        refine ⟨g', x6, d1, d2.trans ⟨fun ⟨z, z1, z2⟩ => ⟨z, by rw [tk]; exact List.mem_append_left _ z1, z2⟩, fun ⟨z, z1, z2⟩ => ?_⟩, d3, rfl, rfl⟩
        rw [tk] at z1
        rcases List.mem_append.mp z1 with z1 | z1
        · exact ⟨z, z1, z2⟩
        · have : z = m := by simpa using z1
          subst this
          exact absurd z2 nr
      walk_at "ev"
      split
      · rename_i hle
        have h7 : dIx (.ref (st.length + 1)) (.int (x + 1 + (i : Int) - m)) (st ++ [D.lst [D.non], D.lst (tabD (S + 1).toNat g')]) = some (oD (g' (x + 1 + (i : Int) - m).toNat)) := by
          rw [ix_cell (g1 _)]
          exact tabD_at (by omega) (by omega)
        refine ⟨_, h7, _, isnot_oD _ _, _, rfl, ?_⟩
        split
        · rename_i f1
          have rm : Reach ls x (t - m) := (rch hle).mp f1
          refine ⟨_, pt _ _ _ (by omega) (by omega), ?_⟩
          have et : (x + 1 + (i : Int)).toNat = t := by omega
          rw [et]
          refine ⟨put g' t (some m), _, fun u hu => by rw [put_ne hu]; exact d1 u hu, ?_, ?_, rfl, rfl⟩
          · rw [put_same]
            exact ⟨fun _ => ⟨m, by rw [tk]; simp, rm⟩, fun _ => rfl⟩
          · intro z hz
            rw [put_same] at hz
            cases hz
            exact ⟨hm, rm⟩
        · rename_i f1
          exact skip (fun rm => f1 ((rch hle).mpr rm)) _
      · rename_i hle
        exact skip (fun rm => hle (by have := rm.ge pos; omega)) _
    · rintro env s ⟨g', x6, d1, d2, d3, rfl, rfl⟩
      have tk : ls.take (ls.map D.int).length = ls := by rw [List.length_map, List.take_length]
      rw [tk] at d2
      refine ⟨g', _, _, ⟨fun u hu => ?_, fun u hu => by rw [d1 u (by omega)]; exact ok2 u (by omega)⟩, rfl, rfl⟩
      by_cases eu : u = t
      · subst eu
        exact ⟨d2.trans (Reach.iff (by omega)).symm, fun m hm => ⟨(d3 m hm).1, .inr (d3 m hm).2⟩⟩
      · obtain ⟨a1, a2⟩ := ok1 u (by omega)
        unfold LastOk
        rw [d1 u eu]
        exact ⟨a1, a2⟩
  · rintro env s ⟨g, v5, v6, ⟨ok1, ok2⟩, rfl, rfl⟩
    rw [intsTo_len] at ok1
    walk_at "ev"
    have bl : D.blws 0 (tabD (S + 1).toNat g) = true := blws_map (fun i => by cases g i <;> simp only [oD, D.blw]) _
    refine fin_to (r' := .lst (tabD (S + 1).toNat g)) ?_ (closeOk_app _ _) ?_
    · simp only [fz]
      exact lkc_lst (k := 2) (g1 _) (by omega) bl
    · rw [cut_0]
      exact k g (fun u hu => ok1 u (by omega))
theorem ev_totals_for {st : Store} {S x y : Int} {ls : List Int} {g : Nat → Option Int} {Q : D → Store → Prop} (R : Rules S ls) (hg : Lasts S ls x g) (hx : 1 ≤ x) (y1 : 1 ≤ y) (y2 : y ≤ S) (k : ∀ ts : List Int, Totals S ls x y ts → ts.length ≤ 101 → Q (.lst (ts.map .int)) st) : EvF mf_totals_for [.lst (tabD (S + 1).toNat g), .int y] st Q := by
  rw [mf_totals_for, ev_mkF]
  unfold mb_totals_for
  have S1 := R.s1
  have S2 := R.s2
  walk_at "ev"
  rw [tabD_len]
  have eS : ((S + 1).toNat : Int) = S + 1 := by omega
  rw [eS]
  refine ⟨by omega, by omega, by omega, by omega, ?_⟩
  have e1 : S + 1 - 1 - y + 1 = S - y + 1 := by omega
  have e2 : (S + 1 - 1 + 1 - (S - y + 1)).toNat = y.toNat := by omega
  rw [e1, e2, intsTo_up]
  refine lc_mapM (fun i => (g i.toNat).isSome) (fun i => .int i) trivial ?_ ?_
  · intro i hi
    obtain ⟨h1, h2⟩ := mem_upTo.mp hi
    refine ⟨_, rfl, ?_⟩
    walk_at "ev"
    refine ⟨_, tabD_at (by omega) (by omega), _, isnot_oD _ _, _, rfl, ?_⟩
    first
      | exact ⟨rfl, rfl, fun _ => ⟨rfl, rfl⟩⟩
      | exact ⟨rfl, fun _ => trivial⟩
      | exact fun _ => trivial
  · have hT : Totals S ls x y ((upTo (S - y + 1) y.toNat).filter fun i => (g i.toNat).isSome) := by
      refine ⟨(upTo_asc _ _).filter _, fun t => ?_⟩
      rw [List.mem_filter, mem_upTo]
      constructor
      · rintro ⟨⟨h1, h2⟩, h3⟩
        have := (hg t.toNat (by omega)).1.mp h3
        rw [show ((t.toNat : Nat) : Int) = t by omega] at this
        exact ⟨by omega, by omega, this⟩
      · rintro ⟨h1, h2, h3⟩
        refine ⟨⟨by omega, by omega⟩, (hg t.toNat (by omega)).1.mpr ?_⟩
        rw [show ((t.toNat : Nat) : Int) = t by omega]
        exact h3
    have hl : ((upTo (S - y + 1) y.toNat).filter fun i => (g i.toNat).isSome).length ≤ 101 := Nat.le_trans (List.length_filter_le _ _) (by rw [upTo_len]; omega)
    refine ⟨Nat.le_trans (show _ ≤ 101 by rw [List.length_map]; exact hl) (by decide), ?_⟩
    exact fin_tree (blw_lst blws_ints) (closeOk_refl st) (by rw [List.take_length]; exact k _ hT hl)
def rowD (r : List Int) : D := .tup (r.map .int)
def costsOf (ls : List Int) (f : Int → Int → List Int) : List (List Int) := ls.flatMap fun x => ls.map fun y => f x y
theorem totals_first {S x y : Int} {ls ts : List Int} (h : Totals S ls x y ts) (n : ts ≠ []) : ∃ c, atI (ts.map D.int) 0 = some (.int c) ∧ Least S ls x y c ∧ ts[0]? = some c := by
  obtain ⟨c, _, h2, h3⟩ := h.first n
  exact ⟨c, atI_nat (j := 0) (by rw [List.getElem?_map, h3]; rfl), h2, h3⟩
theorem totals_last {S x y : Int} {ls ts : List Int} (h : Totals S ls x y ts) (n : ts ≠ []) : ∃ c, atI (ts.map D.int) (-1) = some (.int c) ∧ Greatest S ls x y c ∧ ts.getLast? = some c := by
  obtain ⟨c, _, h2, h3⟩ := h.last n
  refine ⟨c, ?_, h2, h3⟩
  obtain ⟨us, rfl⟩ := List.getLast?_eq_some_iff.mp h3
  rw [List.map_append]
  exact atI_last _ _
open Classical in
noncomputable def loOf (S : Int) (ls : List Int) (x y : Int) : Int := if h : ∃ c, Least S ls x y c then h.choose else 0
open Classical in
noncomputable def hiOf (S : Int) (ls : List Int) (x y : Int) : Int := if h : ∃ c, Greatest S ls x y c then h.choose else 0
theorem loOf_eq {S x y c : Int} {ls : List Int} (h : Least S ls x y c) : loOf S ls x y = c := by
  unfold loOf
  have e : ∃ c, Least S ls x y c := ⟨c, h⟩
  rw [dif_pos e]
  exact e.choose_spec.uniq h
theorem hiOf_eq {S x y c : Int} {ls : List Int} (h : Greatest S ls x y c) : hiOf S ls x y = c := by
  unfold hiOf
  have e : ∃ c, Greatest S ls x y c := ⟨c, h⟩
  rw [dif_pos e]
  exact e.choose_spec.uniq h
noncomputable def rowOf (S : Int) (ls : List Int) (x y : Int) : List Int := [x, y, loOf S ls x y, hiOf S ls x y]
noncomputable def rowsOf (S : Int) (ls : List Int) : List (List Int) := ls.flatMap fun x => ls.map fun y => rowOf S ls x y
def TurI (st : Store) (S : Int) (ls : List Int) (i : Nat) (env : Env) (s : Store) : Prop := ∃ (x2 x3 x4 x5 : Option D), env = [some (bookD S ls), some (.ref st.length), x2, x3, x4, x5] ∧ s = st ++ [.lst (((ls.take i).flatMap fun x => ls.map fun y => rowOf S ls x y).map rowD)]
def TurJ (st : Store) (S : Int) (ls : List Int) (i : Nat) (x : Int) (g : Nat → Option Int) (j : Nat) (env : Env) (s : Store) : Prop := ∃ (x4 x5 : Option D), env = [some (bookD S ls), some (.ref st.length), some (.int x), some (.lst (tabD (S + 1).toNat g)), x4, x5] ∧
  s = st ++ [.lst ((((ls.take i).flatMap fun x => ls.map fun y => rowOf S ls x y) ++ (ls.take j).map fun y => rowOf S ls x y).map rowD)]
theorem rows_len (S : Int) (ls : List Int) (xs : List Int) : (xs.flatMap fun x => ls.map fun y => rowOf S ls x y).length = xs.length * ls.length := by
  induction xs with
  | nil => simp
  | cons x xs ih => rw [List.flatMap_cons, List.length_append, ih, List.length_map, List.length_cons, Nat.succ_mul, Nat.add_comm]
theorem ev_turns {st : Store} {S : Int} {ls : List Int} {Q : D → Store → Prop} (R : Rules S ls) (k : Q (.tup ((rowsOf S ls).map rowD)) st) : EvF mf_turns [bookD S ls] st Q := by
  rw [mf_turns, ev_mkF]
  unfold mb_turns
  have ib : ∀ s : Store, dIx (bookD S ls) (.int 1) s = some (.tup (ls.map .int)) := fun _ => rfl
  have six := R.six
  have g0 : ∀ T : List D, (st ++ [D.lst T])[st.length]? = some (.lst T) := fun T => up_at (i := 0) rfl
  have p0 : ∀ (T : List D) (w : D), (st ++ [D.lst T]).set st.length w = st ++ [w] := fun T w => putj_at (i := 0)
  walk_at "ev"
  refine ⟨_, ib _, ?_⟩
  dsimp only
  refine for_inv (TurI st S ls) ⟨none, none, none, none, rfl, rfl⟩ (fun _ _ _ _ _ => trivial) ?_ ?_
  · generalize thenS _ _ = QR
    rintro i hi env s ⟨x2, x3, x4, x5, rfl, rfl⟩
    have hil : i < ls.length := by rwa [List.length_map] at hi
    rw [List.getElem_map]
    have tk : ls.take (i + 1) = ls.take i ++ [ls[i]] := by rw [List.take_add_one, List.getElem?_eq_getElem hil]; rfl
    have hx : ls[i] ∈ ls := List.getElem_mem hil
    have il : (ls.take i).length ≤ 6 := by rw [List.length_take]; omega
    generalize ls[i] = x at tk hx ⊢
    obtain ⟨x1, x2'⟩ := R.mem x hx
    refine ⟨_, rfl, ?_⟩
    walk_at "ev"
    refine ev_last_lines R hx fun g hg => ?_
    walk_at "ev"
    refine ⟨_, ib _, ?_⟩
    dsimp only
    refine for_inv (TurJ st S ls i x g) ⟨_, _, rfl, by simp⟩ (fun _ _ _ _ _ => trivial) ?_ ?_
    · rintro j hj env s ⟨y4, y5, rfl, rfl⟩
      have hjl : j < ls.length := by rwa [List.length_map] at hj
      rw [List.getElem_map]
      have tkj : ls.take (j + 1) = ls.take j ++ [ls[j]] := by rw [List.take_add_one, List.getElem?_eq_getElem hjl]; rfl
      have hy : ls[j] ∈ ls := List.getElem_mem hjl
      generalize ls[j] = y at tkj hy ⊢
      obtain ⟨y1, y2⟩ := R.mem y hy
      refine ⟨_, rfl, ?_⟩
      walk_at "ev"
      refine ev_totals_for R hg x1 y1 y2 fun ts hT hl => ?_
      have ne := hT.ne x2' hy y1
      obtain ⟨c, hc, hL, _⟩ := totals_first hT ne
      obtain ⟨d, hd, hG, _⟩ := totals_last hT ne
      walk_at "ev"
      refine ⟨tyD_cell (g0 _), _, hc, _, hd, _, _, app_cell (g0 _) (Nat.lt_of_le_of_lt (show _ ≤ 100 by
        rw [List.length_map, List.length_append, rows_len, List.length_map]
        have h1 := Nat.mul_le_mul il six
        have h2 : (ls.take j).length ≤ 6 := by rw [List.length_take]; omega
        omega) (by decide)), ?_⟩
      rw [p0]
      refine ⟨_, _, rfl, ?_⟩
      rw [tkj, List.map_append (l₁ := ls.take j), ← List.append_assoc, List.map_append (l₁ := _ ++ _)]
      have er : rowOf S ls x y = [x, y, c, d] := by unfold rowOf; rw [loOf_eq hL, hiOf_eq hG]
      simp only [List.map_cons, List.map_nil, er, rowD]
    · rintro env s ⟨y4, y5, rfl, rfl⟩
      rw [List.length_map, List.take_length]
      refine ⟨_, _, _, _, rfl, ?_⟩
      rw [tk, List.flatMap_append, List.flatMap_singleton]
  · rintro env s ⟨x2, x3, x4, x5, rfl, rfl⟩
    rw [List.length_map, List.take_length]
    walk_at "ev"
    rw [ev_tuple_cell (g0 _)]
    walk_at "ev"
    refine fin_tree (blw_tup (blws_map (fun r => blw_tup blws_ints) _)) (closeOk_app _ _) ?_
    rw [cut_0]
    exact k
end My

namespace My
open PySem PySem.Spec PyProof.Rows L2 PySem.W
/-! ### o.f, o.g = a tuple of two -/
section
variable {X : Cx} {W : Wd} {o e : Expr} {f g n : Str} {pos pa pb pt : Pos} {mo m : EM} {ta : TE}
def gFld (K : PySem.W.Frag) (ta : TE) (f : Str) : TG := fun y σ H Q => ta σ H fun x H1 => ∃ a C dx fs, x = .ref a ∧ H1 a = some (.ins C dx fs) ∧ Cls K C ∧ NoAttr K C f ∧ fs.length < 1000 ∧ Q σ (upd H1 a (.ins C dx (putF f y fs)))
theorem pg_fld (ha : PE X o ta) : PG X (.Attribute o f pos) (gFld X.K ta f) := by
  refine ⟨fun pins s σ H v u Q I r h => ?_⟩
  rw [assign_Attribute]
  refine wpAny_bind (wpAny_holding (thn (ha.run pins s σ H _ I h) fun ov s1 ⟨x, H1, I1, rx, a, C, dx, fs, ex, ea, c, nn, l, q⟩ => ?_))
  subst ex
  obtain rfl : ov = Value.ref a := rx
  refine wpAny_bind (wpAny_standAt (wpAny_bind (wpAny_holding ?_)))
  exact setattr_ok I1 ea c nn l r fun s2 I2 => wpAny_release ⟨σ, _, I2, q⟩
def sFld2 (n f g : Str) (mo m : EM) : SM := fun env st => match m env st with
  | some (.tup [x, y], s1) => match mo env s1 with
    | some (o, s2) => match fldPut n f o x s2 with
      | some s3 => match mo env s3 with
        | some (o', s4) => match fldPut n g o' y s4 with
          | some s5 => some (.nx env, s5)
          | none => none
        | none => none
      | none => none
    | none => none
  | _ => none
theorem js_fld2 {k : Nat} {o2 : Expr} (hK : X.K = W.K) (hc : X.calm = true) (c : Cls X.K (W.cl n)) (na : NoAttr X.K (W.cl n) f) (nb : NoAttr X.K (W.cl n) g) (ho : PE X o (T W mo)) (ho2 : PE X o2 (T W mo)) (he : PE X e (T W m))
    (hs : swapsWithSole [.Tuple [.Attribute o f pa, .Attribute o2 g pb] k pt] e pos.line X.env = pure false := by rfl) (hw : swappedStores [.Tuple [.Attribute o f pa, .Attribute o2 g pb] k pt] e X.env = pure none := by rfl)
    (h1 : (assignEach [.Tuple [.Attribute o f pa, .Attribute o2 g pb] k pt] X.env).map (·.2) = [assign (.Tuple [.Attribute o f pa, .Attribute o2 g pb] k pt) X.env] := by rfl) :
    PS X (.Assign [.Tuple [.Attribute o f pa, .Attribute o2 g pb] k pt] e pos) (TSt W (sFld2 n f g mo m)) := (ps_asg he (pg_tup (n := 2) hc (pgs_cons (pg_fld (pos := pa) (f := f) ho) (pgs_cons (pg_fld (pos := pb) (f := g) ho2) pgs_nil))) hs hw h1).imp fun D σ H ⟨ι, st, env, d, st', r, q, e, k⟩ => by
  unfold sFld2 at e
  split at e
  · rename_i x y s1 e1
    split at e
    · rename_i ov s2 e2
      split at e
      · rename_i s3 e3
        split at e
        · rename_i ow s4 e4
          split at e
          · rename_i s5 e5
            cases e
            refine T.of r q e1 fun v ι1 H1 g1 r1 p1 => ?_
            obtain ⟨av, vs, rfl, hv, hq⟩ := seqT_ok p1 (xs := [x, y]) rfl
            obtain ⟨vx, r', rfl, px, hq⟩ := hq.uncons
            obtain ⟨vy, r', rfl, py, hq⟩ := hq.uncons
            cases hq.nil_of
            refine ⟨av, _, rfl, SqT.of hv, rfl, vx, _, rfl, ?_⟩
            refine T.of r1 (q.grow g1) e2 fun z ι2 H2 g2 r2 p2 => ?_
            obtain ⟨a, dx, fs, rfl, h1, h2, g3, r3⟩ := fldPut_ok (D := D) (σ := σ) r2 p2 (Rep.grow g2 _ _ px) e3
            refine ⟨a, _, dx, fs, rfl, h1, c, na, h2, vy, _, rfl, ?_⟩
            refine T.of r3 (((q.grow g1).grow g2).grow g3) e4 fun z2 ι4 H4 g4 r4 p4 => ?_
            obtain ⟨a', dx', fs', rfl, h1', h2', g5, r5⟩ := fldPut_ok (D := D) (σ := σ) r4 p4 (Rep.grow g4 _ _ (Rep.grow g3 _ _ (Rep.grow g2 _ _ py))) e5
            exact ⟨a', _, dx', fs', rfl, h1', c, nb, h2', rfl, k _ _ _ ((((g1.trans g2).trans g3).trans g4).trans g5) r5 (((((q.grow g1).grow g2).grow g3).grow g4).grow g5)⟩
          · cases e
        · cases e
      · cases e
    · cases e
  · cases e
end
section
variable {env : Env} {st : Store} {QS : Out → Store → Prop} {n f g : Str} {mo m : EM}
theorem ev_fld2 : EvS (sFld2 n f g mo m) env st QS ↔ EvE m env st fun d s1 => ∃ x y, d = .tup [x, y] ∧ EvE mo env s1 fun o s2 => ∃ s3, fldPut n f o x s2 = some s3 ∧ EvE mo env s3 fun o' s4 => ∃ s5, fldPut n g o' y s4 = some s5 ∧ QS (.nx env) s5 := by
  unfold EvS EvE sFld2
  constructor
  · rintro ⟨d, s, e, q⟩
    split at e
    · rename_i x y s1 e1
      split at e
      · rename_i ov s2 e2
        split at e
        · rename_i s3 e3
          split at e
          · rename_i ow s4 e4
            split at e
            · rename_i s5 e5
              cases e
              exact ⟨_, _, e1, x, y, rfl, _, _, e2, _, e3, _, _, e4, _, e5, q⟩
            · cases e
          · cases e
        · cases e
      · cases e
    · cases e
  · rintro ⟨d, s1, e1, x, y, rfl, o, s2, e2, s3, e3, o', s4, e4, s5, e5, q⟩
    exact ⟨_, _, by rw [e1]; simp only [e2, e3, e4, e5], q⟩
end
end My

namespace My
open PySem PySem.Spec PyProof.Rows L2
local macro_rules | `(tactic| walk_at "ev") => `(tactic| try simp only [ev_revT, ev_dk0, ev_dispKI, ev_dispKV, ev_ss, ev_fld2, ev_rev, ev_star2, ev_bF, ev_tupF, ev_len_tpf, ix_tpf, len_tpf, ev_tuple_tpf, ev_tupleF_lst, ev_var, ev_c, ev_un, ev_op, ev_nil, ev_cons, ev_call, ev_callD, ev_callN, ev_callK, ev_opM, ev_lcM, ev_lz, ev_dcT, ev_lrg1, ev_lrg2, ev_trg1, ev_trg2, ev_zipM, ev_callO, ev_star, ev_dispT, ev_itemsT, ev_dispK, ev_newN, pick0, pick1, pick2, ev_ifW, ev_named, ev_tup, ev_lst, ev_lstM, ev_dkM, ev_dtM, ev_bE, ev_bAnd, ev_bOr, ev_bNot, ev_bYes, ev_eAnd, ev_eOr, ev_eNot, ev_if, ev_chain, ev_oNone, ev_oSome, ev_sl, ev_bm, ev_skip, ev_brk, ev_cnt, ev_seq, then_nx, then_rt, then_bk, then_ct, ev_set, ev_asg, ev_par, ev_par3, ev_ret, ev_drop, ev_sIf, ev_aug, ev_sub, ev_seqI, ev_fld, ev_fldM, ev_meth, ev_new, ev_newK, ev_enum, ev_zip, ev_range1, ev_range2, ev_for, ev_lc, enter, gNm, gsNil, gsCons, gTp, wipeE,
  List.map_cons, List.map_nil, List.length_cons, List.length_nil, List.replicate, List.cons_append, List.nil_append, List.append_nil, List.getElem?_cons_zero, List.getElem?_cons_succ, List.set_cons_zero, List.set_cons_succ, Option.some.injEq, exists_eq_left', exists_eq_left, D.bl.injEq, D.int.injEq, D.str.injEq, D.tup.injEq, D.lst.injEq, D.ref.injEq, decide_eq_true_eq, List.cons.injEq, and_true, true_and, if_true, if_false, reduceCtorEq, Bool.false_eq_true, ite_true, ite_false, Nat.sub_self, Nat.reduceAdd, Nat.reduceSub, Nat.zero_add, exists_and_left, exists_const, Bool.not_true, Bool.not_false, Bool.not_eq_true', exists_eq_right, and_assoc, List.length_set, exists_eq_right',
  add_int, addI_int, sub_int, neg_int, lt_int, le_int, gt_int, ge_int, eq_int, ne_int, eq_str, ne_str, eq_bl, ne_bl, eq_is, eq_si, ne_is, ne_si, is_nn, ix_tup, ix_lst, ix_scr, at_0, at_1, at_2, at_3, len_tup, len_lst, len_scr, outF, outK, ev_len_tup, ev_len_lst, ev_len_scr, ev_abs, ev_int, ev_intb, ev_max2, ev_min2, ev_tuple_lst, ev_tuple_tup, ev_list_lst, ev_list_tup, sz0, sz1, sz2, sz3, sz4, sz5, sz6, sz7, sz8, sz9, sz10, sz11, sz12, s_rl, s_lr, atI_last, decide_false, decide_true, Bool.or_false, Bool.false_or])
local macro_rules | `(tactic| walk_at "st") => `(tactic| try simp only [List.append_assoc, List.cons_append, List.nil_append, List.length_append, List.length_cons, List.length_nil, Nat.reduceAdd, Nat.add_assoc])
/- _law_bent: 0:_law_box_here, 1:_law_thing, 2:_law_at, 3:_law_way, 4:_law_some -/
noncomputable def mbr_Lbent (mf_Lbent : FM) : SM :=
(sSeq (sIf (bAnd (bE (eCall fIsi (aCons (eVar 1) (aCons (eC (.ty "tuple")) aNil)))) (bAnd (bE (eOp dNeT0 (eVar 1) (eTup aNil))) (bE (eOp dGt (eCallD 2 mf_Ltake [] (aCons (eVar 0) (aCons (eC (.int 4)) aNil))) (eC (.int 0))))))
(sSeq (sPar 2 3 (aCons (eCallD 2 mf_Ltake [] (aCons (eVar 0) (aCons (eCall fLen (aCons (eVar 1) aNil)) aNil))) (aCons (eCallD 2 mf_Ltake [] (aCons (eVar 0) (aCons (eC (.int 9)) aNil))) aNil)))
(sSeq (sIf (bE (eOp dLt (eVar 3) (eC (.int 5))))
(sRet (eOp dAdd (eOp dAdd (eSl (eVar 1) oNone (oSome (eVar 2))) (eTup (aCons (eCallD 2 mf_Lbent [] (aCons (eVar 0) (aCons (eOp dIx (eVar 1) (eVar 2)) aNil))) aNil))) (eSl (eVar 1) (oSome (eOp dAdd (eVar 2) (eC (.int 1)))) oNone)))
sSkip)
(sSeq (sSet 4 (eLst (aCons (eOp dAdd (eSl (eVar 1) oNone (oSome (eVar 2))) (eSl (eVar 1) (oSome (eOp dAdd (eVar 2) (eC (.int 1)))) oNone)) (aCons (eOp dAdd (eSl (eVar 1) oNone (oSome (eOp dAdd (eVar 2) (eC (.int 1))))) (eSl (eVar 1) (oSome (eVar 2)) oNone)) (aCons (eRevT (eVar 1)) (aCons (eCall fList (aCons (eVar 1) aNil)) aNil))))))
(sRet (eOp dIx (eVar 4) (eOp dSub (eVar 3) (eC (.int 5))))))))
sSkip)
(sSeq (sIf (bAnd (bE (eCall fIsi (aCons (eVar 1) (aCons (eC (.ty "int")) aNil)))) (bAnd (bNot (bE (eCall fIsi (aCons (eVar 1) (aCons (eC (.ty "bool")) aNil))))) (bE (eOp dGt (eCallD 2 mf_Ltake [] (aCons (eVar 0) (aCons (eC (.int 4)) aNil))) (eC (.int 0))))))
(sRet (eCallD 2 mf_Lof [] (aCons (eVar 0) (aCons (eLst (aCons (eOp dAdd (eVar 1) (eC (.int 1))) (aCons (eOp dSub (eVar 1) (eC (.int 1))) (aCons (eUn dNeg (eVar 1)) (aCons (eOp dEq (eVar 1) (eC (.int 1))) (aCons (eCall fStr (aCons (eVar 1) aNil)) (aCons (eTup (aCons (eVar 1) aNil)) (aCons (eC .non) aNil)))))))) aNil))))
sSkip)
(sRet (eCallD 1 mf_Lany [] (aCons (eVar 0) aNil)))))
noncomputable def mfn_Lbent : Nat → FM
  | 0 => fun _ _ => none
  | n + 1 => mkF 5 (mbr_Lbent (mfn_Lbent n))
noncomputable def mf_Lbent : FM := mfn_Lbent 14

def D.isT : D → Bool
  | .tup _ => true
  | _ => false
def D.isI : D → Bool
  | .int _ => true
  | .bl _ => true
  | _ => false
def D.isB : D → Bool
  | .bl _ => true
  | _ => false
theorem isi_T {B : Nat} {d : D} {st : Store} (h : d.good B) : fIsi [d, .ty "tuple"] st = some (.bl d.isT, st) := by
  cases d with
  | non => rfl
  | bl b => rfl
  | int i => rfl
  | str z => rfl
  | tup ds => rfl
  | lst ds => rfl
  | dk ks ds => rfl
  | _ => simp only [D.good] at h
theorem isi_I {B : Nat} {d : D} {st : Store} (h : d.good B) : fIsi [d, .ty "int"] st = some (.bl d.isI, st) := by
  cases d with
  | non => rfl
  | bl b => rfl
  | int i => rfl
  | str z => rfl
  | tup ds => rfl
  | lst ds => rfl
  | dk ks ds => rfl
  | _ => simp only [D.good] at h
theorem isi_B {B : Nat} {d : D} {st : Store} (h : d.good B) : fIsi [d, .ty "bool"] st = some (.bl d.isB, st) := by
  cases d with
  | non => rfl
  | bl b => rfl
  | int i => rfl
  | str z => rfl
  | tup ds => rfl
  | lst ds => rfl
  | dk ks ds => rfl
  | _ => simp only [D.good] at h
theorem ev_isiT {B : Nat} {d : D} {st : Store} {Q : D → Store → Prop} (h : d.good B) : EvF fIsi [d, .ty "tuple"] st Q ↔ Q (.bl d.isT) st := evF_some (isi_T h)
theorem ev_isiI {B : Nat} {d : D} {st : Store} {Q : D → Store → Prop} (h : d.good B) : EvF fIsi [d, .ty "int"] st Q ↔ Q (.bl d.isI) st := evF_some (isi_I h)
theorem ev_isiB {B : Nat} {d : D} {st : Store} {Q : D → Store → Prop} (h : d.good B) : EvF fIsi [d, .ty "bool"] st Q ↔ Q (.bl d.isB) st := evF_some (isi_B h)
theorem isT_of {d : D} (h : d.isT = true) : ∃ xs, d = .tup xs := by
  cases d <;> first | exact ⟨_, rfl⟩ | cases h
theorem isI_of {d : D} (h : d.isI = true) (h2 : d.isB = false) : ∃ i, d = .int i := by
  cases d with
  | int i => exact ⟨i, rfl⟩
  | bl b => exact absurd h2 (by simp [D.isB])
  | _ => exact absurd h (by simp [D.isI])
/-- str(i) -/
theorem strI_len {i : Int} (h : i.natAbs < 10 ^ 60) : (Str.ofString (toString i) : Str).length ≤ 61 := by
  have t := Tx.int (i := i) (n := 60) (by decide) (by decide) h
  have := t.ln
  rw [PyData.shown_int] at this
  exact this
theorem okz_of (s : String) : OkZ (Str.ofString s) := by
  intro c hc
  have hc' : c ∈ cpsOfBytes 0 0 s.toByteArray.data.toList := by simpa only [Str.ofString] using hc
  rw [cpsOfBytes_string, List.mem_map] at hc'
  obtain ⟨ch, _, rfl⟩ := hc'
  have := ch.val.toNat_lt
  exact Nat.lt_of_lt_of_le this (by decide)
/-- what a bent value is -/
structure Bent (B : Nat) (d r : D) : Prop where
  good : r.good (B + 1)
  dep : r.dep ≤ d.dep + 10
  sz : r.sz ≤ 2 * d.sz + 1400000
theorem slTo {xs : List D} {w : Nat} {s : Store} : dSl (.tup xs) none (some (w : Int)) s = some (.tup (xs.take w)) := by
  show some (D.tup (cutD _ _ _)) = _
  unfold cutD
  have e1 : HT.sIx xs.length 0 none = 0 := rfl
  have e2 : HT.sIx xs.length xs.length (some (w : Int)) = min w xs.length := HT.sIx_nat _ _ _
  rw [e1, e2, List.drop_zero, Nat.sub_zero]
  by_cases h : w ≤ xs.length
  · rw [Nat.min_eq_left h]
  · rw [Nat.min_eq_right (by omega), List.take_length, List.take_of_length_le (by omega)]
theorem slFrom {xs : List D} {w : Nat} {s : Store} : dSl (.tup xs) (some (w : Int)) none s = some (.tup (xs.drop w)) := by
  show some (D.tup (cutD _ _ _)) = _
  unfold cutD
  have e1 : HT.sIx xs.length xs.length none = xs.length := rfl
  have e2 : HT.sIx xs.length 0 (some (w : Int)) = min w xs.length := HT.sIx_nat _ _ _
  rw [e1, e2]
  by_cases h : w ≤ xs.length
  · rw [Nat.min_eq_left h, List.take_of_length_le (by rw [List.length_drop]; omega)]
  · rw [Nat.min_eq_right (by omega), List.drop_length, List.drop_of_length_le (by omega), List.take_nil]
theorem szs_take (xs : List D) (w : Nat) : D.szs (xs.take w) + D.szs (xs.drop w) = D.szs xs := by
  rw [← szs_app, List.take_append_drop]
theorem dep_mem {xs : List D} {d : D} (h : d ∈ xs) : d.dep + 1 ≤ (D.tup xs).dep := by
  simp only [D.dep]
  have := (deps_le (k := D.deps xs) (ds := xs)).mp (Nat.le_refl _) d h
  omega
theorem sz_mem {d : D} : ∀ {xs : List D}, d ∈ xs → d.sz + 2 ≤ D.szs xs
  | x :: xs, h => by
    simp only [D.szs]
    rcases List.mem_cons.mp h with rfl | h
    · omega
    · have := sz_mem h
      omega
theorem good_tup {B : Nat} {xs : List D} : (D.tup xs).good B ↔ ∀ d ∈ xs, d.good B := by
  simp only [D.good]
  exact goods_iff
theorem dep_tup {k : Nat} {xs : List D} : (D.tup xs).dep ≤ k + 1 ↔ ∀ d ∈ xs, d.dep ≤ k := by
  simp only [D.dep]
  rw [← deps_le]
  omega
theorem good_lst {B : Nat} {xs : List D} : (D.lst xs).good B ↔ ∀ d ∈ xs, d.good B := by
  simp only [D.good]
  exact goods_iff
theorem dep_lst {k : Nat} {xs : List D} : (D.lst xs).dep ≤ k + 1 ↔ ∀ d ∈ xs, d.dep ≤ k := by
  simp only [D.dep]
  rw [← deps_le]
  omega
/-- a tuple of items of a tuple -/
theorem Bent.of {B : Nat} {xs ys : List D} (hg : (D.tup xs).good B) (hm : ∀ d ∈ ys, d ∈ xs) (hz : D.szs ys ≤ 2 * D.szs xs + 100) : Bent B (.tup xs) (.tup ys) := by
  refine ⟨good_mono (Nat.le_succ B) (good_tup.mpr fun d hd => good_tup.mp hg d (hm d hd)), ?_, by simp only [D.sz]; omega⟩
  have := dep_tup (xs := ys) (k := (D.tup xs).dep + 9)
  refine this.mpr fun d hd => ?_
  have h2 := (dep_tup (xs := xs) (k := (D.tup xs).dep)).mp (Nat.le_succ _) d (hm d hd)
  omega
theorem ev_bent : ∀ (n : Nat) {d : D} {st : Store} {b m B : Nat} {c : D} {Q : D → Store → Prop}, st[b]? = some c → BoxC m c → m + 20 * n + 40 < 2 ^ 40 → d.good B → B + 1 ≤ 10 ^ 39 → d.dep < n → d.sz ≤ 4000000 →
    (∀ r c', Bent B d r → BoxC (m + 20 * n) c' → Q r (st.set b c')) → EvF (mfn_Lbent n) [.ref b, d] st Q
  | 0, _, _, _, _, _, _, _, _, _, _, _, _, h, _, _ => absurd h (Nat.not_lt_zero _)
  | n + 1, d, st, b, m, B, c, Q, hb, hc, hm, hg, hB, hd, hz, k => by
    have hlt := up_lt hb
    show EvF (mkF 5 (mbr_Lbent (mfn_Lbent n))) _ _ _
    rw [ev_mkF]
    unfold mbr_Lbent
    rw [ev_seq]
    generalize hQR : thenS _ _ = QR
    have rest : ∀ c1, BoxC (m + 1) c1 → QR (.nx [some (.ref b), some d, none, none, none]) (st.set b c1) := by
      intro c1 B1
      rw [← hQR]
      walk_at "ev"
      rw [ev_isiI hg]
      walk_at "ev"
      rw [ev_isiB hg]
      walk_at "ev"
      have any : ∀ m2 c2, m2 ≤ m + 4 → BoxC m2 c2 → EvF mf_Lany [D.ref b] (st.set b c2) fun d s => EvF (fun x s => fin st d s) [] s Q := fun m2 c2 l2 B2 => by
        refine ev_anyv (cell_b0 hlt) B2 (by omega) fun v c' hv B3 => ?_
        rw [List.set_set]
        obtain ⟨g1, g2, g3⟩ := hv.good
        refine fin_set (good_blw g1) B3.blw (k v c' ⟨good_mono (Nat.zero_le _) g1, by omega, ?_⟩ (B3.mono (by omega)))
        exact Nat.le_trans (Nat.le_trans g3 (by decide)) (Nat.le_add_left 1400000 _)
      cases hI : d.isI with
      | false =>
        rw [if_neg Bool.false_ne_true]
        exact any _ _ (by omega) B1
      | true =>
        rw [if_pos rfl]
        cases hIB : d.isB with
        | true =>
          rw [if_neg (by decide)]
          exact any _ _ (by omega) B1
        | false =>
          rw [if_pos rfl]
          obtain ⟨i, rfl⟩ := isI_of hI hIB
          refine ev_take (cell_b0 hlt) B1 (by omega) (by decide) (by decide) fun r c2 r0 r1 B2 => ?_
          rw [List.set_set]
          walk_at "ev"
          by_cases hr : r > 0
          · rw [if_pos hr]
            have gi : i.natAbs ≤ 10 ^ 30 + B := by simpa only [D.good] using hg
            have i60 : i.natAbs < 10 ^ 60 := by
              have : 10 ^ 30 + 10 ^ 39 < 10 ^ 60 := by decide
              omega
            have sl := strI_len i60
            have okz : OkZ (Str.ofString (toString i)) := okz_of _
            refine (evF_some (st' := st.set b c2) (d := .str (Str.ofString (toString i))) ?_).mpr ?_
            · have : i.natAbs.log2 < 1920 := by
                have h1 : i.natAbs < 2 ^ 200 := Nat.lt_of_lt_of_le i60 (by decide)
                by_cases h0 : i.natAbs = 0
                · rw [h0]; decide
                · exact Nat.lt_trans ((Nat.log2_lt h0).mpr h1) (by decide)
              exact congrArg (Option.map _) (if_pos this)
            refine ev_of (cell_b0 hlt) B2 (by omega) (.inl rfl) ?_ (by simp) (by show 7 < 2 ^ 60; decide) fun w c3 hw B3 => ?_
            · exact blws_cons blw_int (blws_cons blw_int (blws_cons blw_int (blws_cons blw_bl (blws_cons rfl (blws_cons (blw_tup (blws_cons blw_int blws_nil)) (blws_cons rfl blws_nil))))))
            · rw [List.set_set]
              have main : Bent B (.int i) w := by
                simp only [List.mem_cons, List.not_mem_nil, or_false] at hw
                rcases hw with rfl | rfl | rfl | rfl | rfl | rfl | rfl
                · exact ⟨by simp only [D.good]; omega, by simp only [D.dep]; omega, by simp only [D.sz]; omega⟩
                · exact ⟨by simp only [D.good]; omega, by simp only [D.dep]; omega, by simp only [D.sz]; omega⟩
                · exact ⟨by simp only [D.good]; omega, by simp only [D.dep]; omega, by simp only [D.sz]; omega⟩
                · exact ⟨by simp only [D.good], by simp only [D.dep]; omega, by simp only [D.sz]; omega⟩
                · exact ⟨by simp only [D.good]; exact okz, by simp only [D.dep]; omega, by simp only [D.sz]; omega⟩
                · exact ⟨by simp only [D.good, D.goods, and_true]; omega, by simp only [D.dep, D.deps]; omega, by simp only [D.sz, D.szs]; omega⟩
                · exact ⟨by simp only [D.good], by simp only [D.dep]; omega, by simp only [D.sz]; omega⟩
              exact fin_set (good_blw main.good) B3.blw (k w c3 main (B3.mono (by omega)))
          · rw [if_neg hr]
            exact any _ _ (by omega) B2
    walk_at "ev"
    rw [ev_isiT hg]
    walk_at "ev"
    cases hT : d.isT with
    | false =>
      rw [if_neg Bool.false_ne_true]
      have := rest c (hc.mono (Nat.le_succ _))
      rwa [set_self hb] at this
    | true =>
      rw [if_pos rfl]
      obtain ⟨xs, rfl⟩ := isT_of hT
      have gx := good_tup.mp hg
      have hz' : D.szs xs + 3 ≤ 4000000 := by simpa only [D.sz] using hz
      have hlen := szs_len xs
      refine ⟨_, neT0_ev (xs := xs) rfl, _, rfl, ?_⟩
      cases hx : xs.isEmpty with
      | true =>
        rw [if_neg (by decide)]
        have := rest c (hc.mono (Nat.le_succ _))
        rwa [set_self hb] at this
      | false =>
        rw [if_pos (show (!false) = true from rfl)]
        have hpos : 0 < xs.length := by
          rw [List.length_pos_iff]
          intro e
          rw [e] at hx
          cases hx
        refine ev_take hb hc (by omega) (by decide) (by decide) fun r c1 r0 r1 B1 => ?_
        walk_at "ev"
        by_cases hr : r > 0
        · rw [if_pos hr]
          refine ev_take (cell_b0 hlt) B1 (by omega) (by omega) (by omega) fun at_ c2 a0 a1 B2 => ?_
          rw [List.set_set]
          refine ev_take (cell_b0 hlt) B2 (by omega) (by decide) (by decide) fun way c3 w0 w1 B3 => ?_
          rw [List.set_set]
          obtain ⟨j, rfl⟩ : ∃ j : Nat, at_ = (j : Int) := ⟨at_.toNat, by omega⟩
          have hj : j < xs.length := by omega
          have cat : ∀ (ys zs : List D) (s : Store), ys.length + zs.length ≤ 16000000 → dAdd (.tup ys) (.tup zs) s = some (.tup (ys ++ zs)) := fun ys zs s h => cat_tup (Nat.le_trans h (by decide))
          have l1 := List.length_take_le j xs
          have l2 : (xs.drop j).length ≤ xs.length := by rw [List.length_drop]; omega
          have l3 : (xs.drop (j + 1)).length ≤ xs.length := by rw [List.length_drop]; omega
          have l4 := List.length_take_le (j + 1) xs
          have z1 := szs_take xs j
          have z2 := szs_take xs (j + 1)
          have m1 : ∀ w d, d ∈ xs.take w → d ∈ xs := fun w d h => List.mem_of_mem_take h
          have m2 : ∀ w d, d ∈ xs.drop w → d ∈ xs := fun w d h => List.mem_of_mem_drop h
          walk_at "ev"
          by_cases hw : way < 5
          · rw [if_pos hw]
            have xm : xs[j] ∈ xs := List.getElem_mem hj
            refine ⟨_, slTo, _, atI_nat (List.getElem?_eq_getElem hj), ?_⟩
            have sj := sz_mem xm
            have hdj := dep_mem xm
            have hzj : xs[j].sz ≤ 4000000 := by omega
            refine ev_bent n (cell_b0 hlt) B3 (by omega) (gx _ xm) hB (by omega) hzj fun r c4 R B4 => ?_
            rw [List.set_set]
            refine ⟨_, cat _ _ _ (by simp only [List.length_singleton]; omega), _, slFrom (w := j + 1), _, cat _ _ _ (by simp only [List.length_append, List.length_singleton]; omega), ?_⟩
            rw [← hQR]
            have main : Bent B (.tup xs) (.tup (xs.take j ++ [r] ++ xs.drop (j + 1))) := by
              have gm : ∀ d ∈ xs.take j ++ [r] ++ xs.drop (j + 1), d = r ∨ d ∈ xs := fun d hd => by
                rcases List.mem_append.mp hd with hd | hd
                · rcases List.mem_append.mp hd with hd | hd
                  · exact .inr (m1 _ _ hd)
                  · exact .inl (List.mem_singleton.mp hd)
                · exact .inr (m2 _ _ hd)
              have rz := R.sz
              have rd := R.dep
              refine ⟨good_tup.mpr fun d hd => ?_, ?_, ?_⟩
              · rcases gm d hd with rfl | hd
                · exact R.good
                · exact good_mono (Nat.le_succ B) (gx d hd)
              · refine (dep_tup (k := (D.tup xs).dep + 9)).mpr fun d hd => ?_
                rcases gm d hd with rfl | hd
                · omega
                · have := dep_mem hd
                  omega
              · have e : xs.drop j = xs[j] :: xs.drop (j + 1) := List.drop_eq_getElem_cons hj
                have e2 : D.szs (xs.drop j) = xs[j].sz + 2 + D.szs (xs.drop (j + 1)) := by rw [e]; simp only [D.szs]
                simp only [D.sz, szs_app, D.szs]
                omega
            walk_at "ev"
            exact fin_set (good_blw main.good) B4.blw (k _ c4 main (B4.mono (by omega)))
          · rw [if_neg hw]
            refine ⟨_, slTo, _, slFrom (w := j + 1), _, cat _ _ _ (by omega), _, slTo (w := j + 1), _, slFrom, _, cat _ _ _ (by omega), ?_⟩
            walk_at "ev"
            obtain ⟨v, hv, vm⟩ := atI_in (xs := [D.tup (xs.take j ++ xs.drop (j + 1)), D.tup (xs.take (j + 1) ++ xs.drop j), D.tup xs.reverse, D.lst xs]) (r := way - 5) (by omega) (by simp only [List.length_cons, List.length_nil]; omega)
            refine ⟨v, hv, ?_⟩
            have main : Bent B (.tup xs) v := by
              simp only [List.mem_cons, List.not_mem_nil, or_false] at vm
              rcases vm with rfl | rfl | rfl | rfl
              · exact .of hg (fun d hd => (List.mem_append.mp hd).elim (m1 _ d) (m2 _ d)) (by rw [szs_app]; omega)
              · exact .of hg (fun d hd => (List.mem_append.mp hd).elim (m1 _ d) (m2 _ d)) (by rw [szs_app]; omega)
              · exact .of hg (fun d hd => List.mem_reverse.mp hd) (by rw [szs_rev]; omega)
              · exact ⟨good_mono (Nat.le_succ B) (good_lst.mpr gx), by simp only [D.dep]; omega, by simp only [D.sz]; omega⟩
            rw [← hQR]
            walk_at "ev"
            exact fin_set (good_blw main.good) B3.blw (k v c3 main (B3.mono (by omega)))
        · rw [if_neg hr]
          exact rest c1 B1
end My

namespace My
open PySem PySem.Spec PyProof.Rows L2
local macro_rules | `(tactic| walk_at "ev") => `(tactic| try simp only [ev_revT, ev_dk0, ev_dispKI, ev_dispKV, ev_ss, ev_fld2, ev_rev, ev_star2, ev_bF, ev_tupF, ev_len_tpf, ix_tpf, len_tpf, ev_tuple_tpf, ev_tupleF_lst, ev_var, ev_c, ev_un, ev_op, ev_nil, ev_cons, ev_call, ev_callD, ev_callN, ev_callK, ev_opM, ev_lcM, ev_lz, ev_dcT, ev_lrg1, ev_lrg2, ev_trg1, ev_trg2, ev_zipM, ev_callO, ev_star, ev_dispT, ev_itemsT, ev_dispK, ev_newN, pick0, pick1, pick2, ev_ifW, ev_named, ev_tup, ev_lst, ev_lstM, ev_dkM, ev_dtM, ev_bE, ev_bAnd, ev_bOr, ev_bNot, ev_bYes, ev_eAnd, ev_eOr, ev_eNot, ev_if, ev_chain, ev_oNone, ev_oSome, ev_sl, ev_bm, ev_skip, ev_brk, ev_cnt, ev_seq, then_nx, then_rt, then_bk, then_ct, ev_set, ev_asg, ev_par, ev_par3, ev_ret, ev_drop, ev_sIf, ev_aug, ev_sub, ev_seqI, ev_fld, ev_fldM, ev_meth, ev_new, ev_newK, ev_enum, ev_zip, ev_range1, ev_range2, ev_for, ev_lc, enter, gNm, gsNil, gsCons, gTp, wipeE,
  List.map_cons, List.map_nil, List.length_cons, List.length_nil, List.replicate, List.cons_append, List.nil_append, List.append_nil, List.getElem?_cons_zero, List.getElem?_cons_succ, List.set_cons_zero, List.set_cons_succ, Option.some.injEq, exists_eq_left', exists_eq_left, D.bl.injEq, D.int.injEq, D.str.injEq, D.tup.injEq, D.lst.injEq, D.ref.injEq, decide_eq_true_eq, List.cons.injEq, and_true, true_and, if_true, if_false, reduceCtorEq, Bool.false_eq_true, ite_true, ite_false, Nat.sub_self, Nat.reduceAdd, Nat.reduceSub, Nat.zero_add, exists_and_left, exists_const, Bool.not_true, Bool.not_false, Bool.not_eq_true', exists_eq_right, and_assoc, List.length_set, exists_eq_right',
  add_int, addI_int, sub_int, neg_int, lt_int, le_int, gt_int, ge_int, eq_int, ne_int, eq_str, ne_str, eq_bl, ne_bl, eq_is, eq_si, ne_is, ne_si, is_nn, ix_tup, ix_lst, ix_scr, at_0, at_1, at_2, at_3, len_tup, len_lst, len_scr, outF, outK, ev_len_tup, ev_len_lst, ev_len_scr, ev_abs, ev_int, ev_intb, ev_max2, ev_min2, ev_tuple_lst, ev_tuple_tup, ev_list_lst, ev_list_tup, sz0, sz1, sz2, sz3, sz4, sz5, sz6, sz7, sz8, sz9, sz10, sz11, sz12, s_rl, s_lr, atI_last, decide_false, decide_true, Bool.or_false, Bool.false_or])
local macro_rules | `(tactic| walk_at "st") => `(tactic| try simp only [List.append_assoc, List.cons_append, List.nil_append, List.length_append, List.length_cons, List.length_nil, Nat.reduceAdd, Nat.add_assoc])
/- is_integer: 0:value, 1:least, 2:most -/
noncomputable def mb_is_integer : SM :=
(sRet (eAnd (eCall fIsi (aCons (eVar 0) (aCons (eC (.ty "int")) aNil))) (eAnd (eNot (eCall fIsi (aCons (eVar 0) (aCons (eC (.ty "bool")) aNil)))) (eChain dLe dLe (eVar 1) (eVar 0) (eVar 2)))))
noncomputable def mf_is_integer : FM := mkF 3 mb_is_integer

/- are_lengths: 0:value, 1:size, 2:one, 3:other, 4:length -/
noncomputable def mb_are_lengths : SM :=
(sSeq (sIf (bOr (bNot (bE (eCall fIsi (aCons (eVar 0) (aCons (eC (.ty "tuple")) aNil))))) (bNot (bE (eChain dLe dLe (eC (.int 1)) (eCall fLen (aCons (eVar 0) aNil)) (eC (.int 6))))))
(sRet (eC (.bl false)))
sSkip)
(sSeq (sIf (bNot (bE (eCall fAll (aCons (eLc (iSeq (eVar 0)) (gNm 4) bYes (eCallD 3 mf_is_integer [] (aCons (eVar 4) (aCons (eC (.int 1)) (aCons (eVar 1) aNil)))) [4]) aNil))))
(sRet (eC (.bl false)))
sSkip)
(sRet (eCall fAll (aCons (eLc (iZip (eVar 0) (eSl (eVar 0) (oSome (eC (.int 1))) oNone)) (gTp 2 (gsCons (gNm 2) (gsCons (gNm 3) gsNil))) bYes (eOp dLt (eVar 2) (eVar 3)) [2, 3]) aNil)))))
noncomputable def mf_are_lengths : FM := mkF 5 mb_are_lengths

/- is_rules: 0:value -/
noncomputable def mb_is_rules : SM :=
(sSeq (sIf (bOr (bNot (bE (eCall fIsi (aCons (eVar 0) (aCons (eC (.ty "tuple")) aNil))))) (bOr (bE (eOp dNe (eCall fLen (aCons (eVar 0) aNil)) (eC (.int 2)))) (bNot (bE (eCallD 3 mf_is_integer [] (aCons (eOp dIx (eVar 0) (eC (.int 0))) (aCons (eC (.int 1)) (aCons (eC (.int 100)) aNil))))))))
(sRet (eC (.bl false)))
sSkip)
(sRet (eCallD 2 mf_are_lengths [] (aCons (eOp dIx (eVar 0) (eC (.int 1))) (aCons (eOp dIx (eVar 0) (eC (.int 0))) aNil)))))
noncomputable def mf_is_rules : FM := mkF 1 mb_is_rules

/- _law_whole: 0:_law_thing, 1:_law_least, 2:_law_most -/
noncomputable def mb_Lwhole : SM :=
(sRet (eAnd (eCall fIsi (aCons (eVar 0) (aCons (eC (.ty "int")) aNil))) (eAnd (eNot (eCall fIsi (aCons (eVar 0) (aCons (eC (.ty "bool")) aNil)))) (eChain dLe dLe (eVar 1) (eVar 0) (eVar 2)))))
noncomputable def mf_Lwhole : FM := mkF 3 mb_Lwhole

/- _law_due: 0:_law_thing, 1:_law_part -/
noncomputable def mb_Ldue : SM :=
(sSeq (sIf (bOr (bNot (bE (eCall fIsi (aCons (eVar 0) (aCons (eC (.ty "tuple")) aNil))))) (bOr (bE (eOp dNe (eCall fLen (aCons (eVar 0) aNil)) (eC (.int 2)))) (bNot (bE (eCallD 3 mf_Lwhole [] (aCons (eOp dIx (eVar 0) (eC (.int 0))) (aCons (eC (.int 1)) (aCons (eC (.int 100)) aNil))))))))
(sRet (eC (.bl false)))
sSkip)
(sSeq (sIf (bOr (bNot (bE (eCall fIsi (aCons (eOp dIx (eVar 0) (eC (.int 1))) (aCons (eC (.ty "tuple")) aNil))))) (bNot (bE (eChain dLe dLe (eC (.int 1)) (eCall fLen (aCons (eOp dIx (eVar 0) (eC (.int 1))) aNil)) (eC (.int 6))))))
(sRet (eC (.bl false)))
sSkip)
(sSeq (sIf (bNot (bE (eCall fAll (aCons (eLc (iSeq (eOp dIx (eVar 0) (eC (.int 1)))) (gNm 1) bYes (eCallD 3 mf_Lwhole [] (aCons (eVar 1) (aCons (eC (.int 1)) (aCons (eOp dIx (eVar 0) (eC (.int 0))) aNil)))) [1]) aNil))))
(sRet (eC (.bl false)))
sSkip)
(sRet (eOp dEq (eCall fList (aCons (eOp dIx (eVar 0) (eC (.int 1))) aNil)) (eSS (eOp dIx (eVar 0) (eC (.int 1)))))))))
noncomputable def mf_Ldue : FM := mkF 2 mb_Ldue

/- _law_right: 0:_law_box_here, 1:_law_size, 2:_law_some, 3:_law_turn, 4:_law_book_here, 5:_law_bent_here, 6:_law_thing, 7:_law_kept_so -/
noncomputable def mb_Lright : SM :=
(sSeq (sSet 1 (eOp dAdd (eC (.int 1)) (eCallD 2 mf_Ltake [] (aCons (eVar 0) (aCons (eC (.int 100)) aNil)))))
(sSeq (sSet 2 (eLstM (aCons (eTup (aCons (eVar 1) (aCons (eTup (aCons (eVar 1) aNil)) aNil))) (aCons (eTup (aCons (eVar 1) (aCons (eTup (aCons (eOp dAdd (eVar 1) (eC (.int 1))) aNil)) aNil))) (aCons (eTup (aCons (eVar 1) (aCons (eTup (aCons (eC (.int 0)) aNil)) aNil))) (aCons (eTup (aCons (eC (.int 100)) (aCons (eTup (aCons (eC (.int 1)) (aCons (eC (.int 100)) aNil))) aNil))) (aCons (eTup (aCons (eC (.int 101)) (aCons (eTup (aCons (eC (.int 1)) (aCons (eC (.int 100)) aNil))) aNil))) (aCons (eTup (aCons (eC (.int 0)) (aCons (eTup (aCons (eC (.int 1)) aNil)) aNil))) (aCons (eTup (aCons (eC (.int 1)) (aCons (eTup (aCons (eC (.int 1)) aNil)) aNil))) aNil)))))))))
(sSeq (sSet 2 (eOpM dCat (eVar 2) (eLstM (aCons (eTup (aCons (eC (.int 100)) (aCons (eTup (aCons (eC (.int 1)) (aCons (eC (.int 2)) (aCons (eC (.int 3)) (aCons (eC (.int 4)) (aCons (eC (.int 5)) (aCons (eC (.int 6)) aNil))))))) aNil))) (aCons (eTup (aCons (eC (.int 100)) (aCons (eTup (aCons (eC (.int 1)) (aCons (eC (.int 2)) (aCons (eC (.int 3)) (aCons (eC (.int 4)) (aCons (eC (.int 5)) (aCons (eC (.int 6)) (aCons (eC (.int 7)) aNil)))))))) aNil))) (aCons (eTup (aCons (eC (.int 100)) (aCons (eTup (aCons (eC (.int 2)) (aCons (eC (.int 2)) aNil))) aNil))) (aCons (eTup (aCons (eC (.int 100)) (aCons (eTup (aCons (eC (.int 3)) (aCons (eC (.int 2)) aNil))) aNil))) (aCons (eTup (aCons (eC (.int 100)) (aCons (eTup aNil) aNil))) aNil))))))))
(sSeq (sSet 2 (eOpM dCat (eVar 2) (eLstM (aCons (eTup (aCons (eC (.int 100)) (aCons (eLst (aCons (eC (.int 1)) (aCons (eC (.int 2)) aNil))) aNil))) (aCons (eLst (aCons (eC (.int 100)) (aCons (eTup (aCons (eC (.int 1)) (aCons (eC (.int 2)) aNil))) aNil))) (aCons (eTup (aCons (eC (.int 100)) (aCons (eTup (aCons (eC (.bl true)) aNil)) aNil))) (aCons (eTup (aCons (eC (.bl true)) (aCons (eTup (aCons (eC (.int 1)) aNil)) aNil))) (aCons (eTup (aCons (eC (.int 100)) (aCons (eTup (aCons (eC (.int 1)) aNil)) (aCons (eC (.int 1)) aNil)))) (aCons (eTup (aCons (eC (.int 100)) aNil)) (aCons (eTup (aCons (eC (.int 100)) (aCons (eC (.int 4)) aNil))) aNil))))))))))
(sSeq (sFor (iRange1 (eC (.int 20))) (gNm 3)
(sSeq (sSet 4 (eCallD 2 mf_Lbook [] (aCons (eVar 0) (aCons (eCallD 2 mf_Lof [] (aCons (eVar 0) (aCons (eLst (aCons (eC (.int 9)) (aCons (eC (.int 100)) aNil))) aNil))) aNil))))
(sSeq (sSet 5 (eCallD 2 mf_Lbent [] (aCons (eVar 0) (aCons (eVar 4) aNil))))
(sDrop (eBM "list" mExtend (eVar 2) (aCons (eLst (aCons (eVar 4) (aCons (eVar 5) (aCons (eIf (bE (eOp dEq (eCallD 2 mf_Ltake [] (aCons (eVar 0) (aCons (eC (.int 2)) aNil))) (eC (.int 0)))) (eCallD 2 mf_Lbent [] (aCons (eVar 0) (aCons (eVar 5) aNil))) (eCallD 1 mf_Lany [] (aCons (eVar 0) aNil))) aNil)))) aNil))))))
(sSeq (sFor (iSeq (eVar 2)) (gNm 6)
(sSeq (sSet 7 (eCall fReprD (aCons (eVar 6) aNil)))
(sIf (bOr (bE (eOp dNe (eCall fRepr (aCons (eLst (aCons (eCallD 1 mf_is_rules [] (aCons (eVar 6) aNil)) (aCons (eCallN 1 0 1 mf_is_rules (fun xs zs => xs ++ (pick zs 0)) aNil (aCons (eVar 6) aNil)) aNil))) aNil)) (eCall fRepr (aCons (eOp dMul (eLst (aCons (eCallD 1 mf_Ldue [] (aCons (eVar 6) aNil)) aNil)) (eC (.int 2))) aNil)))) (bE (eOp dNe (eCall fReprD (aCons (eVar 6) aNil)) (eVar 7))))
(sRet (eC (.bl false)))
sSkip)))
(sRet (eC (.bl true)))))))))
noncomputable def mf_Lright : FM := mkF 8 mb_Lright

/- law: 0:_law_script, 1:_law_k -/
noncomputable def mb_law : SM :=
(sRet (eCall fAll (aCons (eLc (iRange1 (eCall fMax (aCons (eC (.int 1)) (aCons (eCall fMin (aCons (eCall fLen (aCons (eVar 0) aNil)) (aCons (eC (.int 3)) aNil))) aNil)))) (gNm 1) bYes (eCallD 1 mf_Lright [] (aCons (eCallD 2 mf_Lbox [] (aCons (eVar 0) (aCons (eVar 1) aNil))) aNil)) [1]) aNil)))
noncomputable def mf_law : FM := mkF 2 mb_law

def D.intB (lo hi : Int) : D → Bool
  | .int i => decide (lo ≤ i) && decide (i ≤ hi)
  | _ => false
theorem ev_int01 {B : Nat} {d : D} {lo hi : Int} {s : Store} {Q : D → Store → Prop} (h : d.good B) (k : Q (.bl (d.intB lo hi)) s) : EvF mf_is_integer [d, .int lo, .int hi] s Q := by
  rw [mf_is_integer, ev_mkF]
  unfold mb_is_integer
  walk_at "ev"
  have fin2 : ∀ b : Bool, Q (.bl b) s → EvF (fun _ s2 => fin s (.bl b) s2) [] s Q := fun b q => fin_tree blw_bl (closeOk_refl s) (by rw [List.take_length]; exact q)
  rw [ev_isiI h]
  walk_at "ev"
  cases hI : d.isI with
  | false =>
    rw [if_neg Bool.false_ne_true]
    have e : d.intB lo hi = false := by
      cases d <;> first | rfl | cases hI
    rw [e] at k
    exact fin2 _ k
  | true =>
    rw [if_pos rfl, ev_isiB h]
    walk_at "ev"
    cases hB : d.isB with
    | true =>
      rw [if_neg (by decide)]
      have e : d.intB lo hi = false := by
        cases d <;> first | rfl | cases hB
      rw [e] at k
      exact fin2 _ k
    | false =>
      rw [if_pos (by decide)]
      obtain ⟨i, rfl⟩ := isI_of hI hB
      walk_at "ev"
      simp only [D.intB] at k
      by_cases h1 : lo ≤ i
      · rw [if_pos h1]
        rw [decide_eq_true h1, Bool.true_and] at k
        exact fin2 _ k
      · rw [if_neg h1]
        rw [decide_eq_false h1, Bool.false_and] at k
        exact fin2 _ k
theorem ev_whole01 {B : Nat} {d : D} {lo hi : Int} {s : Store} {Q : D → Store → Prop} (h : d.good B) (k : Q (.bl (d.intB lo hi)) s) : EvF mf_Lwhole [d, .int lo, .int hi] s Q := ev_int01 h k
/-- strictly ascending -/
def ascL : List Int → Bool
  | a :: b :: r => decide (a < b) && ascL (b :: r)
  | _ => true
def D.lensB (S : Int) : D → Bool
  | .tup xs => (decide (1 ≤ xs.length) && decide (xs.length ≤ 6)) && (xs.all (D.intB 1 S) && (match intsOf xs with
    | some ns => ascL ns
    | none => false))
  | _ => false
def D.rulB : D → Bool
  | .tup [a, v] => a.intB 1 100 && (match a with
    | .int S => v.lensB S
    | _ => false)
  | _ => false
theorem ints_all {xs : List D} {lo hi : Int} (h : xs.all (D.intB lo hi) = true) : ∃ ns : List Int, xs = ns.map .int ∧ intsOf xs = some ns := by
  induction xs with
  | nil => exact ⟨[], rfl, rfl⟩
  | cons x xs ih =>
    rw [List.all_cons, Bool.and_eq_true] at h
    obtain ⟨ns, e, e2⟩ := ih h.2
    cases x with
    | int i => exact ⟨i :: ns, by rw [e]; rfl, by rw [e]; exact intsOf_map (ns := i :: ns)⟩
    | _ => exact absurd h.1 (by simp [D.intB])
theorem asc_zip : ∀ ns : List Int, ((ns.zip (ns.drop 1)).all fun p => decide (p.1 < p.2)) = ascL ns
  | [] => rfl
  | [_] => rfl
  | a :: b :: r => by
    have := asc_zip (b :: r)
    simp only [List.drop_succ_cons, List.drop_zero] at this
    simp only [List.drop_succ_cons, List.drop_zero, List.zip_cons_cons, List.all_cons, ascL, this]
theorem asc_iff : ∀ ns : List Int, ascL ns = true ↔ ns.Pairwise (· < ·)
  | [] => by simp [ascL]
  | [_] => by simp [ascL]
  | a :: b :: r => by
    have ih := asc_iff (b :: r)
    simp only [ascL, Bool.and_eq_true, decide_eq_true_eq, ih, List.pairwise_cons]
    constructor
    · rintro ⟨h1, h2, h3⟩
      refine ⟨fun x hx => ?_, h2, h3⟩
      rcases List.mem_cons.mp hx with rfl | hx
      · exact h1
      · exact Int.lt_trans h1 (h2 x hx)
    · rintro ⟨h1, h2⟩
      exact ⟨h1 b List.mem_cons_self, h2⟩
theorem fin01 {st : Store} {b : Nat} {c r : D} {ex : List D} {Q : D → Store → Prop} (h : r.blw 0 = true) (hc : c.blw 0 = true) (hlt : b < st.length) (q : Q r (st.set b c)) : EvF (fun _ s => fin st r s) [] (st.set b c ++ ex) Q := by
  refine fin_tree h (closeOk_set st ex b c hc) ?_
  have e : (st.set b c ++ ex).take st.length = st.set b c := by
    rw [List.take_append_of_le_length (by rw [List.length_set]; exact Nat.le_refl _), List.take_of_length_le (by rw [List.length_set]; exact Nat.le_refl _)]
  rw [e]
  exact q
/-- the tail of both: a tuple of lengths -/
theorem ev_are01 {B : Nat} {d : D} {S : Int} {s : Store} {Q : D → Store → Prop} (h : d.good B) (k : Q (.bl (d.lensB S)) s) : EvF mf_are_lengths [d, .int S] s Q := by
  rw [mf_are_lengths, ev_mkF]
  unfold mb_are_lengths
  rw [ev_seq]
  generalize hQR : thenS _ _ = QR
  have fin2 : ∀ b : Bool, Q (.bl b) s → EvF (fun _ s2 => fin s (.bl b) s2) [] s Q := fun b q => fin_tree blw_bl (closeOk_refl s) (by rw [List.take_length]; exact q)
  walk_at "ev"
  rw [ev_isiT h]
  walk_at "ev"
  cases hT : d.isT with
  | false =>
    rw [if_pos rfl, ← hQR]
    have e : d.lensB S = false := by cases d <;> first | rfl | cases hT
    rw [e] at k
    walk_at "ev"
    exact fin2 _ k
  | true =>
    rw [if_neg (by decide)]
    obtain ⟨xs, rfl⟩ := isT_of hT
    have gx := good_tup.mp h
    have no : (decide (1 ≤ xs.length) && decide (xs.length ≤ 6)) = false → QR (Out.rt (D.bl false)) s := fun e => by
      rw [← hQR]
      walk_at "ev"
      refine fin2 _ ?_
      have e2 : (D.tup xs).lensB S = false := by simp only [D.lensB, e, Bool.false_and]
      rwa [e2] at k
    walk_at "ev"
    by_cases h1 : 1 ≤ xs.length
    · rw [if_pos (by omega)]
      by_cases h6 : xs.length ≤ 6
      · rw [decide_eq_true (show (xs.length : Int) ≤ 6 by omega)]
        rw [if_neg (by decide), ← hQR]
        rw [then_nx, ev_seq]
        generalize hQ2 : thenS _ _ = Q2
        walk_at "ev"
        refine lc_map (fun _ => true) (fun d => .bl (d.intB 1 S)) trivial ?_ ?_
        · intro d hd
          refine ⟨_, rfl, ?_⟩
          walk_at "ev"
          exact fun _ => ev_int01 (gx d hd) ⟨rfl, rfl⟩
        rw [filter_yes]
        have em : (xs.map fun d => D.bl (d.intB 1 S)) = (xs.map (D.intB 1 S)).map D.bl := by rw [List.map_map]; rfl
        refine ⟨Nat.le_trans (show _ ≤ 6 by rw [List.length_map]; exact h6) (by decide), ?_⟩
        rw [em, ev_all, List.all_map]
        have e3 : (xs.all (id ∘ D.intB 1 S)) = xs.all (D.intB 1 S) := rfl
        rw [e3]
        refine ⟨_, rfl, ?_⟩
        have dl : (decide (1 ≤ xs.length) && decide (xs.length ≤ 6)) = true := by rw [decide_eq_true h1, decide_eq_true h6]; rfl
        cases ha : xs.all (D.intB 1 S) with
        | false =>
          rw [if_pos rfl, ← hQ2]
          have e2 : (D.tup xs).lensB S = false := by simp only [D.lensB, ha, Bool.false_and, Bool.and_false]
          rw [e2] at k
          walk_at "ev"
          exact fin2 _ k
        | true =>
          rw [if_neg (by decide), ← hQ2]
          obtain ⟨ns, rfl, e4⟩ := ints_all ha
          have e2 : (D.tup (ns.map D.int)).lensB S = ascL ns := by simp only [D.lensB, ha, dl, e4, Bool.true_and]
          rw [e2] at k
          walk_at "ev"
          refine ⟨_, slFrom (w := 1), ?_⟩
          refine ⟨_, _, rfl, _, _, rfl, rfl, ?_⟩
          have ez : zipped (ns.map D.int) ((ns.map D.int).drop 1) = (ns.zip (ns.drop 1)).map fun p => D.tup [.int p.1, .int p.2] := by
            rw [← List.map_drop]
            unfold zipped
            rw [List.zip, List.map_zipWith, List.zipWith_map]
          rw [ez]
          refine lc_mapM (fun _ => true) (fun p => .bl (decide (p.1 < p.2))) ⟨trivial, trivial⟩ ?_ ?_
          · intro p _
            refine ⟨_, rfl, ?_⟩
            walk_at "ev"
            exact fun _ => trivial
          rw [filter_yes]
          have em2 : ((ns.zip (ns.drop 1)).map fun p => D.bl (decide (p.1 < p.2))) = ((ns.zip (ns.drop 1)).map fun p => decide (p.1 < p.2)).map D.bl := by rw [List.map_map]; rfl
          refine ⟨Nat.le_trans (show _ ≤ 6 by rw [List.length_map, List.length_zip]; rw [List.length_map] at h6; omega) (by decide), ?_⟩
          rw [em2, ev_all, List.all_map]
          have e5 := asc_zip ns
          have e6 : ((ns.zip (ns.drop 1)).all (id ∘ fun p => decide (p.1 < p.2))) = ascL ns := e5
          rw [e6]
          exact fin2 _ k
      · rw [decide_eq_false (show ¬ (xs.length : Int) ≤ 6 by omega)]
        rw [if_pos rfl]
        exact no (by rw [decide_eq_false h6, Bool.and_false])
    · rw [if_neg (by omega)]
      exact no (by rw [decide_eq_false h1, Bool.false_and])
theorem ev_rules01 {B : Nat} {d : D} {s : Store} {Q : D → Store → Prop} (h : d.good B) (k : Q (.bl d.rulB) s) : EvF mf_is_rules [d] s Q := by
  rw [mf_is_rules, ev_mkF]
  unfold mb_is_rules
  rw [ev_seq]
  generalize hQR : thenS _ _ = QR
  have fin2 : ∀ b : Bool, Q (.bl b) s → EvF (fun _ s2 => fin s (.bl b) s2) [] s Q := fun b q => fin_tree blw_bl (closeOk_refl s) (by rw [List.take_length]; exact q)
  have no : d.rulB = false → QR (Out.rt (D.bl false)) s := fun e => by
    rw [← hQR]
    rw [e] at k
    walk_at "ev"
    exact fin2 _ k
  walk_at "ev"
  rw [ev_isiT h]
  walk_at "ev"
  cases hT : d.isT with
  | false =>
    rw [if_pos rfl]
    exact no (by cases d <;> first | rfl | cases hT)
  | true =>
    rw [if_neg (by decide)]
    obtain ⟨xs, rfl⟩ := isT_of hT
    have gx := good_tup.mp h
    walk_at "ev"
    by_cases h2 : xs.length = 2
    · obtain ⟨a, v, rfl⟩ : ∃ a v, xs = [a, v] := by
        match xs, h2 with
        | [a, v], _ => exact ⟨a, v, rfl⟩
      rw [decide_eq_true (by rfl), if_neg (by decide)]
      walk_at "ev"
      refine ev_int01 (gx a (by simp)) ?_
      refine ⟨_, rfl, ?_⟩
      cases ha : a.intB 1 100 with
      | false =>
        rw [if_pos rfl]
        exact no (by simp only [D.rulB, ha, Bool.false_and])
      | true =>
        rw [if_neg (by decide), ← hQR]
        cases a with
        | int S =>
          walk_at "ev"
          refine ev_are01 (gx v (by simp)) ?_
          refine fin2 _ ?_
          have e : (D.tup [.int S, v]).rulB = v.lensB S := by simp only [D.rulB, ha, Bool.true_and]
          rwa [e] at k
        | _ => exact absurd ha (by simp [D.intB])
    · rw [decide_eq_false (by omega), if_pos rfl]
      refine no ?_
      match xs, h2 with
      | [], _ => rfl
      | [_], _ => rfl
      | _ :: _ :: _ :: _, _ => rfl
theorem iset_asc {ns : List Int} : decide (ns = iset ns) = ascL ns := by
  rw [Bool.eq_iff_iff, decide_eq_true_eq, asc_iff]
  constructor
  · intro e
    rw [e]
    exact iset_pw
  · intro h
    exact iset_ext h iset_pw fun x => iset_mem.symm
theorem ev_due01 {B : Nat} {d : D} {s : Store} {Q : D → Store → Prop} (h : d.good B) (k : Q (.bl d.rulB) s) : EvF mf_Ldue [d] s Q := by
  rw [mf_Ldue, ev_mkF]
  unfold mb_Ldue
  rw [ev_seq]
  generalize hQR : thenS _ _ = QR
  have fin2 : ∀ b : Bool, Q (.bl b) s → EvF (fun _ s2 => fin s (.bl b) s2) [] s Q := fun b q => fin_tree blw_bl (closeOk_refl s) (by rw [List.take_length]; exact q)
  have no : d.rulB = false → QR (Out.rt (D.bl false)) s := fun e => by
    rw [← hQR]
    rw [e] at k
    walk_at "ev"
    exact fin2 _ k
  walk_at "ev"
  rw [ev_isiT h]
  walk_at "ev"
  cases hT : d.isT with
  | false =>
    rw [if_pos rfl]
    exact no (by cases d <;> first | rfl | cases hT)
  | true =>
    rw [if_neg (by decide)]
    obtain ⟨xs, rfl⟩ := isT_of hT
    have gx := good_tup.mp h
    walk_at "ev"
    by_cases h2 : xs.length = 2
    · obtain ⟨a, v, rfl⟩ : ∃ a v, xs = [a, v] := by
        match xs, h2 with
        | [a, v], _ => exact ⟨a, v, rfl⟩
      rw [decide_eq_true (by rfl), if_neg (by decide)]
      walk_at "ev"
      refine ev_whole01 (gx a (by simp)) ?_
      refine ⟨_, rfl, ?_⟩
      cases ha : a.intB 1 100 with
      | false =>
        rw [if_pos rfl]
        exact no (by simp only [D.rulB, ha, Bool.false_and])
      | true =>
        rw [if_neg (by decide), ← hQR]
        cases a with
        | int S =>
          have e : (D.tup [.int S, v]).rulB = v.lensB S := by simp only [D.rulB, ha, Bool.true_and]
          rw [e] at k
          have gv := gx v (by simp)
          rw [then_nx, ev_seq]
          generalize hQ2 : thenS _ _ = Q2
          have no2 : v.lensB S = false → Q2 (Out.rt (D.bl false)) s := fun e => by
            rw [← hQ2]
            rw [e] at k
            walk_at "ev"
            exact fin2 _ k
          walk_at "ev"
          rw [ev_isiT gv]
          walk_at "ev"
          cases hV : v.isT with
          | false =>
            rw [if_pos rfl]
            exact no2 (by cases v <;> first | rfl | cases hV)
          | true =>
            rw [if_neg (by decide)]
            obtain ⟨ys, rfl⟩ := isT_of hV
            have gy := good_tup.mp gv
            have no3 : (decide (1 ≤ ys.length) && decide (ys.length ≤ 6)) = false → Q2 (Out.rt (D.bl false)) s := fun e => no2 (by simp only [D.lensB, e, Bool.false_and])
            walk_at "ev"
            by_cases h1 : 1 ≤ ys.length
            · rw [if_pos (by omega)]
              by_cases h6 : ys.length ≤ 6
              · rw [decide_eq_true (show (ys.length : Int) ≤ 6 by omega), if_neg (by decide), ← hQ2, then_nx, ev_seq]
                generalize hQ3 : thenS _ _ = Q3
                walk_at "ev"
                refine lc_map (fun _ => true) (fun d => .bl (d.intB 1 S)) trivial ?_ ?_
                · intro d hd
                  refine ⟨_, rfl, ?_⟩
                  walk_at "ev"
                  exact fun _ => ev_whole01 (gy d hd) ⟨rfl, rfl⟩
                rw [filter_yes]
                have em : (ys.map fun d => D.bl (d.intB 1 S)) = (ys.map (D.intB 1 S)).map D.bl := by rw [List.map_map]; rfl
                refine ⟨Nat.le_trans (show _ ≤ 6 by rw [List.length_map]; exact h6) (by decide), ?_⟩
                rw [em, ev_all, List.all_map]
                have e3 : (ys.all (id ∘ D.intB 1 S)) = ys.all (D.intB 1 S) := rfl
                rw [e3]
                refine ⟨_, rfl, ?_⟩
                have dl : (decide (1 ≤ ys.length) && decide (ys.length ≤ 6)) = true := by rw [decide_eq_true h1, decide_eq_true h6]; rfl
                cases hA : ys.all (D.intB 1 S) with
                | false =>
                  rw [if_pos rfl, ← hQ3]
                  have e2 : (D.tup ys).lensB S = false := by simp only [D.lensB, hA, Bool.false_and, Bool.and_false]
                  rw [e2] at k
                  walk_at "ev"
                  exact fin2 _ k
                | true =>
                  rw [if_neg (by decide), ← hQ3]
                  obtain ⟨ns, rfl, e4⟩ := ints_all hA
                  have e2 : (D.tup (ns.map D.int)).lensB S = ascL ns := by simp only [D.lensB, hA, dl, e4, Bool.true_and]
                  rw [e2, ← iset_asc] at k
                  rw [List.length_map] at h6
                  walk_at "ev"
                  refine ⟨ns, ?_, by omega, _, eq_intsL, ?_⟩
                  · exact intsOf_map _
                  · exact fin2 _ k
              · rw [decide_eq_false (show ¬ (ys.length : Int) ≤ 6 by omega), if_pos rfl]
                exact no3 (by rw [decide_eq_false h6, Bool.and_false])
            · rw [if_neg (by omega)]
              exact no3 (by rw [decide_eq_false h1, Bool.false_and])
        | _ => exact absurd ha (by simp [D.intB])
    · rw [decide_eq_false (by omega), if_pos rfl]
      refine no ?_
      match xs, h2 with
      | [], _ => rfl
      | [_], _ => rfl
      | _ :: _ :: _ :: _, _ => rfl
/-- a thing that is asked about -/
structure Thing (d : D) : Prop where
  good : d.good 2
  dep : d.dep ≤ 25
  sz : d.sz ≤ 9000000
theorem get_app {α : Type} {s l : List α} {n : Nat} {x : α} (h : s[n]? = some x) : (s ++ l)[n]? = some x := by
  rw [List.getElem?_append_left (List.getElem?_eq_some_iff.mp h).1]
  exact h
theorem cat01 {s : Store} {n m : Nat} {xs ys : List D} (h : s[n]? = some (.lst xs)) (h2 : s[m]? = some (.lst ys)) (hz : xs.length + ys.length ≤ 1000) : dCat (.ref n) (.ref m) s = some (xs ++ ys) := by
  simp only [dCat, seqL_cell h, seqL_cell h2]
  exact if_pos (Nat.le_trans hz (by decide))
theorem ev_bent14 {d : D} {st : Store} {b m B : Nat} {c : D} {Q : D → Store → Prop} (hb : st[b]? = some c) (hc : BoxC m c) (hm : m + 400 < 2 ^ 40) (hg : d.good B) (hB : B ≤ 1000) (hd : d.dep < 14) (hz : d.sz ≤ 4000000)
    (k : ∀ r c', Bent B d r → BoxC (m + 300) c' → Q r (st.set b c')) : EvF mf_Lbent [.ref b, d] st Q := by
  rw [mf_Lbent]
  exact ev_bent 14 hb hc (by omega) hg (Nat.le_trans (Nat.succ_le_succ hB) (by decide)) hd hz fun r c' R B2 => k r c' R (B2.mono (by omega))
theorem good_int {B : Nat} {i : Int} (h : i.natAbs ≤ 10 ^ 30) : (D.int i).good B := by
  simp only [D.good]
  omega
theorem szs_ints : ∀ ls : List Int, D.szs (ls.map D.int) = 64 * ls.length
  | [] => rfl
  | l :: ls => by simp only [List.map_cons, D.szs, D.sz, szs_ints ls, List.length_cons]; omega
theorem book_thing {S : Int} {ls : List Int} (R : Rules S ls) : (D.tup [.int S, .tup (ls.map .int)]).good 0 ∧ (D.tup [.int S, .tup (ls.map .int)]).dep ≤ 2 ∧ (D.tup [.int S, .tup (ls.map .int)]).sz ≤ 600 := by
  have h6 := R.six
  have s1 := R.s1
  have s2 := R.s2
  refine ⟨good_tup.mpr fun d hd => ?_, ?_, ?_⟩
  · rcases List.mem_cons.mp hd with rfl | hd
    · exact good_int (by omega)
    · rw [List.mem_singleton.mp hd]
      refine good_tup.mpr fun e he => ?_
      obtain ⟨l, hl, rfl⟩ := List.mem_map.mp he
      have := R.mem l hl
      exact good_int (by omega)
  · have h : D.deps (ls.map D.int) ≤ 0 := deps_le.mpr fun d hd => by
      obtain ⟨l, _, rfl⟩ := List.mem_map.mp hd
      exact Nat.le_refl 0
    simp only [D.dep, D.deps]
    omega
  · simp only [D.sz, D.szs, szs_ints]
    omega
def K01I (st : Store) (b m n : Nat) (S : D) (i : Nat) (env : Env) (s : Store) : Prop := ∃ c ex xs x3 x4 x5 x6 x7, BoxC (m + 1000 * i) c ∧ s = st.set b c ++ ex ∧ s[n]? = some (.lst xs) ∧ xs.length ≤ 30 + 3 * i ∧ (∀ d ∈ xs, Thing d) ∧
  env = [some (.ref b), some S, some (.ref n), x3, x4, x5, x6, x7]
def K01J (S : Option D) (b n : Nat) (s0 : Store) (_ : Nat) (env : Env) (s : Store) : Prop := ∃ x3 x4 x5 x6 x7, s = s0 ∧ env = [some (.ref b), S, some (.ref n), x3, x4, x5, x6, x7]
theorem ev_loop01 {st : Store} {b m n : Nat} {c S : D} {ex xs : List D} {QS : Out → Store → Prop} (hlt : b < st.length) (hc : BoxC m c) (hm : m + 40000 < 2 ^ 40) (hn : st.length ≤ n) (hx : (st.set b c ++ ex)[n]? = some (.lst xs)) (hl : xs.length ≤ 30) (ht : ∀ d ∈ xs, Thing d)
    (k : ∀ c' ex', BoxC (m + 20000) c' → QS (.rt (.bl true)) (st.set b c' ++ ex')) :
    EvS (sSeq (sFor (iRange1 (eC (.int 20))) (gNm 3) (sSeq (sSet 4 (eCallD 2 mf_Lbook [] (aCons (eVar 0) (aCons (eCallD 2 mf_Lof [] (aCons (eVar 0) (aCons (eLst (aCons (eC (.int 9)) (aCons (eC (.int 100)) aNil))) aNil))) aNil)))) (sSeq (sSet 5 (eCallD 2 mf_Lbent [] (aCons (eVar 0) (aCons (eVar 4) aNil)))) (sDrop (eBM "list" mExtend (eVar 2) (aCons (eLst (aCons (eVar 4) (aCons (eVar 5) (aCons (eIf (bE (eOp dEq (eCallD 2 mf_Ltake [] (aCons (eVar 0) (aCons (eC (.int 2)) aNil))) (eC (.int 0)))) (eCallD 2 mf_Lbent [] (aCons (eVar 0) (aCons (eVar 5) aNil))) (eCallD 1 mf_Lany [] (aCons (eVar 0) aNil))) aNil)))) aNil)))))) (sSeq (sFor (iSeq (eVar 2)) (gNm 6) (sSeq (sSet 7 (eCall fReprD (aCons (eVar 6) aNil))) (sIf (bOr (bE (eOp dNe (eCall fRepr (aCons (eLst (aCons (eCallD 1 mf_is_rules [] (aCons (eVar 6) aNil)) (aCons (eCallN 1 0 1 mf_is_rules (fun xs zs => xs ++ (pick zs 0)) aNil (aCons (eVar 6) aNil)) aNil))) aNil)) (eCall fRepr (aCons (eOp dMul (eLst (aCons (eCallD 1 mf_Ldue [] (aCons (eVar 6) aNil)) aNil)) (eC (.int 2))) aNil)))) (bE (eOp dNe (eCall fReprD (aCons (eVar 6) aNil)) (eVar 7)))) (sRet (eC (.bl false))) sSkip))) (sRet (eC (.bl true))))) [some (.ref b), some S, some (.ref n), none, none, none, none, none] (st.set b c ++ ex) QS := by
  rw [ev_seq]
  generalize hQR : thenS _ _ = QR
  walk_at "ev"
  refine ⟨by decide, by decide, ?_⟩
  refine for_inv (K01I st b m n S) ⟨c, ex, xs, _, _, _, _, _, hc, rfl, hx, by omega, ht, rfl⟩ (fun _ _ _ _ _ => trivial) ?_ ?_
  · rintro i hi env s ⟨c1, ex1, xs1, x3, x4, x5, x6, x7, B1, rfl, hx1, hl1, ht1, rfl⟩
    have hi' : i < 20 := hi
    refine ⟨_, rfl, ?_⟩
    walk_at "ev"
    have hb1 : ∀ c (ex : List D), (st.set b c ++ ex)[b]? = some c := fun c ex => get_app (cell_b0 hlt)
    have hs1 : ∀ c d (ex : List D), (st.set b c ++ ex).set b d = st.set b d ++ ex := fun c d ex => by
      rw [List.set_append_left _ _ (by rw [List.length_set]; exact hlt), List.set_set]
    refine ev_of (hb1 _ _) B1 (by omega) (.inl rfl) (blws_cons blw_int (blws_cons blw_int blws_nil)) (by simp) (by show 2 < 2 ^ 60; decide) fun w c2 hw B2 => ?_
    rw [hs1]
    obtain ⟨top, rfl, t1, t2⟩ : ∃ top : Int, w = .int top ∧ 1 ≤ top ∧ top ≤ 100 := by
      simp only [List.mem_cons, List.not_mem_nil, or_false] at hw
      rcases hw with rfl | rfl <;> exact ⟨_, rfl, by decide, by decide⟩
    refine ev_book (hb1 _ _) B2 (by omega) t1 t2 fun S2 ls c3 R _ B3 => ?_
    rw [hs1]
    obtain ⟨g1, g2, g3⟩ := book_thing R
    generalize (D.tup [.int S2, .tup (ls.map .int)]) = bk at g1 g2 g3
    walk_at "ev"
    refine ev_bent14 (hb1 _ _) B3 (by omega) g1 (by decide) (by omega) (by omega) fun r c4 R4 B4 => ?_
    rw [hs1]
    walk_at "ev"
    have r1 := R4.dep
    have r2 := R4.sz
    have hx4 : ∀ c6, (st.set b c6 ++ ex1)[n]? = some (.lst xs1) := fun c6 => by
      rw [List.getElem?_append_right (by rw [List.length_set]; exact hn)] at hx1 ⊢
      rw [List.length_set] at hx1 ⊢
      exact hx1
    have done : ∀ v c6, Thing v → BoxC (m + 1000 * i + 900) c6 → ∃ d s', mExtend (.ref n) [.lst [bk, r, v]] (st.set b c6 ++ ex1) = some (d, s') ∧ ∀ x, K01I st b m n S (i + 1) [some (.ref b), some S, some (.ref n), x, some bk, some r, x6, x7] s' := by
      intro v c6 tv B6
      have hx6 : (st.set b c6 ++ ex1)[n]? = some (.lst xs1) := by
        rw [List.getElem?_append_right (by rw [List.length_set]; exact hn)] at hx1 ⊢
        rw [List.length_set] at hx1 ⊢
        exact hx1
      have hlen : xs1.length + [bk, r, v].length ≤ 1000 := by simp only [List.length_cons, List.length_nil]; omega
      refine ⟨_, _, ext_cell hx6 (show seqL _ (.lst [bk, r, v]) = some _ from rfl) (Nat.le_trans hlen (by decide)), fun x => ⟨c6, ex1.set (n - (st.set b c6).length) (.lst (xs1 ++ [bk, r, v])), xs1 ++ [bk, r, v], _, _, _, _, _, B6.mono (by omega), ?_, ?_, ?_, ?_, rfl⟩⟩
      · exact List.set_append_right _ _ (by rw [List.length_set]; exact hn)
      · exact List.getElem?_set_self (List.getElem?_eq_some_iff.mp hx6).1
      · simp only [List.length_append, List.length_cons, List.length_nil]; omega
      · intro d hd
        rcases List.mem_append.mp hd with hd | hd
        · exact ht1 d hd
        · simp only [List.mem_cons, List.not_mem_nil, or_false] at hd
          rcases hd with rfl | rfl | rfl
          · exact ⟨good_mono (by decide) g1, by omega, by omega⟩
          · exact ⟨good_mono (by decide) R4.good, by omega, by omega⟩
          · exact tv
    refine ⟨tyD_cell (hx4 c4), ?_⟩
    refine ev_take (hb1 _ _) B4 (by omega) (by decide) (by decide) fun q c5 q0 q1 B5 => ?_
    rw [hs1]
    walk_at "ev"
    by_cases hq : q = 0
    · rw [if_pos hq]
      refine ev_bent14 (hb1 _ _) B5 (by omega) R4.good (by decide) (by omega) (by omega) fun v c6 R6 B6 => ?_
      rw [hs1]
      have v1 := R6.dep
      have v2 := R6.sz
      obtain ⟨d, s', e, q⟩ := done v c6 ⟨R6.good, by omega, by omega⟩ (B6.mono (by omega))
      exact ⟨d, s', e, q _⟩
    · rw [if_neg hq]
      refine ev_anyv (hb1 _ _) B5 (by omega) fun v c6 hv B6 => ?_
      rw [hs1]
      obtain ⟨a1, a2, a3⟩ := hv.good
      obtain ⟨d, s', e, q⟩ := done v c6 ⟨good_mono (by decide) a1, by omega, Nat.le_trans a3 (by decide)⟩ (B6.mono (by omega))
      exact ⟨d, s', e, q _⟩
  · rintro env s ⟨c1, ex1, xs1, x3, x4, x5, x6, x7, B1, rfl, hx1, hl1, ht1, rfl⟩
    rw [intsTo_len] at B1 hl1
    rw [← hQR]
    walk_at "ev"
    refine ⟨xs1, hx1, ?_⟩
    refine for_inv (K01J (some S) b n (st.set b c1 ++ ex1)) ⟨_, _, _, _, _, rfl, rfl⟩ (fun _ _ _ _ ⟨_, _, _, _, _, e, _⟩ => e ▸ hx1) ?_ ?_
    · rintro i hi env s ⟨y3, y4, y5, y6, y7, rfl, rfl⟩
      obtain ⟨t1, t2, t3⟩ := ht1 _ (List.getElem_mem hi)
      generalize xs1[i] = d at t1 t2 t3
      refine ⟨_, rfl, ?_⟩
      walk_at "ev"
      refine ev_reprD t1 (by decide) (by omega) (by omega) ?_
      walk_at "ev"
      refine ev_rules01 t1 ?_
      walk_at "ev"
      refine ev_rules01 t1 ?_
      have rp : ∀ b : Bool, RP 1000 2 (.lst [.bl b, .bl b]) (.list [.bool b, .bool b]) := fun b => (RPs.lst (.cons RP.bl (.cons RP.bl .nil))).mono (by simp only [List.length_cons, List.length_nil]; omega) (by decide)
      refine ev_repr (rp _) (by decide) (by decide) ?_
      refine ev_due01 t1 ?_
      refine ⟨_, mul_lst (by decide) (by decide) (by show 1 * 2 ≤ sizeLine; decide), ?_⟩
      refine ev_repr (rp _) (by decide) (by decide) ?_
      refine ⟨_, ne_str, _, rfl, ?_⟩
      rw [decide_eq_true rfl, if_neg (by decide)]
      refine ev_reprD t1 (by decide) (by omega) (by omega) ?_
      refine ⟨_, ne_str, _, rfl, ?_⟩
      rw [decide_eq_true rfl, if_neg (by decide)]
      exact ⟨_, _, _, _, _, rfl, rfl⟩
    · rintro env s ⟨y3, y4, y5, y6, y7, rfl, rfl⟩
      walk_at "ev"
      exact k c1 ex1 (B1.mono (by omega))
theorem ev_right {st : Store} {b m : Nat} {c : D} {Q : D → Store → Prop} (hb : st[b]? = some c) (hc : BoxC m c) (hm : m + 50000 < 2 ^ 40) (k : ∀ c', BoxC (m + 30000) c' → Q (.bl true) (st.set b c')) : EvF mf_Lright [.ref b] st Q := by
  have hlt := up_lt hb
  rw [mf_Lright, ev_mkF]
  unfold mb_Lright
  generalize hREST : (sSeq (sFor (iRange1 (eC (.int 20))) (gNm 3) (sSeq (sSet 4 (eCallD 2 mf_Lbook [] (aCons (eVar 0) (aCons (eCallD 2 mf_Lof [] (aCons (eVar 0) (aCons (eLst (aCons (eC (.int 9)) (aCons (eC (.int 100)) aNil))) aNil))) aNil)))) (sSeq (sSet 5 (eCallD 2 mf_Lbent [] (aCons (eVar 0) (aCons (eVar 4) aNil)))) (sDrop (eBM "list" mExtend (eVar 2) (aCons (eLst (aCons (eVar 4) (aCons (eVar 5) (aCons (eIf (bE (eOp dEq (eCallD 2 mf_Ltake [] (aCons (eVar 0) (aCons (eC (.int 2)) aNil))) (eC (.int 0)))) (eCallD 2 mf_Lbent [] (aCons (eVar 0) (aCons (eVar 5) aNil))) (eCallD 1 mf_Lany [] (aCons (eVar 0) aNil))) aNil)))) aNil)))))) (sSeq (sFor (iSeq (eVar 2)) (gNm 6) (sSeq (sSet 7 (eCall fReprD (aCons (eVar 6) aNil))) (sIf (bOr (bE (eOp dNe (eCall fRepr (aCons (eLst (aCons (eCallD 1 mf_is_rules [] (aCons (eVar 6) aNil)) (aCons (eCallN 1 0 1 mf_is_rules (fun xs zs => xs ++ (pick zs 0)) aNil (aCons (eVar 6) aNil)) aNil))) aNil)) (eCall fRepr (aCons (eOp dMul (eLst (aCons (eCallD 1 mf_Ldue [] (aCons (eVar 6) aNil)) aNil)) (eC (.int 2))) aNil)))) (bE (eOp dNe (eCall fReprD (aCons (eVar 6) aNil)) (eVar 7)))) (sRet (eC (.bl false))) sSkip))) (sRet (eC (.bl true))))) = REST
  walk_at "ev"
  refine ev_take hb hc (by omega) (by decide) (by decide) fun r c1 r0 r1 B1 => ?_
  walk_at "ev"
  have ln : ∀ (xs ys : List D), xs.length = 7 → ys.length = 5 → xs.length + ys.length ≤ 1000 := fun xs ys h1 h2 => by omega
  have ln2 : ∀ (xs ys zs : List D), xs.length = 7 → ys.length = 5 → zs.length = 7 → (xs ++ ys).length + zs.length ≤ 1000 := fun xs ys zs h1 h2 h3 => by rw [List.length_append]; omega
  refine ⟨_, cat01 (get_app cell_n) cell_n0 (ln _ _ rfl rfl), _, cat01 (get_app cell_n0) cell_n0 (ln2 _ _ _ rfl rfl rfl), ?_⟩
  have go : ∀ (A B' Z C : D) (zs : List D), zs.length ≤ 30 → (∀ d ∈ zs, Thing d) → EvS REST [some (.ref b), some (.int (1 + r)), some (.ref (List.length (st.set b c1 ++ [A] ++ [B'] ++ [Z] ++ [C]))), none, none, none, none, none] (st.set b c1 ++ [A] ++ [B'] ++ [Z] ++ [C] ++ [.lst zs]) (outF st Q) := by
    intro A B' Z C zs hl ht
    rw [← hREST]
    have e : st.set b c1 ++ [A] ++ [B'] ++ [Z] ++ [C] ++ [.lst zs] = st.set b c1 ++ ([A] ++ [B'] ++ [Z] ++ [C] ++ [.lst zs]) := by simp only [List.append_assoc]
    have hx : (st.set b c1 ++ ([A] ++ [B'] ++ [Z] ++ [C] ++ [.lst zs]))[List.length (st.set b c1 ++ [A] ++ [B'] ++ [Z] ++ [C])]? = some (.lst zs) := by
      rw [← e]
      exact cell_n0
    rw [e]
    refine ev_loop01 hlt B1 (by omega) (by simp only [List.length_append, List.length_set]; omega) hx hl ht fun c' ex' B2 => ?_
    walk_at "ev"
    exact fin01 blw_bl B2.blw hlt (k c' (B2.mono (by omega)))
  refine go _ _ _ _ _ (by simp only [List.length_cons, List.length_nil, List.length_append]; omega) ?_
  intro d hd
  simp only [List.cons_append, List.nil_append, List.mem_cons, List.not_mem_nil, or_false] at hd
  rcases hd with rfl | rfl | rfl | rfl | rfl | rfl | rfl | rfl | rfl | rfl | rfl | rfl | rfl | rfl | rfl | rfl | rfl | rfl | rfl <;>
    exact ⟨by simp only [D.good, D.goods, and_true, true_and]; omega, by simp only [D.dep, D.deps]; omega, by simp only [D.sz, D.szs]; omega⟩
theorem law_due (ns : List Int) (hl : ns.length ≤ 63) : EvF mf_law [.scr ns] [] fun d _ => d = .bl true := by
  rw [mf_law, ev_mkF]
  unfold mb_law
  refine ev_headB hl ?_ ?_
  · intro st c hc
    refine ev_right (m := 0) (up_new _) hc (by decide) fun c' B => ⟨rfl, c', ?_⟩
    exact put_n0
  · intro st
    walk_at "ev"
    exact fin_tree blw_bl (fun i hi => absurd hi (Nat.not_lt_zero _)) rfl
end My

namespace My
open PySem PySem.Spec PyProof.Rows L2
def top (i : Nat) : Stmt := PySem.Challenge.pw_rotatedlogs_k01_rules_of_any_value.main.body.getD i (.Pass ⟨0, 0, 0, 0⟩)
abbrev s_Lbox : Stmt := top 8
abbrev N_Lbox : List Str := ["_law_script", "_law_k", "_law_cell", "_law_own"]
theorem sc_Lbox : FnScope N_Lbox ["_law_script", "_law_k"] (defScope s_Lbox) := ⟨rfl, rfl, rfl, by decide +kernel, rfl, by decide +kernel, by decide +kernel⟩
abbrev s_Ltake : Stmt := top 9
abbrev N_Ltake : List Str := ["_law_box_here", "_law_many", "_law_digit", "_law_mixed"]
theorem sc_Ltake : FnScope N_Ltake ["_law_box_here", "_law_many"] (defScope s_Ltake) := ⟨rfl, rfl, rfl, by decide +kernel, rfl, by decide +kernel, by decide +kernel⟩
abbrev s_Lof : Stmt := top 10
abbrev N_Lof : List Str := ["_law_box_here", "_law_some"]
theorem sc_Lof : FnScope N_Lof ["_law_box_here", "_law_some"] (defScope s_Lof) := ⟨rfl, rfl, rfl, by decide +kernel, rfl, by decide +kernel, by decide +kernel⟩
abbrev s_Lany : Stmt := top 12
abbrev N_Lany : List Str := ["_law_box_here", "_law_some", "_law_found", "_law_turn"]
theorem sc_Lany : FnScope N_Lany ["_law_box_here"] (defScope s_Lany) := ⟨rfl, rfl, rfl, by decide +kernel, rfl, by decide +kernel, by decide +kernel⟩
abbrev s_Lbent : Stmt := top 13
abbrev N_Lbent : List Str := ["_law_box_here", "_law_thing", "_law_at", "_law_way", "_law_some"]
theorem sc_Lbent : FnScope N_Lbent ["_law_box_here", "_law_thing"] (defScope s_Lbent) := ⟨rfl, rfl, rfl, by decide +kernel, rfl, by decide +kernel, by decide +kernel⟩
abbrev s_Lbook : Stmt := top 11
abbrev N_Lbook : List Str := ["_law_box_here", "_law_top", "_law_size", "_law_found", "_law_turn", "_law_some"]
theorem sc_Lbook : FnScope N_Lbook ["_law_box_here", "_law_top"] (defScope s_Lbook) := ⟨rfl, rfl, rfl, by decide +kernel, rfl, by decide +kernel, by decide +kernel⟩
abbrev s_Lwhole : Stmt := top 14
abbrev N_Lwhole : List Str := ["_law_thing", "_law_least", "_law_most"]
theorem sc_Lwhole : FnScope N_Lwhole ["_law_thing", "_law_least", "_law_most"] (defScope s_Lwhole) := ⟨rfl, rfl, rfl, by decide +kernel, rfl, by decide +kernel, by decide +kernel⟩
abbrev s_Ldue : Stmt := top 15
abbrev N_Ldue : List Str := ["_law_thing", "_law_part"]
theorem sc_Ldue : FnScope N_Ldue ["_law_thing"] (defScope s_Ldue) := ⟨rfl, rfl, rfl, by decide +kernel, rfl, by decide +kernel, by decide +kernel⟩
abbrev s_is_integer : Stmt := top 4
abbrev N_is_integer : List Str := ["value", "least", "most"]
theorem sc_is_integer : FnScope N_is_integer ["value", "least", "most"] (defScope s_is_integer) := ⟨rfl, rfl, rfl, by decide +kernel, rfl, by decide +kernel, by decide +kernel⟩
abbrev s_are_lengths : Stmt := top 5
abbrev N_are_lengths : List Str := ["value", "size", "one", "other", "length"]
theorem sc_are_lengths : FnScope N_are_lengths ["value", "size"] (defScope s_are_lengths) := ⟨rfl, rfl, rfl, by decide +kernel, rfl, by decide +kernel, by decide +kernel⟩
abbrev s_is_rules : Stmt := top 6
abbrev N_is_rules : List Str := ["value"]
theorem sc_is_rules : FnScope N_is_rules ["value"] (defScope s_is_rules) := ⟨rfl, rfl, rfl, by decide +kernel, rfl, by decide +kernel, by decide +kernel⟩
abbrev s_Lright : Stmt := top 16
abbrev N_Lright : List Str := ["_law_box_here", "_law_size", "_law_some", "_law_turn", "_law_book_here", "_law_bent_here", "_law_thing", "_law_kept_so"]
theorem sc_Lright : FnScope N_Lright ["_law_box_here"] (defScope s_Lright) := ⟨rfl, rfl, rfl, by decide +kernel, rfl, by decide +kernel, by decide +kernel⟩
abbrev s_law : Stmt := top 17
abbrev N_law : List Str := ["_law_script", "_law_k"]
theorem sc_law : FnScope N_law ["_law_script"] (defScope s_law) := ⟨rfl, rfl, rfl, by decide +kernel, rfl, by decide +kernel, by decide +kernel⟩
structure Txt (K : PySem.W.Frag) (mg : Str → Option Value) : Prop where
  d_Lbox : Df K mg "_law_box" s_Lbox ["_law_script", "_law_k"]
  d_Ltake : Df K mg "_law_take" s_Ltake ["_law_box_here", "_law_many"]
  d_Lof : Df K mg "_law_of" s_Lof ["_law_box_here", "_law_some"]
  d_Lany : Df K mg "_law_any" s_Lany ["_law_box_here"]
  d_Lbent : Df K mg "_law_bent" s_Lbent ["_law_box_here", "_law_thing"]
  d_Lbook : Df K mg "_law_book" s_Lbook ["_law_box_here", "_law_top"]
  d_Lwhole : Df K mg "_law_whole" s_Lwhole ["_law_thing", "_law_least", "_law_most"]
  d_Ldue : Df K mg "_law_due" s_Ldue ["_law_thing"]
  d_is_integer : Df K mg "is_integer" s_is_integer ["value", "least", "most"]
  d_are_lengths : Df K mg "are_lengths" s_are_lengths ["value", "size"]
  d_is_rules : Df K mg "is_rules" s_is_rules ["value"]
  d_Lright : Df K mg "_law_right" s_Lright ["_law_box_here"]
  n_abs : mg "abs" = none
  n_int : mg "int" = none
  n_len : mg "len" = none
  n_range : mg "range" = none
  n_isinstance : mg "isinstance" = none
  n_bool : mg "bool" = none
  n_str : mg "str" = none
  n_tuple : mg "tuple" = none
  n_list : mg "list" = none
  n_sorted : mg "sorted" = none
  n_max : mg "max" = none
  n_set : mg "set" = none
  n_all : mg "all" = none
  n_zip : mg "zip" = none
  n_repr : mg "repr" = none
  n_min : mg "min" = none
  c_MOST_LENGTHS : ∃ t : Tok, mg "MOST_LENGTHS" = some (Value.int (6) t)
  c_GREATEST_SIZE : ∃ t : Tok, mg "GREATEST_SIZE" = some (Value.int (100) t)
  c_PAIR : ∃ t : Tok, mg "PAIR" = some (Value.int (2) t)

section
variable {P : Program} {w : World} {K : PySem.W.Frag} {mg : Str → Option Value} {base : Heap}
theorem ok_Lbox {f : Addr} {fd : FuncData} (T : Txt K mg) (F : Fun K "_law_box" "_law_box" s_Lbox f fd) : FnOk P w K mg base CX0 1 f fd ["_law_script", "_law_k"] (spM (wd K mg) 2 mf_Lbox) := by
  have nd := sc_Lbox.nd
  refine jdK (W := wd K mg) F sc_Lbox (fun cdv A out s H E hr => ?_)
  have hK : K = (wd K mg).K := rfl
  unfold mb_Lbox
  exact (jb_cons (js_set (i := 2) nd rfl (Or.inl rfl) (j_if (jt_cmp jo_lt (jv 1) (j_callB (jc_len hK) (by rfl) T.n_len (by decide +kernel) (ja_cons (jv 0) ja_nil)) (nomark _)) (j_ix (ji_ix hK (hu_of hr)) (jv 0) (jv 1) (fun _ _ => rfl)) (j_op (jo_add hK) (j_op (jo_mul hK) j_int (jv 1)) j_int)))
(jb_cons (js_set (i := 3) nd rfl (Or.inl rfl) (j_op (jo_mul hK) (j_op jo_mod (j_callB jc_abs (by rfl) T.n_abs (by decide +kernel) (ja_cons (jv 2) ja_nil)) (j_op jo_pow (j_op jo_pow j_int j_int) j_int)) (j_callTy jc_int (by rfl) T.n_int (by decide +kernel) (ja_cons (j_cmp jo_ge (j_callB jc_abs (by rfl) T.n_abs (by decide +kernel) (ja_cons (jv 2) ja_nil)) (j_op jo_pow j_int j_int) (nomark _)) ja_nil))))
(jb_one (js_ret (j_lstM (ja_cons (jv 3) (ja_cons (j_op jo_mod (j_op (jo_add hK) (j_op (jo_add hK) (j_op (jo_mul hK) (j_op jo_mod (jv 2) j_int) j_int) (j_op (jo_mul hK) (j_op (jo_mul hK) j_int (jv 1)) (jv 1))) j_int) j_int) (ja_cons j_int ja_nil))))))))
theorem ok_Ltake {f : Addr} {fd : FuncData} (T : Txt K mg) (F : Fun K "_law_take" "_law_take" s_Ltake f fd) : FnOk P w K mg base CX0 1 f fd ["_law_box_here", "_law_many"] (spM (wd K mg) 2 mf_Ltake) := by
  have nd := sc_Ltake.nd
  refine jd (W := wd K mg) F sc_Ltake (fun cdv A out s H E hr => ?_)
  have hK : K = (wd K mg).K := rfl
  unfold mb_Ltake
  exact (jb_cons (js_if (jt_cmp jo_gt (j_ix (ji_ix hK (hu_of hr)) (jv 0) j_int (fun _ _ => rfl)) j_int (nomark _))
(jb_cons (js_set (i := 2) nd rfl (Or.inl rfl) (j_op jo_mod (j_ix (ji_ix hK (hu_of hr)) (jv 0) j_int (fun _ _ => rfl)) (jv 1)))
(jb_cons (js_sub (j_op jo_fdiv (j_ix (ji_ix hK (hu_of hr)) (jv 0) j_int (fun _ _ => rfl)) (jv 1)) (jv 0) j_int (jp_set (hu_of hr)))
(jb_one (js_ret (jv 2)))))
jb_nil)
(jb_cons (js_sub (j_op (jo_add hK) (j_ix (ji_ix hK (hu_of hr)) (jv 0) j_int (fun _ _ => rfl)) j_int) (jv 0) j_int (jp_set (hu_of hr)))
(jb_cons (js_set (i := 3) nd rfl (Or.inl rfl) (j_op jo_mod (j_op (jo_mul hK) (j_op (jo_add hK) (j_op (jo_add hK) (j_ix (ji_ix hK (hu_of hr)) (jv 0) j_int (fun _ _ => rfl)) (j_op (jo_mul hK) (j_op (jo_mul hK) j_int (j_ix (ji_ix hK (hu_of hr)) (jv 0) j_int (fun _ _ => rfl))) (j_ix (ji_ix hK (hu_of hr)) (jv 0) j_int (fun _ _ => rfl)))) j_int) j_int) j_int))
(jb_cons (js_set (i := 3) nd rfl (Or.inl rfl) (j_op jo_mod (j_op (jo_mul hK) (jv 3) (j_op (jo_add hK) (j_op jo_mod (jv 3) j_int) (j_op (jo_mul hK) j_int (j_ix (ji_ix hK (hu_of hr)) (jv 0) j_int (fun _ _ => rfl))))) j_int))
(jb_one (js_ret (j_op jo_mod (j_op (jo_add hK) (j_op jo_fdiv (jv 3) j_int) (j_op jo_fdiv (jv 3) j_int)) (jv 1))))))))
theorem ok_Lof {f : Addr} {fd : FuncData} (T : Txt K mg) (F : Fun K "_law_of" "_law_of" s_Lof f fd) : FnOk P w K mg base CX0 2 f fd ["_law_box_here", "_law_some"] (spM (wd K mg) 2 mf_Lof) := by
  have nd := sc_Lof.nd
  obtain ⟨f_Ltake, fd_Ltake, F_Ltake, m_Ltake, b_Ltake⟩ := T.d_Ltake.ex
  have G_Ltake := ok_Ltake (P := P) (w := w) (mg := mg) (base := base) T F_Ltake
  refine jd (W := wd K mg) F sc_Lof (fun cdv A out s H E hr => ?_)
  have hK : K = (wd K mg).K := rfl
  unfold mb_Lof
  exact (jb_one (js_ret (j_ix (ji_ix hK (hu_of hr)) (jv 1) (j_call G_Ltake (hr.mono (by decide)) rfl m_Ltake F_Ltake.kp b_Ltake .nil (fun _ _ => Reps.nil) pass0 (ja_cons (jv 0) (ja_cons (j_callB (jc_len hK) (by rfl) T.n_len (by decide +kernel) (ja_cons (jv 1) ja_nil)) ja_nil))) (fun _ _ => rfl))))
theorem ok_Lany {f : Addr} {fd : FuncData} (T : Txt K mg) (F : Fun K "_law_any" "_law_any" s_Lany f fd) : FnOk P w K mg base CX0 3 f fd ["_law_box_here"] (spM (wd K mg) 1 mf_Lany) := by
  have nd := sc_Lany.nd
  obtain ⟨f_Lof, fd_Lof, F_Lof, m_Lof, b_Lof⟩ := T.d_Lof.ex
  have G_Lof := ok_Lof (P := P) (w := w) (mg := mg) (base := base) T F_Lof
  refine jd (W := wd K mg) F sc_Lany (fun cdv A out s H E hr => ?_)
  have hK : K = (wd K mg).K := rfl
  unfold mb_Lany
  exact (jb_cons (js_set (i := 1) nd rfl (Or.inl rfl) (j_lst (ja_cons j_non (ja_cons j_bl (ja_cons j_bl (ja_cons j_int (ja_cons j_int (ja_cons (j_un jo_neg j_int) (ja_cons j_int (ja_cons (j_op jo_pow j_int j_int) (ja_cons j_str (ja_cons j_str (ja_cons j_str (ja_cons (j_tup ja_nil) (ja_cons (j_lst ja_nil) (ja_cons j_dk0 (ja_cons (j_tup (ja_cons j_int ja_nil)) (ja_cons (j_lst (ja_cons j_int ja_nil)) (ja_cons (j_tup (ja_cons j_int (ja_cons j_str ja_nil))) (ja_cons (j_tup (ja_cons j_int (ja_cons (j_tup (ja_cons j_int (ja_cons j_int ja_nil))) ja_nil))) ja_nil))))))))))))))))))))
(jb_cons (js_set (i := 2) nd rfl (Or.inl rfl) (j_call G_Lof (hr.mono (by decide)) rfl m_Lof F_Lof.kp b_Lof .nil (fun _ _ => Reps.nil) pass0 (ja_cons (jv 0) (ja_cons (j_op (jo_add hK) (jv 1) (j_lst (ja_cons (j_tup (ja_cons (j_tup (ja_cons j_int (ja_cons j_int ja_nil))) ja_nil)) (ja_cons (j_tup (ja_cons j_int ja_nil)) (ja_cons j_str (ja_cons j_int (ja_cons j_int (ja_cons (j_tup (ja_cons j_bl ja_nil)) (ja_cons j_dispKI ja_nil))))))))) ja_nil))))
(jb_cons (js_for PassesOwn.never rfl (ji_range1 (by rfl) T.n_range (j_call G_Lof (hr.mono (by decide)) rfl m_Lof F_Lof.kp b_Lof .nil (fun _ _ => Reps.nil) pass0 (ja_cons (jv 0) (ja_cons (j_lst (ja_cons j_int (ja_cons j_int (ja_cons j_int (ja_cons j_int (ja_cons j_int (ja_cons j_int ja_nil))))))) ja_nil)))) (jg_name (i := 3) (vs := [3]) nd rfl (Or.inl rfl))
(jb_one (js_set (i := 2) nd rfl (Or.inl rfl) (j_call G_Lof (hr.mono (by decide)) rfl m_Lof F_Lof.kp b_Lof .nil (fun _ _ => Reps.nil) pass0 (ja_cons (jv 0) (ja_cons (j_lst (ja_cons (j_tup (ja_cons (jv 2) ja_nil)) (ja_cons (j_lst (ja_cons (jv 2) ja_nil)) (ja_cons (j_dispKV 2) (ja_cons (j_tup (ja_cons (jv 2) (ja_cons j_int ja_nil))) ja_nil))))) ja_nil))))))
(jb_one (js_ret (jv 2))))))
theorem okn_Lbent (T : Txt K mg) : ∀ (n : Nat) (f : Addr) (fd : FuncData), Fun K "_law_bent" "_law_bent" s_Lbent f fd → FnOk P w K mg base CX0 (4 + n) f fd ["_law_box_here", "_law_thing"] (spM (wd K mg) 2 (mfn_Lbent n))
| 0, f, fd, F => ⟨fun vs H Q E q => spM_len q, fun A outer s H args us vs Q E hr he hb hv q => by
    obtain ⟨_, _, _, _, _, _, _, _, e, _⟩ := q
    exact nomatch (show (none : Option (D × Store)) = some _ from e)⟩
| n + 1, f, fd, F => by
  have G_Lbent := fun f fd => okn_Lbent T n f fd
  obtain ⟨f_Lbent, fd_Lbent, F_Lbent, m_Lbent, b_Lbent⟩ := T.d_Lbent.ex
  replace G_Lbent := G_Lbent f_Lbent fd_Lbent F_Lbent
  have nd := sc_Lbent.nd
  obtain ⟨f_Lany, fd_Lany, F_Lany, m_Lany, b_Lany⟩ := T.d_Lany.ex
  have G_Lany := ok_Lany (P := P) (w := w) (mg := mg) (base := base) T F_Lany
  obtain ⟨f_Ltake, fd_Ltake, F_Ltake, m_Ltake, b_Ltake⟩ := T.d_Ltake.ex
  have G_Ltake := ok_Ltake (P := P) (w := w) (mg := mg) (base := base) T F_Ltake
  obtain ⟨f_Lof, fd_Lof, F_Lof, m_Lof, b_Lof⟩ := T.d_Lof.ex
  have G_Lof := ok_Lof (P := P) (w := w) (mg := mg) (base := base) T F_Lof
  refine jd (W := wd K mg) F sc_Lbent (fun cdv A out s H E hr => ?_)
  have hK : K = (wd K mg).K := rfl
  unfold mbr_Lbent
  exact (jb_cons (js_if (PW.pt (jw_and (jt_val (j_callB (jc_isi hK) (by rfl) T.n_isinstance (by decide +kernel) (ja_cons (jv 1) (ja_cons (tC_of (fun _ _ => ty_rep) (pe_bltn (v := .ty "tuple") (by rfl) T.n_tuple (by decide +kernel) rfl)) ja_nil)))) (jw_and (jt_cmp (jo_neT0 hK (hu65 hr)) (jv 1) (j_tup ja_nil) (nomark _)) (jw_and1 (jt_cmp jo_gt (j_call G_Ltake (hr.mono (show _ ≤ 4 + n by omega)) rfl m_Ltake F_Ltake.kp b_Ltake .nil (fun _ _ => Reps.nil) pass0 (ja_cons (jv 0) (ja_cons j_int ja_nil))) j_int (nomark _))))))
(jb_cons (js_par (i := 2) (j := 3) rfl nd rfl rfl (by decide) rfl rfl (ja_cons (j_call G_Ltake (hr.mono (show _ ≤ 4 + n by omega)) rfl m_Ltake F_Ltake.kp b_Ltake .nil (fun _ _ => Reps.nil) pass0 (ja_cons (jv 0) (ja_cons (j_callB (jc_len hK) (by rfl) T.n_len (by decide +kernel) (ja_cons (jv 1) ja_nil)) ja_nil))) (ja_cons (j_call G_Ltake (hr.mono (show _ ≤ 4 + n by omega)) rfl m_Ltake F_Ltake.kp b_Ltake .nil (fun _ _ => Reps.nil) pass0 (ja_cons (jv 0) (ja_cons j_int ja_nil))) ja_nil)) (by rfl))
(jb_cons (js_if (jt_cmp jo_lt (jv 3) j_int (nomark _))
(jb_one (js_ret (j_op (jo_add hK) (j_op (jo_add hK) (j_slice hK (jv 1) jp_none (jp_some (jv 2))) (j_tup (ja_cons (j_call G_Lbent (hr.mono (show _ ≤ 4 + n by omega)) rfl m_Lbent F_Lbent.kp b_Lbent .nil (fun _ _ => Reps.nil) pass0 (ja_cons (jv 0) (ja_cons (j_ix (ji_ix hK (hu_of hr)) (jv 1) (jv 2) (fun _ _ => rfl)) ja_nil))) ja_nil))) (j_slice hK (jv 1) (jp_some (j_op (jo_add hK) (jv 2) j_int)) jp_none))))
jb_nil)
(jb_cons (js_set (i := 4) nd rfl (Or.inl rfl) (j_lst (ja_cons (j_op (jo_add hK) (j_slice hK (jv 1) jp_none (jp_some (jv 2))) (j_slice hK (jv 1) (jp_some (j_op (jo_add hK) (jv 2) j_int)) jp_none)) (ja_cons (j_op (jo_add hK) (j_slice hK (jv 1) jp_none (jp_some (j_op (jo_add hK) (jv 2) j_int))) (j_slice hK (jv 1) (jp_some (jv 2)) jp_none)) (ja_cons (j_revT hK (jv 1)) (ja_cons (j_callTy (jc_list hK) (by rfl) T.n_list (by decide +kernel) (ja_cons (jv 1) ja_nil)) ja_nil))))))
(jb_one (js_ret (j_ix (ji_ix hK (hu_of hr)) (jv 4) (j_op jo_sub (jv 3) j_int) (fun _ _ => rfl)))))))
jb_nil)
(jb_cons (js_if (PW.pt (jw_and (jt_val (j_callB (jc_isi hK) (by rfl) T.n_isinstance (by decide +kernel) (ja_cons (jv 1) (ja_cons (tC_of (fun _ _ => ty_rep) (pe_bltn (v := .ty "int") (by rfl) T.n_int (by decide +kernel) rfl)) ja_nil)))) (jw_and (jt_not (jt_val (j_callB (jc_isi hK) (by rfl) T.n_isinstance (by decide +kernel) (ja_cons (jv 1) (ja_cons (tC_of (fun _ _ => ty_rep) (pe_bltn (v := .ty "bool") (by rfl) T.n_bool (by decide +kernel) rfl)) ja_nil))))) (jw_and1 (jt_cmp jo_gt (j_call G_Ltake (hr.mono (show _ ≤ 4 + n by omega)) rfl m_Ltake F_Ltake.kp b_Ltake .nil (fun _ _ => Reps.nil) pass0 (ja_cons (jv 0) (ja_cons j_int ja_nil))) j_int (nomark _))))))
(jb_one (js_ret (j_call G_Lof (hr.mono (show _ ≤ 4 + n by omega)) rfl m_Lof F_Lof.kp b_Lof .nil (fun _ _ => Reps.nil) pass0 (ja_cons (jv 0) (ja_cons (j_lst (ja_cons (j_op (jo_add hK) (jv 1) j_int) (ja_cons (j_op jo_sub (jv 1) j_int) (ja_cons (j_un jo_neg (jv 1)) (ja_cons (j_cmp (jo_eq hK hr.units) (jv 1) j_int (nomark _)) (ja_cons (j_callTy jc_str (by rfl) T.n_str (by decide +kernel) (ja_cons (jv 1) ja_nil)) (ja_cons (j_tup (ja_cons (jv 1) ja_nil)) (ja_cons j_non ja_nil)))))))) ja_nil)))))
jb_nil)
(jb_one (js_ret (j_call G_Lany (hr.mono (show _ ≤ 4 + n by omega)) rfl m_Lany F_Lany.kp b_Lany .nil (fun _ _ => Reps.nil) pass0 (ja_cons (jv 0) ja_nil))))))
theorem ok_Lbent {f : Addr} {fd : FuncData} (T : Txt K mg) (F : Fun K "_law_bent" "_law_bent" s_Lbent f fd) : FnOk P w K mg base CX0 18 f fd ["_law_box_here", "_law_thing"] (spM (wd K mg) 2 mf_Lbent) := okn_Lbent (P := P) (w := w) (base := base) T 14 f fd F
theorem ok_Lbook {f : Addr} {fd : FuncData} (T : Txt K mg) (F : Fun K "_law_book" "_law_book" s_Lbook f fd) : FnOk P w K mg base CX0 3 f fd ["_law_box_here", "_law_top"] (spM (wd K mg) 2 mf_Lbook) := by
  have nd := sc_Lbook.nd
  obtain ⟨f_Ltake, fd_Ltake, F_Ltake, m_Ltake, b_Ltake⟩ := T.d_Ltake.ex
  have G_Ltake := ok_Ltake (P := P) (w := w) (mg := mg) (base := base) T F_Ltake
  obtain ⟨f_Lof, fd_Lof, F_Lof, m_Lof, b_Lof⟩ := T.d_Lof.ex
  have G_Lof := ok_Lof (P := P) (w := w) (mg := mg) (base := base) T F_Lof
  refine jd (W := wd K mg) F sc_Lbook (fun cdv A out s H E hr => ?_)
  have hK : K = (wd K mg).K := rfl
  unfold mb_Lbook
  exact (jb_cons (js_par (i := 2) (j := 3) rfl nd rfl rfl (by decide) rfl rfl (ja_cons (j_op (jo_add hK) j_int (j_call G_Ltake (hr.mono (by decide)) rfl m_Ltake F_Ltake.kp b_Ltake .nil (fun _ _ => Reps.nil) pass0 (ja_cons (jv 0) (ja_cons (jv 1) ja_nil)))) (ja_cons j_dkM ja_nil)) (by rfl))
(jb_cons (js_for PassesOwn.never rfl (ji_range1 (by rfl) T.n_range (j_op (jo_add hK) j_int (j_call G_Ltake (hr.mono (by decide)) rfl m_Ltake F_Ltake.kp b_Ltake .nil (fun _ _ => Reps.nil) pass0 (ja_cons (jv 0) (ja_cons j_int ja_nil))))) (jg_name (i := 4) (vs := [4]) nd rfl (Or.inl rfl))
(jb_cons (js_set (i := 5) nd rfl (Or.inl rfl) (j_lst (ja_cons (j_op (jo_add hK) j_int (j_call G_Ltake (hr.mono (by decide)) rfl m_Ltake F_Ltake.kp b_Ltake .nil (fun _ _ => Reps.nil) pass0 (ja_cons (jv 0) (ja_cons (jv 2) ja_nil)))) (ja_cons (j_op (jo_add hK) (j_op jo_fdiv (jv 2) j_int) j_int) (ja_cons j_int (ja_cons (jv 2) (ja_cons (j_callB (jc_max hK rfl) (by rfl) T.n_max (by decide +kernel) (ja_cons j_int (ja_cons (j_op jo_fdiv (jv 2) j_int) ja_nil))) (ja_cons (j_callB (jc_max hK rfl) (by rfl) T.n_max (by decide +kernel) (ja_cons j_int (ja_cons (j_op jo_fdiv (jv 2) j_int) ja_nil))) ja_nil))))))))
(jb_one (js_sub j_bl (jv 3) (j_call G_Lof (hr.mono (by decide)) rfl m_Lof F_Lof.kp b_Lof .nil (fun _ _ => Reps.nil) pass0 (ja_cons (jv 0) (ja_cons (j_op (jo_add hK) (j_op (jo_mul hK) (j_slice hK (jv 5) jp_none (jp_some j_int)) j_int) (jv 5)) ja_nil))) (jp_set (hu_of hr))))))
(jb_one (js_ret (j_tup (ja_cons (jv 2) (ja_cons (j_callTy (jc_tuple hK) (by rfl) T.n_tuple (by decide +kernel) (ja_cons (j_callB (jc_sorted hK rfl) (by rfl) T.n_sorted (by decide +kernel) (ja_cons (jv 3) ja_nil)) ja_nil)) ja_nil)))))))
theorem ok_Lwhole {f : Addr} {fd : FuncData} (T : Txt K mg) (F : Fun K "_law_whole" "_law_whole" s_Lwhole f fd) : FnOk P w K mg base CX0 1 f fd ["_law_thing", "_law_least", "_law_most"] (spM (wd K mg) 3 mf_Lwhole) := by
  have nd := sc_Lwhole.nd
  refine jd (W := wd K mg) F sc_Lwhole (fun cdv A out s H E hr => ?_)
  have hK : K = (wd K mg).K := rfl
  unfold mb_Lwhole
  exact (jb_one (js_ret (j_and (j_callB (jc_isi hK) (by rfl) T.n_isinstance (by decide +kernel) (ja_cons (jv 0) (ja_cons (tC_of (fun _ _ => ty_rep) (pe_bltn (v := .ty "int") (by rfl) T.n_int (by decide +kernel) rfl)) ja_nil))) (j_and (j_not (j_callB (jc_isi hK) (by rfl) T.n_isinstance (by decide +kernel) (ja_cons (jv 0) (ja_cons (tC_of (fun _ _ => ty_rep) (pe_bltn (v := .ty "bool") (by rfl) T.n_bool (by decide +kernel) rfl)) ja_nil)))) (j_one (j_chain jo_le jo_le (jv 1) (jv 0) (jv 2)))))))
theorem ok_Ldue {f : Addr} {fd : FuncData} (T : Txt K mg) (F : Fun K "_law_due" "_law_due" s_Ldue f fd) : FnOk P w K mg base CX0 2 f fd ["_law_thing"] (spM (wd K mg) 1 mf_Ldue) := by
  have nd := sc_Ldue.nd
  obtain ⟨f_Lwhole, fd_Lwhole, F_Lwhole, m_Lwhole, b_Lwhole⟩ := T.d_Lwhole.ex
  have G_Lwhole := ok_Lwhole (P := P) (w := w) (mg := mg) (base := base) T F_Lwhole
  refine jd (W := wd K mg) F sc_Ldue (fun cdv A out s H E hr => ?_)
  have hK : K = (wd K mg).K := rfl
  unfold mb_Ldue
  exact (jb_cons (js_if (PW.pt (jw_or (jt_not (jt_val (j_callB (jc_isi hK) (by rfl) T.n_isinstance (by decide +kernel) (ja_cons (jv 0) (ja_cons (tC_of (fun _ _ => ty_rep) (pe_bltn (v := .ty "tuple") (by rfl) T.n_tuple (by decide +kernel) rfl)) ja_nil))))) (jw_or (jt_cmp (jo_ne hK hr.units) (j_callB (jc_len hK) (by rfl) T.n_len (by decide +kernel) (ja_cons (jv 0) ja_nil)) j_int (nomark _)) (jw_or1 (jt_not (jt_val (j_call G_Lwhole (hr.mono (by decide)) rfl m_Lwhole F_Lwhole.kp b_Lwhole .nil (fun _ _ => Reps.nil) pass0 (ja_cons (j_ix (ji_ix hK (hu_of hr)) (jv 0) j_int (fun _ _ => rfl)) (ja_cons j_int (ja_cons j_int ja_nil))))))))))
(jb_one (js_ret j_bl))
jb_nil)
(jb_cons (js_if (PW.pt (jw_or (jt_not (jt_val (j_callB (jc_isi hK) (by rfl) T.n_isinstance (by decide +kernel) (ja_cons (j_ix (ji_ix hK (hu_of hr)) (jv 0) j_int (fun _ _ => rfl)) (ja_cons (tC_of (fun _ _ => ty_rep) (pe_bltn (v := .ty "tuple") (by rfl) T.n_tuple (by decide +kernel) rfl)) ja_nil))))) (jw_or1 (jt_not (jt_chain jo_le jo_le j_int (j_callB (jc_len hK) (by rfl) T.n_len (by decide +kernel) (ja_cons (j_ix (ji_ix hK (hu_of hr)) (jv 0) j_int (fun _ _ => rfl)) ja_nil)) j_int)))))
(jb_one (js_ret j_bl))
jb_nil)
(jb_cons (js_if (jt_not (jt_val (j_callB (jc_all hK rfl) (by rfl) T.n_all (by decide +kernel) (ja_cons (j_lc (own := [("_law_part", 1)]) rfl nd (ji_seq hK (j_ix (ji_ix hK (hu_of hr)) (jv 0) j_int (fun _ _ => rfl))) (blkOk_by (own := [("_law_part", 1)]) (N := N_Ldue) (sc := defScope s_Ldue) (by decide +kernel)) (fun _ _ _ _ _ => (jg_name (i := 1) (vs := [1]) nd rfl (Or.inl rfl))) (fun _ _ _ _ _ => jts_nil) (fun _ _ _ _ _ => (j_call G_Lwhole (hr.mono (by decide)) rfl m_Lwhole F_Lwhole.kp b_Lwhole .nil (fun _ _ => Reps.nil) pass0 (ja_cons (jv 1) (ja_cons j_int (ja_cons (j_ix (ji_ix hK (hu_of hr)) (jv 0) j_int (fun _ _ => rfl)) ja_nil)))))) ja_nil))))
(jb_one (js_ret j_bl))
jb_nil)
(jb_one (js_ret (j_cmp (jo_eq hK hr.units) (j_callTy (jc_list hK) (by rfl) T.n_list (by decide +kernel) (ja_cons (j_ix (ji_ix hK (hu_of hr)) (jv 0) j_int (fun _ _ => rfl)) ja_nil)) (j_ss (by rfl) T.n_sorted (by rfl) T.n_set (j_ix (ji_ix hK (hu_of hr)) (jv 0) j_int (fun _ _ => rfl))) (nomark _)))))))
theorem ok_is_integer {f : Addr} {fd : FuncData} (T : Txt K mg) (F : Fun K "is_integer" "is_integer" s_is_integer f fd) : FnOk P w K mg base CX0 1 f fd ["value", "least", "most"] (spM (wd K mg) 3 mf_is_integer) := by
  have nd := sc_is_integer.nd
  refine jd (W := wd K mg) F sc_is_integer (fun cdv A out s H E hr => ?_)
  have hK : K = (wd K mg).K := rfl
  unfold mb_is_integer
  exact (jb_one (js_ret (j_and (j_callB (jc_isi hK) (by rfl) T.n_isinstance (by decide +kernel) (ja_cons (jv 0) (ja_cons (tC_of (fun _ _ => ty_rep) (pe_bltn (v := .ty "int") (by rfl) T.n_int (by decide +kernel) rfl)) ja_nil))) (j_and (j_not (j_callB (jc_isi hK) (by rfl) T.n_isinstance (by decide +kernel) (ja_cons (jv 0) (ja_cons (tC_of (fun _ _ => ty_rep) (pe_bltn (v := .ty "bool") (by rfl) T.n_bool (by decide +kernel) rfl)) ja_nil)))) (j_one (j_chain jo_le jo_le (jv 1) (jv 0) (jv 2)))))))
theorem ok_are_lengths {f : Addr} {fd : FuncData} (T : Txt K mg) (F : Fun K "are_lengths" "are_lengths" s_are_lengths f fd) : FnOk P w K mg base CX0 2 f fd ["value", "size"] (spM (wd K mg) 2 mf_are_lengths) := by
  have nd := sc_are_lengths.nd
  obtain ⟨f_is_integer, fd_is_integer, F_is_integer, m_is_integer, b_is_integer⟩ := T.d_is_integer.ex
  have G_is_integer := ok_is_integer (P := P) (w := w) (mg := mg) (base := base) T F_is_integer
  obtain ⟨tk_MOST_LENGTHS, c_MOST_LENGTHS⟩ := T.c_MOST_LENGTHS
  refine jd (W := wd K mg) F sc_are_lengths (fun cdv A out s H E hr => ?_)
  have hK : K = (wd K mg).K := rfl
  unfold mb_are_lengths
  exact (jb_cons (js_if (PW.pt (jw_or (jt_not (jt_val (j_callB (jc_isi hK) (by rfl) T.n_isinstance (by decide +kernel) (ja_cons (jv 0) (ja_cons (tC_of (fun _ _ => ty_rep) (pe_bltn (v := .ty "tuple") (by rfl) T.n_tuple (by decide +kernel) rfl)) ja_nil))))) (jw_or1 (jt_not (jt_chain jo_le jo_le j_int (j_callB (jc_len hK) (by rfl) T.n_len (by decide +kernel) (ja_cons (jv 0) ja_nil)) (tC_of (fun _ _ => int_rep) (pe_glob (v := .int 6) rfl c_MOST_LENGTHS ⟨_, rfl⟩)))))))
(jb_one (js_ret j_bl))
jb_nil)
(jb_cons (js_if (jt_not (jt_val (j_callB (jc_all hK rfl) (by rfl) T.n_all (by decide +kernel) (ja_cons (j_lc (own := [("length", 4)]) rfl nd (ji_seq hK (jv 0)) (blkOk_by (own := [("length", 4)]) (N := N_are_lengths) (sc := defScope s_are_lengths) (by decide +kernel)) (fun _ _ _ _ _ => (jg_name (i := 4) (vs := [4]) nd rfl (Or.inl rfl))) (fun _ _ _ _ _ => jts_nil) (fun _ _ _ _ _ => (j_call G_is_integer (hr.mono (by decide)) rfl m_is_integer F_is_integer.kp b_is_integer .nil (fun _ _ => Reps.nil) pass0 (ja_cons (jv 4) (ja_cons j_int (ja_cons (jv 1) ja_nil)))))) ja_nil))))
(jb_one (js_ret j_bl))
jb_nil)
(jb_one (js_ret (j_callB (jc_all hK rfl) (by rfl) T.n_all (by decide +kernel) (ja_cons (j_lc (own := [("one", 2), ("other", 3)]) rfl nd (ji_zip hK (by rfl) T.n_zip (jv 0) (j_slice hK (jv 0) (jp_some j_int) jp_none)) (blkOk_by (own := [("one", 2), ("other", 3)]) (N := N_are_lengths) (sc := defScope s_are_lengths) (by decide +kernel)) (fun _ _ _ _ _ => (jg_tup hK (by rfl) (jgs_cons (jg_name (i := 2) (vs := [2, 3]) nd rfl (Or.inl rfl)) (jgs_cons (jg_name (i := 3) (vs := [2, 3]) nd rfl (Or.inl rfl)) jgs_nil)))) (fun _ _ _ _ _ => jts_nil) (fun _ _ _ _ _ => (j_cmp jo_lt (jv 2) (jv 3) (nomark _)))) ja_nil))))))
theorem ok_is_rules {f : Addr} {fd : FuncData} (T : Txt K mg) (F : Fun K "is_rules" "is_rules" s_is_rules f fd) : FnOk P w K mg base CX0 3 f fd ["value"] (spM (wd K mg) 1 mf_is_rules) := by
  have nd := sc_is_rules.nd
  obtain ⟨f_are_lengths, fd_are_lengths, F_are_lengths, m_are_lengths, b_are_lengths⟩ := T.d_are_lengths.ex
  have G_are_lengths := ok_are_lengths (P := P) (w := w) (mg := mg) (base := base) T F_are_lengths
  obtain ⟨f_is_integer, fd_is_integer, F_is_integer, m_is_integer, b_is_integer⟩ := T.d_is_integer.ex
  have G_is_integer := ok_is_integer (P := P) (w := w) (mg := mg) (base := base) T F_is_integer
  obtain ⟨tk_GREATEST_SIZE, c_GREATEST_SIZE⟩ := T.c_GREATEST_SIZE
  obtain ⟨tk_PAIR, c_PAIR⟩ := T.c_PAIR
  refine jd (W := wd K mg) F sc_is_rules (fun cdv A out s H E hr => ?_)
  have hK : K = (wd K mg).K := rfl
  unfold mb_is_rules
  exact (jb_cons (js_if (PW.pt (jw_or (jt_not (jt_val (j_callB (jc_isi hK) (by rfl) T.n_isinstance (by decide +kernel) (ja_cons (jv 0) (ja_cons (tC_of (fun _ _ => ty_rep) (pe_bltn (v := .ty "tuple") (by rfl) T.n_tuple (by decide +kernel) rfl)) ja_nil))))) (jw_or (jt_cmp (jo_ne hK hr.units) (j_callB (jc_len hK) (by rfl) T.n_len (by decide +kernel) (ja_cons (jv 0) ja_nil)) (tC_of (fun _ _ => int_rep) (pe_glob (v := .int 2) rfl c_PAIR ⟨_, rfl⟩)) (nomark _)) (jw_or1 (jt_not (jt_val (j_call G_is_integer (hr.mono (by decide)) rfl m_is_integer F_is_integer.kp b_is_integer .nil (fun _ _ => Reps.nil) pass0 (ja_cons (j_ix (ji_ix hK (hu_of hr)) (jv 0) j_int (fun _ _ => rfl)) (ja_cons j_int (ja_cons (tC_of (fun _ _ => int_rep) (pe_glob (v := .int 100) rfl c_GREATEST_SIZE ⟨_, rfl⟩)) ja_nil))))))))))
(jb_one (js_ret j_bl))
jb_nil)
(jb_one (js_ret (j_call G_are_lengths (hr.mono (by decide)) rfl m_are_lengths F_are_lengths.kp b_are_lengths .nil (fun _ _ => Reps.nil) pass0 (ja_cons (j_ix (ji_ix hK (hu_of hr)) (jv 0) j_int (fun _ _ => rfl)) (ja_cons (j_ix (ji_ix hK (hu_of hr)) (jv 0) j_int (fun _ _ => rfl)) ja_nil))))))
theorem ok_Lright {f : Addr} {fd : FuncData} (T : Txt K mg) (F : Fun K "_law_right" "_law_right" s_Lright f fd) : FnG P w K mg base 19 f fd ["_law_box_here"] (spM (wd K mg) 1 mf_Lright) := by
  have nd := sc_Lright.nd
  obtain ⟨f_is_rules, fd_is_rules, F_is_rules, m_is_rules, b_is_rules⟩ := T.d_is_rules.ex
  have G_is_rules := ok_is_rules (P := P) (w := w) (mg := mg) (base := base) T F_is_rules
  obtain ⟨f_Ldue, fd_Ldue, F_Ldue, m_Ldue, b_Ldue⟩ := T.d_Ldue.ex
  have G_Ldue := ok_Ldue (P := P) (w := w) (mg := mg) (base := base) T F_Ldue
  obtain ⟨f_Ltake, fd_Ltake, F_Ltake, m_Ltake, b_Ltake⟩ := T.d_Ltake.ex
  have G_Ltake := ok_Ltake (P := P) (w := w) (mg := mg) (base := base) T F_Ltake
  obtain ⟨f_Lbent, fd_Lbent, F_Lbent, m_Lbent, b_Lbent⟩ := T.d_Lbent.ex
  have G_Lbent := ok_Lbent (P := P) (w := w) (mg := mg) (base := base) T F_Lbent
  obtain ⟨f_Lany, fd_Lany, F_Lany, m_Lany, b_Lany⟩ := T.d_Lany.ex
  have G_Lany := ok_Lany (P := P) (w := w) (mg := mg) (base := base) T F_Lany
  obtain ⟨f_Lbook, fd_Lbook, F_Lbook, m_Lbook, b_Lbook⟩ := T.d_Lbook.ex
  have G_Lbook := ok_Lbook (P := P) (w := w) (mg := mg) (base := base) T F_Lbook
  obtain ⟨f_Lof, fd_Lof, F_Lof, m_Lof, b_Lof⟩ := T.d_Lof.ex
  have G_Lof := ok_Lof (P := P) (w := w) (mg := mg) (base := base) T F_Lof
  have kbp_is_rules_value := kw_fun (ps := ["value"]) F_is_rules 0 ["value"] (fun us ws => us ++ (pick ws 0)) (fun h1 h2 => h1.append (vals_pick 0 h2)) fun _ _ _ _ _ _ us ws h1 h2 => match us, ws, h1, h2 with | [], [_], _, _ => rfl
  refine jdG (W := wd K mg) F sc_Lright (fun cdv A out s H hg hr => ?_)
  have hK : K = (wd K mg).K := rfl
  unfold mb_Lright
  exact (jb_cons (js_set (i := 1) nd rfl (Or.inl rfl) (j_op (jo_add hK) j_int (j_call G_Ltake (hr.mono (by decide)) rfl m_Ltake F_Ltake.kp b_Ltake .nil (fun _ _ => Reps.nil) pass0 (ja_cons (jv 0) (ja_cons j_int ja_nil)))))
(jb_cons (js_set (i := 2) nd rfl (Or.inl rfl) (j_lstM (ja_cons (j_tup (ja_cons (jv 1) (ja_cons (j_tup (ja_cons (jv 1) ja_nil)) ja_nil))) (ja_cons (j_tup (ja_cons (jv 1) (ja_cons (j_tup (ja_cons (j_op (jo_add hK) (jv 1) j_int) ja_nil)) ja_nil))) (ja_cons (j_tup (ja_cons (jv 1) (ja_cons (j_tup (ja_cons j_int ja_nil)) ja_nil))) (ja_cons (j_tup (ja_cons j_int (ja_cons (j_tup (ja_cons j_int (ja_cons j_int ja_nil))) ja_nil))) (ja_cons (j_tup (ja_cons j_int (ja_cons (j_tup (ja_cons j_int (ja_cons j_int ja_nil))) ja_nil))) (ja_cons (j_tup (ja_cons j_int (ja_cons (j_tup (ja_cons j_int ja_nil)) ja_nil))) (ja_cons (j_tup (ja_cons j_int (ja_cons (j_tup (ja_cons j_int ja_nil)) ja_nil))) ja_nil)))))))))
(jb_cons (js_set (i := 2) nd rfl (Or.inl rfl) (j_opM (jo_cat hK) (jv 2) (j_lstM (ja_cons (j_tup (ja_cons j_int (ja_cons (j_tup (ja_cons j_int (ja_cons j_int (ja_cons j_int (ja_cons j_int (ja_cons j_int (ja_cons j_int ja_nil))))))) ja_nil))) (ja_cons (j_tup (ja_cons j_int (ja_cons (j_tup (ja_cons j_int (ja_cons j_int (ja_cons j_int (ja_cons j_int (ja_cons j_int (ja_cons j_int (ja_cons j_int ja_nil)))))))) ja_nil))) (ja_cons (j_tup (ja_cons j_int (ja_cons (j_tup (ja_cons j_int (ja_cons j_int ja_nil))) ja_nil))) (ja_cons (j_tup (ja_cons j_int (ja_cons (j_tup (ja_cons j_int (ja_cons j_int ja_nil))) ja_nil))) (ja_cons (j_tup (ja_cons j_int (ja_cons (j_tup ja_nil) ja_nil))) ja_nil))))))))
(jb_cons (js_set (i := 2) nd rfl (Or.inl rfl) (j_opM (jo_cat hK) (jv 2) (j_lstM (ja_cons (j_tup (ja_cons j_int (ja_cons (j_lst (ja_cons j_int (ja_cons j_int ja_nil))) ja_nil))) (ja_cons (j_lst (ja_cons j_int (ja_cons (j_tup (ja_cons j_int (ja_cons j_int ja_nil))) ja_nil))) (ja_cons (j_tup (ja_cons j_int (ja_cons (j_tup (ja_cons j_bl ja_nil)) ja_nil))) (ja_cons (j_tup (ja_cons j_bl (ja_cons (j_tup (ja_cons j_int ja_nil)) ja_nil))) (ja_cons (j_tup (ja_cons j_int (ja_cons (j_tup (ja_cons j_int ja_nil)) (ja_cons j_int ja_nil)))) (ja_cons (j_tup (ja_cons j_int ja_nil)) (ja_cons (j_tup (ja_cons j_int (ja_cons j_int ja_nil))) ja_nil))))))))))
(jb_cons (js_for PassesOwn.never rfl (ji_range1 (by rfl) T.n_range j_int) (jg_name (i := 3) (vs := [3]) nd rfl (Or.inl rfl))
(jb_cons (js_set (i := 4) nd rfl (Or.inl rfl) (j_call G_Lbook (hr.mono (by decide)) rfl m_Lbook F_Lbook.kp b_Lbook .nil (fun _ _ => Reps.nil) pass0 (ja_cons (jv 0) (ja_cons (j_call G_Lof (hr.mono (by decide)) rfl m_Lof F_Lof.kp b_Lof .nil (fun _ _ => Reps.nil) pass0 (ja_cons (jv 0) (ja_cons (j_lst (ja_cons j_int (ja_cons j_int ja_nil))) ja_nil))) ja_nil))))
(jb_cons (js_set (i := 5) nd rfl (Or.inl rfl) (j_call G_Lbent (hr.mono (by decide)) rfl m_Lbent F_Lbent.kp b_Lbent .nil (fun _ _ => Reps.nil) pass0 (ja_cons (jv 0) (ja_cons (jv 4) ja_nil))))
(jb_one (js_expr (j_bm hK PySem.F.plainAttrs_list PySem.F.slot_list_extend PySem.F.type_list_extend jm_extend (jv 2) (ja_cons (j_lst (ja_cons (jv 4) (ja_cons (jv 5) (ja_cons (j_if (jt_cmp (jo_eq hK hr.units) (j_call G_Ltake (hr.mono (by decide)) rfl m_Ltake F_Ltake.kp b_Ltake .nil (fun _ _ => Reps.nil) pass0 (ja_cons (jv 0) (ja_cons j_int ja_nil))) j_int (nomark _)) (j_call G_Lbent (hr.mono (by decide)) rfl m_Lbent F_Lbent.kp b_Lbent .nil (fun _ _ => Reps.nil) pass0 (ja_cons (jv 0) (ja_cons (jv 5) ja_nil))) (j_call G_Lany (hr.mono (by decide)) rfl m_Lany F_Lany.kp b_Lany .nil (fun _ _ => Reps.nil) pass0 (ja_cons (jv 0) ja_nil))) ja_nil)))) ja_nil)))))))
(jb_cons (js_for PassesOwn.never rfl (ji_seq hK (jv 2)) (jg_name (i := 6) (vs := [6]) nd rfl (Or.inl rfl))
(jb_cons (js_set (i := 7) nd rfl (Or.inl rfl) (j_callB (jc_reprD hK hg hr) (by rfl) T.n_repr (by decide +kernel) (ja_cons (jv 6) ja_nil)))
(jb_one (js_if (PW.pt (jw_or (jt_cmp (jo_ne hK hr.units) (j_callB (jc_repr hK hg hr) (by rfl) T.n_repr (by decide +kernel) (ja_cons (j_lst (ja_cons (j_call G_is_rules (hr.mono (by decide)) rfl m_is_rules F_is_rules.kp b_is_rules .nil (fun _ _ => Reps.nil) pass0 (ja_cons (jv 6) ja_nil)) (ja_cons (j_callN0 G_is_rules (hr.mono (by decide)) rfl m_is_rules F_is_rules.kp kbp_is_rules_value (fun _ _ _ _ _ _ h1 h2 => h1.append (reps_pick 0 h2)) pass0 (jk_cons (jv 6) jk_nil)) ja_nil))) ja_nil)) (j_callB (jc_repr hK hg hr) (by rfl) T.n_repr (by decide +kernel) (ja_cons (j_op (jo_mul hK) (j_lst (ja_cons (j_call G_Ldue (hr.mono (by decide)) rfl m_Ldue F_Ldue.kp b_Ldue .nil (fun _ _ => Reps.nil) pass0 (ja_cons (jv 6) ja_nil)) ja_nil)) j_int) ja_nil)) (nomark _)) (jw_or1 (jt_cmp (jo_ne hK hr.units) (j_callB (jc_reprD hK hg hr) (by rfl) T.n_repr (by decide +kernel) (ja_cons (jv 6) ja_nil)) (jv 7) (nomark _)))))
(jb_one (js_ret j_bl))
jb_nil))))
(jb_one (js_ret j_bl))))))))
theorem ok_law {f : Addr} {fd : FuncData} (T : Txt K mg) (F : Fun K "law" "law" s_law f fd) : FnG P w K mg base 20 f fd ["_law_script"] (spM (wd K mg) 1 mf_law) := by
  have nd := sc_law.nd
  obtain ⟨f_Lright, fd_Lright, F_Lright, m_Lright, b_Lright⟩ := T.d_Lright.ex
  have G_Lright := ok_Lright (P := P) (w := w) (mg := mg) (base := base) T F_Lright
  obtain ⟨f_Lbox, fd_Lbox, F_Lbox, m_Lbox, b_Lbox⟩ := T.d_Lbox.ex
  have G_Lbox := ok_Lbox (P := P) (w := w) (mg := mg) (base := base) T F_Lbox
  refine jdG (W := wd K mg) F sc_law (fun cdv A out s H hg hr => ?_)
  have hK : K = (wd K mg).K := rfl
  unfold mb_law
  exact (jb_one (js_ret (j_callB (jc_all hK rfl) (by rfl) T.n_all (by decide +kernel) (ja_cons (j_lc (own := [("_law_k", 1)]) rfl nd (ji_range1 (by rfl) T.n_range (j_callB (jc_max hK rfl) (by rfl) T.n_max (by decide +kernel) (ja_cons j_int (ja_cons (j_callB (jc_min hK rfl) (by rfl) T.n_min (by decide +kernel) (ja_cons (j_callB (jc_len hK) (by rfl) T.n_len (by decide +kernel) (ja_cons (jv 0) ja_nil)) (ja_cons j_int ja_nil))) ja_nil)))) (blkOk_by (own := [("_law_k", 1)]) (N := N_law) (sc := defScope s_law) (by decide +kernel)) (fun _ _ _ _ _ => (jg_name (i := 1) (vs := [1]) nd rfl (Or.inl rfl))) (fun _ _ _ _ _ => jts_nil) (fun _ _ _ _ _ => (j_callG hg G_Lright (hr.mono (by decide)) rfl m_Lright F_Lright.kp b_Lright (ja_cons (j_call G_Lbox (hr.mono (by decide)) rfl m_Lbox F_Lbox.kp b_Lbox .nil (fun _ _ => Reps.nil) pass0 (ja_cons (jv 0) (ja_cons (jv 1) ja_nil))) ja_nil)))) ja_nil))))
end
theorem all_mk {l : PySem.W.OpenLaw} {w : World} {K : PySem.W.Frag} {h : Heap} {mg : Str → Option Value} {fa f1 f2 f3 f4 f5 f6 f7 f8 f9 f10 f11 f12 f13 : Addr} (X : K.In h) (G : h.Ns mainGlobals mg) (hfa : mg "law" = some (.ref fa))
    {od1 an1 od2 an2 od3 an3 od4 an4 od5 an5 od6 an6 od7 an7 od8 an8 od9 an9 od10 an10 od11 an11 od12 an12 od13 an13 : Option Addr} {sl1 sl2 sl3 sl4 sl5 sl6 sl7 sl8 sl9 sl10 sl11 sl12 sl13 : Array (Option Value)} {oc1 kV1 dc1 pm1 cd1 ct1 oc2 kV2 dc2 pm2 cd2 ct2 oc3 kV3 dc3 pm3 cd3 ct3 oc4 kV4 dc4 pm4 cd4 ct4 oc5 kV5 dc5 pm5 cd5 ct5 oc6 kV6 dc6 pm6 cd6 ct6 oc7 kV7 dc7 pm7 cd7 ct7 oc8 kV8 dc8 pm8 cd8 ct8 oc9 kV9 dc9 pm9 cd9 ct9 oc10 kV10 dc10 pm10 cd10 ct10 oc11 kV11 dc11 pm11 cd11 ct11 oc12 kV12 dc12 pm12 cd12 ct12 oc13 kV13 dc13 pm13 cd13 ct13 : Value}
    (a1 : PySem.W.nsIn K mainGlobals "_law_box" = some (some (.ref f1)))
    (l1 : K.lookup f1 = some ⟨oc1, od1, .func (PySem.W.fnOf "_law_box" "_law_box" (defArgs s_Lbox) (defBody s_Lbox) (defScope s_Lbox) .none kV1 dc1 pm1 an1 cd1 ct1), sl1⟩) (c1 : PySem.W.codeIn K cd1 "_law_box" = true) (k1 : PySem.W.keepIn K (.ref f1) = true)
    (a2 : PySem.W.nsIn K mainGlobals "_law_take" = some (some (.ref f2)))
    (l2 : K.lookup f2 = some ⟨oc2, od2, .func (PySem.W.fnOf "_law_take" "_law_take" (defArgs s_Ltake) (defBody s_Ltake) (defScope s_Ltake) .none kV2 dc2 pm2 an2 cd2 ct2), sl2⟩) (c2 : PySem.W.codeIn K cd2 "_law_take" = true) (k2 : PySem.W.keepIn K (.ref f2) = true)
    (a3 : PySem.W.nsIn K mainGlobals "_law_of" = some (some (.ref f3)))
    (l3 : K.lookup f3 = some ⟨oc3, od3, .func (PySem.W.fnOf "_law_of" "_law_of" (defArgs s_Lof) (defBody s_Lof) (defScope s_Lof) .none kV3 dc3 pm3 an3 cd3 ct3), sl3⟩) (c3 : PySem.W.codeIn K cd3 "_law_of" = true) (k3 : PySem.W.keepIn K (.ref f3) = true)
    (a4 : PySem.W.nsIn K mainGlobals "_law_any" = some (some (.ref f4)))
    (l4 : K.lookup f4 = some ⟨oc4, od4, .func (PySem.W.fnOf "_law_any" "_law_any" (defArgs s_Lany) (defBody s_Lany) (defScope s_Lany) .none kV4 dc4 pm4 an4 cd4 ct4), sl4⟩) (c4 : PySem.W.codeIn K cd4 "_law_any" = true) (k4 : PySem.W.keepIn K (.ref f4) = true)
    (a5 : PySem.W.nsIn K mainGlobals "_law_bent" = some (some (.ref f5)))
    (l5 : K.lookup f5 = some ⟨oc5, od5, .func (PySem.W.fnOf "_law_bent" "_law_bent" (defArgs s_Lbent) (defBody s_Lbent) (defScope s_Lbent) .none kV5 dc5 pm5 an5 cd5 ct5), sl5⟩) (c5 : PySem.W.codeIn K cd5 "_law_bent" = true) (k5 : PySem.W.keepIn K (.ref f5) = true)
    (a6 : PySem.W.nsIn K mainGlobals "_law_book" = some (some (.ref f6)))
    (l6 : K.lookup f6 = some ⟨oc6, od6, .func (PySem.W.fnOf "_law_book" "_law_book" (defArgs s_Lbook) (defBody s_Lbook) (defScope s_Lbook) .none kV6 dc6 pm6 an6 cd6 ct6), sl6⟩) (c6 : PySem.W.codeIn K cd6 "_law_book" = true) (k6 : PySem.W.keepIn K (.ref f6) = true)
    (a7 : PySem.W.nsIn K mainGlobals "_law_whole" = some (some (.ref f7)))
    (l7 : K.lookup f7 = some ⟨oc7, od7, .func (PySem.W.fnOf "_law_whole" "_law_whole" (defArgs s_Lwhole) (defBody s_Lwhole) (defScope s_Lwhole) .none kV7 dc7 pm7 an7 cd7 ct7), sl7⟩) (c7 : PySem.W.codeIn K cd7 "_law_whole" = true) (k7 : PySem.W.keepIn K (.ref f7) = true)
    (a8 : PySem.W.nsIn K mainGlobals "_law_due" = some (some (.ref f8)))
    (l8 : K.lookup f8 = some ⟨oc8, od8, .func (PySem.W.fnOf "_law_due" "_law_due" (defArgs s_Ldue) (defBody s_Ldue) (defScope s_Ldue) .none kV8 dc8 pm8 an8 cd8 ct8), sl8⟩) (c8 : PySem.W.codeIn K cd8 "_law_due" = true) (k8 : PySem.W.keepIn K (.ref f8) = true)
    (a9 : PySem.W.nsIn K mainGlobals "is_integer" = some (some (.ref f9)))
    (l9 : K.lookup f9 = some ⟨oc9, od9, .func (PySem.W.fnOf "is_integer" "is_integer" (defArgs s_is_integer) (defBody s_is_integer) (defScope s_is_integer) .none kV9 dc9 pm9 an9 cd9 ct9), sl9⟩) (c9 : PySem.W.codeIn K cd9 "is_integer" = true) (k9 : PySem.W.keepIn K (.ref f9) = true)
    (a10 : PySem.W.nsIn K mainGlobals "are_lengths" = some (some (.ref f10)))
    (l10 : K.lookup f10 = some ⟨oc10, od10, .func (PySem.W.fnOf "are_lengths" "are_lengths" (defArgs s_are_lengths) (defBody s_are_lengths) (defScope s_are_lengths) .none kV10 dc10 pm10 an10 cd10 ct10), sl10⟩) (c10 : PySem.W.codeIn K cd10 "are_lengths" = true) (k10 : PySem.W.keepIn K (.ref f10) = true)
    (a11 : PySem.W.nsIn K mainGlobals "is_rules" = some (some (.ref f11)))
    (l11 : K.lookup f11 = some ⟨oc11, od11, .func (PySem.W.fnOf "is_rules" "is_rules" (defArgs s_is_rules) (defBody s_is_rules) (defScope s_is_rules) .none kV11 dc11 pm11 an11 cd11 ct11), sl11⟩) (c11 : PySem.W.codeIn K cd11 "is_rules" = true) (k11 : PySem.W.keepIn K (.ref f11) = true)
    (a12 : PySem.W.nsIn K mainGlobals "_law_right" = some (some (.ref f12)))
    (l12 : K.lookup f12 = some ⟨oc12, od12, .func (PySem.W.fnOf "_law_right" "_law_right" (defArgs s_Lright) (defBody s_Lright) (defScope s_Lright) .none kV12 dc12 pm12 an12 cd12 ct12), sl12⟩) (c12 : PySem.W.codeIn K cd12 "_law_right" = true) (k12 : PySem.W.keepIn K (.ref f12) = true)
    (a13 : PySem.W.nsIn K mainGlobals "law" = some (some (.ref f13)))
    (l13 : K.lookup f13 = some ⟨oc13, od13, .func (PySem.W.fnOf "law" "law" (defArgs s_law) (defBody s_law) (defScope s_law) .none kV13 dc13 pm13 an13 cd13 ct13), sl13⟩) (c13 : PySem.W.codeIn K cd13 "law" = true) (k13 : PySem.W.keepIn K (.ref f13) = true)
    (z_abs : PySem.W.nsIn K mainGlobals "abs" = some none)
    (z_int : PySem.W.nsIn K mainGlobals "int" = some none)
    (z_len : PySem.W.nsIn K mainGlobals "len" = some none)
    (z_range : PySem.W.nsIn K mainGlobals "range" = some none)
    (z_isinstance : PySem.W.nsIn K mainGlobals "isinstance" = some none)
    (z_bool : PySem.W.nsIn K mainGlobals "bool" = some none)
    (z_str : PySem.W.nsIn K mainGlobals "str" = some none)
    (z_tuple : PySem.W.nsIn K mainGlobals "tuple" = some none)
    (z_list : PySem.W.nsIn K mainGlobals "list" = some none)
    (z_sorted : PySem.W.nsIn K mainGlobals "sorted" = some none)
    (z_max : PySem.W.nsIn K mainGlobals "max" = some none)
    (z_set : PySem.W.nsIn K mainGlobals "set" = some none)
    (z_all : PySem.W.nsIn K mainGlobals "all" = some none)
    (z_zip : PySem.W.nsIn K mainGlobals "zip" = some none)
    (z_repr : PySem.W.nsIn K mainGlobals "repr" = some none)
    (z_min : PySem.W.nsIn K mainGlobals "min" = some none)
    {t_MOST_LENGTHS : Tok} (v_MOST_LENGTHS : PySem.W.nsIn K mainGlobals "MOST_LENGTHS" = some (some (Value.int (6) t_MOST_LENGTHS)))
    {t_GREATEST_SIZE : Tok} (v_GREATEST_SIZE : PySem.W.nsIn K mainGlobals "GREATEST_SIZE" = some (some (Value.int (100) t_GREATEST_SIZE)))
    {t_PAIR : Tok} (v_PAIR : PySem.W.nsIn K mainGlobals "PAIR" = some (some (Value.int (2) t_PAIR)))
    : ∃ fd : FuncData, (∀ (s : Shared) (v : Value), BindsTo s fd ⟨[v], []⟩ [("_law_script", v)]) ∧ ∀ base : Heap, K.In base → base.Ns mainGlobals mg → FnG l.prog w K mg base 20 fa fd ["_law_script"] (spLaw K) := by
  have e := hfa.symm.trans (PySem.W.mg_of X G a13)
  cases e
  have F1 := fun_mk (st := s_Lbox) l1 c1 k1
  have b1 := F1.binds (ps := ["_law_script", "_law_k"]) fun _ _ _ _ _ _ us hl => match us, hl with | [_, _], _ => rfl
  have F2 := fun_mk (st := s_Ltake) l2 c2 k2
  have b2 := F2.binds (ps := ["_law_box_here", "_law_many"]) fun _ _ _ _ _ _ us hl => match us, hl with | [_, _], _ => rfl
  have F3 := fun_mk (st := s_Lof) l3 c3 k3
  have b3 := F3.binds (ps := ["_law_box_here", "_law_some"]) fun _ _ _ _ _ _ us hl => match us, hl with | [_, _], _ => rfl
  have F4 := fun_mk (st := s_Lany) l4 c4 k4
  have b4 := F4.binds (ps := ["_law_box_here"]) fun _ _ _ _ _ _ us hl => match us, hl with | [_], _ => rfl
  have F5 := fun_mk (st := s_Lbent) l5 c5 k5
  have b5 := F5.binds (ps := ["_law_box_here", "_law_thing"]) fun _ _ _ _ _ _ us hl => match us, hl with | [_, _], _ => rfl
  have F6 := fun_mk (st := s_Lbook) l6 c6 k6
  have b6 := F6.binds (ps := ["_law_box_here", "_law_top"]) fun _ _ _ _ _ _ us hl => match us, hl with | [_, _], _ => rfl
  have F7 := fun_mk (st := s_Lwhole) l7 c7 k7
  have b7 := F7.binds (ps := ["_law_thing", "_law_least", "_law_most"]) fun _ _ _ _ _ _ us hl => match us, hl with | [_, _, _], _ => rfl
  have F8 := fun_mk (st := s_Ldue) l8 c8 k8
  have b8 := F8.binds (ps := ["_law_thing"]) fun _ _ _ _ _ _ us hl => match us, hl with | [_], _ => rfl
  have F9 := fun_mk (st := s_is_integer) l9 c9 k9
  have b9 := F9.binds (ps := ["value", "least", "most"]) fun _ _ _ _ _ _ us hl => match us, hl with | [_, _, _], _ => rfl
  have F10 := fun_mk (st := s_are_lengths) l10 c10 k10
  have b10 := F10.binds (ps := ["value", "size"]) fun _ _ _ _ _ _ us hl => match us, hl with | [_, _], _ => rfl
  have F11 := fun_mk (st := s_is_rules) l11 c11 k11
  have b11 := F11.binds (ps := ["value"]) fun _ _ _ _ _ _ us hl => match us, hl with | [_], _ => rfl
  have F12 := fun_mk (st := s_Lright) l12 c12 k12
  have b12 := F12.binds (ps := ["_law_box_here"]) fun _ _ _ _ _ _ us hl => match us, hl with | [_], _ => rfl
  have F13 := fun_mk (st := s_law) l13 c13 k13
  have T : Txt K mg := ⟨⟨⟨_, _, F1, PySem.W.mg_of X G a1, b1⟩⟩,
    ⟨⟨_, _, F2, PySem.W.mg_of X G a2, b2⟩⟩,
    ⟨⟨_, _, F3, PySem.W.mg_of X G a3, b3⟩⟩,
    ⟨⟨_, _, F4, PySem.W.mg_of X G a4, b4⟩⟩,
    ⟨⟨_, _, F5, PySem.W.mg_of X G a5, b5⟩⟩,
    ⟨⟨_, _, F6, PySem.W.mg_of X G a6, b6⟩⟩,
    ⟨⟨_, _, F7, PySem.W.mg_of X G a7, b7⟩⟩,
    ⟨⟨_, _, F8, PySem.W.mg_of X G a8, b8⟩⟩,
    ⟨⟨_, _, F9, PySem.W.mg_of X G a9, b9⟩⟩,
    ⟨⟨_, _, F10, PySem.W.mg_of X G a10, b10⟩⟩,
    ⟨⟨_, _, F11, PySem.W.mg_of X G a11, b11⟩⟩,
    ⟨⟨_, _, F12, PySem.W.mg_of X G a12, b12⟩⟩,
    PySem.W.mg_none_of X G z_abs,
    PySem.W.mg_none_of X G z_int,
    PySem.W.mg_none_of X G z_len,
    PySem.W.mg_none_of X G z_range,
    PySem.W.mg_none_of X G z_isinstance,
    PySem.W.mg_none_of X G z_bool,
    PySem.W.mg_none_of X G z_str,
    PySem.W.mg_none_of X G z_tuple,
    PySem.W.mg_none_of X G z_list,
    PySem.W.mg_none_of X G z_sorted,
    PySem.W.mg_none_of X G z_max,
    PySem.W.mg_none_of X G z_set,
    PySem.W.mg_none_of X G z_all,
    PySem.W.mg_none_of X G z_zip,
    PySem.W.mg_none_of X G z_repr,
    PySem.W.mg_none_of X G z_min,
    ⟨_, PySem.W.mg_of X G v_MOST_LENGTHS⟩,
    ⟨_, PySem.W.mg_of X G v_GREATEST_SIZE⟩,
    ⟨_, PySem.W.mg_of X G v_PAIR⟩⟩
  exact ⟨PySem.W.fnOf "law" "law" (defArgs s_law) (defBody s_law) (defScope s_law) .none kV13 dc13 pm13 an13 cd13 ct13, fun s v => .of_eq rfl, fun base _ _ => (ok_law T F13).law law_due⟩
end My
open PySem PySem.W PyProof.Rows in
set_option maxRecDepth 100000 in
set_option maxHeartbeats 0 in
theorem PySem.Challenge.cw_rotatedlogs_k01_rules_of_any_value_holds : PySem.Challenge.rw_rotatedlogs_k01_rules_of_any_value.Holds := by
  w_on; o_law; k_head; (case hw => w_witness2)
  k_fill
  refine My.walk_g (l := PySem.Challenge.rw_rotatedlogs_k01_rules_of_any_value) (k := 20) (x := "_law_script") (sp := My.spLaw) rfl rfl ⟨rfl, by decide, by decide⟩ (fun w h Y => PySem.W.kIn_of Y) ?F (fun K H a ns hl hO hS => ⟨a, ns, rfl, hO, hS, hl, fun _ => rfl⟩)
  case F =>
    intro w mg fa h KX G hmg
    refine' My.all_mk KX G hmg ?a1 ?l1 ?c1 ?k1 ?a2 ?l2 ?c2 ?k2 ?a3 ?l3 ?c3 ?k3 ?a4 ?l4 ?c4 ?k4 ?a5 ?l5 ?c5 ?k5 ?a6 ?l6 ?c6 ?k6 ?a7 ?l7 ?c7 ?k7 ?a8 ?l8 ?c8 ?k8 ?a9 ?l9 ?c9 ?k9 ?a10 ?l10 ?c10 ?k10 ?a11 ?l11 ?c11 ?k11 ?a12 ?l12 ?c12 ?k12 ?a13 ?l13 ?c13 ?k13 ?z_abs ?z_int ?z_len ?z_range ?z_isinstance ?z_bool ?z_str ?z_tuple ?z_list ?z_sorted ?z_max ?z_set ?z_all ?z_zip ?z_repr ?z_min ?v_MOST_LENGTHS ?v_GREATEST_SIZE ?v_PAIR
    (case a1 => k_is)
    (case l1 => k_is)
    (case c1 => k_is)
    (case k1 => k_is)
    (case a2 => k_is)
    (case l2 => k_is)
    (case c2 => k_is)
    (case k2 => k_is)
    (case a3 => k_is)
    (case l3 => k_is)
    (case c3 => k_is)
    (case k3 => k_is)
    (case a4 => k_is)
    (case l4 => k_is)
    (case c4 => k_is)
    (case k4 => k_is)
    (case a5 => k_is)
    (case l5 => k_is)
    (case c5 => k_is)
    (case k5 => k_is)
    (case a6 => k_is)
    (case l6 => k_is)
    (case c6 => k_is)
    (case k6 => k_is)
    (case a7 => k_is)
    (case l7 => k_is)
    (case c7 => k_is)
    (case k7 => k_is)
    (case a8 => k_is)
    (case l8 => k_is)
    (case c8 => k_is)
    (case k8 => k_is)
    (case a9 => k_is)
    (case l9 => k_is)
    (case c9 => k_is)
    (case k9 => k_is)
    (case a10 => k_is)
    (case l10 => k_is)
    (case c10 => k_is)
    (case k10 => k_is)
    (case a11 => k_is)
    (case l11 => k_is)
    (case c11 => k_is)
    (case k11 => k_is)
    (case a12 => k_is)
    (case l12 => k_is)
    (case c12 => k_is)
    (case k12 => k_is)
    (case a13 => k_is)
    (case l13 => k_is)
    (case c13 => k_is)
    (case k13 => k_is)
    (case z_abs => k_is)
    (case z_int => k_is)
    (case z_len => k_is)
    (case z_range => k_is)
    (case z_isinstance => k_is)
    (case z_bool => k_is)
    (case z_str => k_is)
    (case z_tuple => k_is)
    (case z_list => k_is)
    (case z_sorted => k_is)
    (case z_max => k_is)
    (case z_set => k_is)
    (case z_all => k_is)
    (case z_zip => k_is)
    (case z_repr => k_is)
    (case z_min => k_is)
    (case v_MOST_LENGTHS => k_is)
    (case v_GREATEST_SIZE => k_is)
    (case v_PAIR => k_is)
#print axioms PySem.Challenge.cw_rotatedlogs_k01_rules_of_any_value_holds

