import PyProof.Rows.All
import Wide.All
import OpenK.AllK
import Wide.FinOn
import HandS.ForMost
import HandS.Wide
import HandS.More
import HandS.Style
import HandS.Star
import HandS.IsInst
import KE.KTupSum
import HandS.Defaults
import HandS.Zip
import HandS.SortInts
import HandS.TupMul
import PySem.Challenge.RW_rotatedlogs_k30_missed_lines
set_option Elab.async false
set_option linter.all false
set_option maxRecDepth 100000
set_option maxHeartbeats 4000000
namespace My
open PySem L2

/-! ### heaps -/
theorem kp_same {H H' : Hp} {a : Addr} {o : HO} (s : Same H H') (h : H a = some o) : H' a = some o := s a o h
theorem kp_new {H : Hp} {p a : Addr} {o u : HO} (n : H p = none) (h : H a = some o) : upd H p u a = some o := by
  rw [upd_ne (ne_of_none h n)]; exact h
theorem kp_set {H : Hp} {p a : Addr} {o u : HO} (ne : a ≠ p) (h : H a = some o) : upd H p u a = some o := by
  rw [upd_ne ne]; exact h
theorem same_new {H : Hp} {p : Addr} {u : HO} (n : H p = none) : Same H (upd H p u) := fun _ _ h => kp_new n h
/-- all but what stands at b is as it was -/
def But (b : Addr) (H H' : Hp) : Prop := ∀ a o, a ≠ b → H a = some o → H' a = some o
theorem But.refl (b : Addr) (H : Hp) : But b H H := fun _ _ _ h => h
theorem But.trans {b : Addr} {H H1 H2 : Hp} (x : But b H H1) (y : But b H1 H2) : But b H H2 := fun a o n h => y a o n (x a o n h)
theorem But.of {b : Addr} {H H' : Hp} (s : Same H H') : But b H H' := fun a o _ h => s a o h
theorem But.set {b : Addr} {H : Hp} {u : HO} : But b H (upd H b u) := fun a o n h => kp_set n h
theorem But.new {b p : Addr} {H : Hp} {u : HO} (n : H p = none) : But b H (upd H p u) := But.of (same_new n)
theorem But.free {b p : Addr} {H H' : Hp} (x : But b H H') (e : H' p = none) (n : p ≠ b) : H p = none := by
  cases q : H p with
  | none => rfl
  | some o => rw [x p o n q] at e; cases e
theorem kp_but {b a : Addr} {H H' : Hp} {o : HO} (x : But b H H') (n : a ≠ b) (h : H a = some o) : H' a = some o := x a o n h
theorem tup_ne {H : Hp} {a b : Addr} {xs ys : List V} (h : H a = some (.tup xs)) (h' : H b = some (.lst ys)) : a ≠ b := ne_of h h' (by intro z; cases z)

/-! ### the box of draws -/
def Box (n : Nat) (H : Hp) (b : Addr) : Prop := ∃ o m c : Int, H b = some (.lst [.int o, .int m, .int c]) ∧ 0 ≤ o ∧ 0 ≤ m ∧ m < 2 ^ 62 ∧ 0 ≤ c ∧ c ≤ n
theorem Box.mono {n k : Nat} {H : Hp} {b : Addr} (h : Box n H b) (l : n ≤ k) : Box k H b := by
  obtain ⟨o, m, c, h1, h2, h3, h4, h5, h6⟩ := h
  exact ⟨o, m, c, h1, h2, h3, h4, h5, by omega⟩
theorem Box.same {n : Nat} {H H' : Hp} {b : Addr} (h : Box n H b) (s : Same H H') : Box n H' b := by
  obtain ⟨o, m, c, h1, r⟩ := h
  exact ⟨o, m, c, s _ _ h1, r⟩
theorem Box.there {n : Nat} {H : Hp} {b : Addr} (h : Box n H b) : ∃ xs, H b = some (.lst xs) := by
  obtain ⟨o, m, c, h1, r⟩ := h
  exact ⟨_, h1⟩
theorem Box.new {n : Nat} {H : Hp} {b p : Addr} {u : HO} (h : Box n H b) (x : H p = none) : Box n (upd H p u) b := h.same (same_new x)

theorem Box.ne {n : Nat} {H : Hp} {b p : Addr} (h : Box n H b) (x : H p = none) : p ≠ b := (ne_of_none h.there.choose_spec x).symm
theorem Box.set {n : Nat} {H : Hp} {b p : Addr} {u : HO} (h : Box n H b) (x : p ≠ b) : Box n (upd H p u) b := by
  obtain ⟨o, m, c, h1, r⟩ := h
  exact ⟨o, m, c, kp_set x.symm h1, r⟩
/-! ### promises of the draws -/
def sp_take : Sp := fun vs H Q _ => ∃ (b : Addr) (many : Int) (n : Nat), vs = [.ref b, .int many] ∧ Box n H b ∧ n < 2 ^ 40 ∧ 0 < many ∧ many < 2 ^ 64 ∧
  ∀ (r : Int) (H' : Hp), 0 ≤ r → r < many → Box (n + 1) H' b → But b H H' → Q (.int r) H'

/-- from the script: the cell is any int -/
def sp_box (K : PySem.W.Frag) : Sp := fun vs H Q _ => ∃ (a : Addr) (ns : List Int) (k : Int), vs = [.ref a, .int k] ∧ SqL K H a (ns.map V.int) ∧ ns.length ≤ 63 ∧ 0 ≤ k ∧ k < 1000 ∧
  ∀ (b : Addr) (H' : Hp), Same H H' → H b = none → Box 0 H' b → Q (.ref b) H'
def sp_of (K : PySem.W.Frag) : Sp := fun vs H Q _ => ∃ (b a : Addr) (xs : List V) (n : Nat), vs = [.ref b, .ref a] ∧ Box n H b ∧ a ≠ b ∧ (H a = some (.lst xs) ∨ H a = some (.tup xs)) ∧ n < 2 ^ 40 ∧ xs ≠ [] ∧ xs.length < 2 ^ 60 ∧
  ∀ (v : V) (H' : Hp), v ∈ xs → Box (n + 1) H' b → But b H H' → Q v H'

/-- two ways that go on alike -/
theorem join {α : Type} {G : Prop} (P : α → Prop) (rest : ∀ x, P x) (use : (∀ x, P x) → G) : G := use rest
theorem b2_w (c : Bool) : -(2 ^ 64) < (if c = true then (1 : Int) else 0) ∧ (if c = true then (1 : Int) else 0) < 2 ^ 64 := by cases c <;> decide
theorem b2_nn (c : Bool) : (0 : Int) ≤ (if c = true then (1 : Int) else 0) := by cases c <;> decide
theorem szl {α : Type} {xs : List α} (n : Nat) (h : xs.length = n) (h2 : n ≤ sizeLine := by decide) : xs.length ≤ sizeLine := by rw [h]; exact h2
theorem nle {n : Nat} (m : Nat) (h : n = m) (h2 : m ≤ sizeLine := by decide) : n ≤ sizeLine := by rw [h]; exact h2
theorem one_of {z r : Int} {v : V} (r0 : 0 ≤ r) (z0 : 0 ≤ z) (z1 : z < 1 + r)
    (h : v ∈ ([.int (1 + z), .int (1 + z), .int (1 + z), .int (1 + z), .int ((1 + r) / 2 + 1), .int 1, .int (1 + r), .int (if (1 + r) / 2 > 1 then (1 + r) / 2 else 1), .int (if (1 + r) / 3 > 1 then (1 + r) / 3 else 1)] : List V)) :
    ∃ x : Int, v = .int x ∧ 1 ≤ x ∧ x ≤ 1 + r := by
  simp only [List.mem_cons, List.not_mem_nil, or_false] at h
  rcases h with h | h | h | h | h | h | h | h | h
  all_goals first
    | exact ⟨_, h, by omega, by omega⟩
    | (refine ⟨_, h, ?_, ?_⟩ <;> (split <;> omega))
theorem or_read {tA tB : TT} {σ : St} {H : Hp} {Q : Bool → Hp → Prop} (a c : Bool) (hA : ∀ Q : Bool → Hp → Prop, Q a H → tA σ H Q) (hB : a = false → ∀ Q : Bool → Hp → Prop, Q c H → tB σ H Q) (h : Q (a || c) H) : tOr tA tB σ H Q := by
  refine hA _ ?_
  cases a with
  | true => exact h
  | false => exact hB rfl _ h
theorem and_read {tA tB : TT} {σ : St} {H : Hp} {Q : Bool → Hp → Prop} (a c : Bool) (hA : ∀ Q : Bool → Hp → Prop, Q a H → tA σ H Q) (hB : a = true → ∀ Q : Bool → Hp → Prop, Q c H → tB σ H Q) (h : Q (a && c) H) : tAnd tA tB σ H Q := by
  refine hA _ ?_
  cases a with
  | true => exact hB rfl _ h
  | false => exact h
theorem or_if {tA tB : TT} {t u : TS} {D : Ends} {σ : St} {H : Hp} (a c : Bool) (hA : ∀ Q : Bool → Hp → Prop, Q a H → tA σ H Q) (hB : a = false → ∀ Q : Bool → Hp → Prop, Q c H → tB σ H Q) (h1 : (a || c) = true → t D σ H) (h2 : (a || c) = false → u D σ H) : tIfS (tOr tA tB) t u D σ H := by
  refine or_read a c hA hB ?_
  cases e : (a || c) with
  | true => exact h1 e
  | false => exact h2 e
theorem and_if {tA tB : TT} {t u : TS} {D : Ends} {σ : St} {H : Hp} (a c : Bool) (hA : ∀ Q : Bool → Hp → Prop, Q a H → tA σ H Q) (hB : a = true → ∀ Q : Bool → Hp → Prop, Q c H → tB σ H Q) (h1 : a = true → c = true → t D σ H) (h2 : (a && c) = false → u D σ H) : tIfS (tAnd tA tB) t u D σ H := by
  refine and_read a c hA hB ?_
  cases a with
  | true =>
    cases c with
    | true => exact h1 rfl rfl
    | false => exact h2 rfl
  | false => exact h2 rfl
/-! ### rules of more -/
section
variable {X : Cx}
def CPowW (i j : Int) : Prop := 0 ≤ j ∧ (Builtin.Int.intBits i : Int) * j ≤ 2 ^ 27
theorem op_powW : OpR X (binaryOp .Pow) (rI CPowW fun i j => .int (i ^ j.toNat)) := opI fun _ _ _ _ _ _ _ hc q => PyProof.Rows.pow_int hc.1 hc.2 q
end
theorem atI_in {α : Type} {xs : List α} {r : Int} (h0 : 0 ≤ r) (h1 : r < xs.length) : ∃ v, atI xs r = some v ∧ v ∈ xs := by
  obtain ⟨n, rfl⟩ : ∃ n : Nat, r = n := ⟨r.toNat, by omega⟩
  have h2 : n < xs.length := by omega
  exact ⟨xs[n], atI_nat (List.getElem?_eq_getElem h2), List.getElem_mem h2⟩

/-! ### rules of a log -/
structure Rules (S : Int) (ls : List Int) : Prop where
  s1 : 1 ≤ S
  s2 : S ≤ 100
  ne : ls ≠ []
  six : ls.length ≤ 6
  mem : ∀ l ∈ ls, 1 ≤ l ∧ l ≤ S
  asc : ls.Pairwise (· < ·)
def BookAt (H : Hp) (p : Addr) (S : Int) (ls : List Int) : Prop := ∃ q, H p = some (.tup [.int S, .ref q]) ∧ H q = some (.tup (ls.map V.int))
/-- all tuples stand -/
def Tups (H H' : Hp) : Prop := ∀ a xs, H a = some (.tup xs) → H' a = some (.tup xs)
theorem Tups.refl (H : Hp) : Tups H H := fun _ _ h => h
theorem Tups.trans {H H1 H2 : Hp} (x : Tups H H1) (y : Tups H1 H2) : Tups H H2 := fun a o h => y a o (x a o h)
theorem Same.tups {H H' : Hp} (s : Same H H') : Tups H H' := fun _ _ h => s _ _ h
theorem Tups.but {b : Addr} {H H' : Hp} {xs : List V} (s : But b H H') (h : H b = some (.lst xs)) : Tups H H' := fun _ _ q => s _ _ (tup_ne q h) q
theorem BookAt.tups {H H' : Hp} {p : Addr} {S : Int} {ls : List Int} (h : BookAt H p S ls) (t : Tups H H') : BookAt H' p S ls := by
  obtain ⟨q, h1, h2⟩ := h
  exact ⟨q, t _ _ h1, t _ _ h2⟩

def insL (ks : List Int) (k : Int) : List Int := if k ∈ ks then ks else ks ++ [k]
def dT (ks : List Int) : List (Key × V) := ks.map fun k => (Sum.inl k, V.bl true)
theorem dT_keys (ks : List Int) : (dT ks).map (·.1) = ks.map Sum.inl := by
  unfold dT
  rw [List.map_map]
  rfl
theorem dT_put (ks : List Int) (k : Int) : putK (dT ks) (Sum.inl k) (V.bl true) = dT (insL ks k) := by
  unfold putK insL dT
  by_cases h : k ∈ ks
  · rw [if_pos h, if_pos]
    · rw [List.map_map]
      apply List.map_congr_left
      intro a _
      show (if (Sum.inl a : Key) = Sum.inl k then ((Sum.inl a : Key), V.bl true) else (Sum.inl a, V.bl true)) = (Sum.inl a, V.bl true)
      split <;> rfl
    · rw [List.any_eq_true]
      exact ⟨(Sum.inl k, V.bl true), List.mem_map.mpr ⟨k, h, rfl⟩, decide_eq_true rfl⟩
  · rw [if_neg h, if_neg]
    · rw [List.map_append]
      rfl
    · rw [List.any_eq_true]
      rintro ⟨x, hx, e⟩
      obtain ⟨a, ha, rfl⟩ := List.mem_map.mp hx
      have e1 : (Sum.inl a : Key) = Sum.inl k := of_decide_eq_true e
      exact h (Sum.inl.inj e1 ▸ ha)
theorem insL_nd {ks : List Int} {k : Int} (h : ks.Nodup) : (insL ks k).Nodup := by
  unfold insL
  split
  · exact h
  · rename_i hk
    rw [List.nodup_append]
    refine ⟨h, by simp, ?_⟩
    intro a ha b hb e
    have : b = k := by simpa using hb
    exact hk (by rw [← this, ← e]; exact ha)
theorem insL_mem {ks : List Int} {k a : Int} (h : a ∈ insL ks k) : a ∈ ks ∨ a = k := by
  unfold insL at h
  split at h
  · exact .inl h
  · rcases List.mem_append.mp h with h | h
    · exact .inl h
    · exact .inr (by simpa using h)
theorem insL_len (ks : List Int) (k : Int) : (insL ks k).length ≤ ks.length + 1 := by
  unfold insL
  split
  · omega
  · simp
theorem insL_ne (ks : List Int) (k : Int) : insL ks k ≠ [] := by
  unfold insL
  split
  · rename_i h
    exact List.ne_nil_of_mem h
  · simp
theorem asc_of {ys ks : List Int} (p : ys.Perm ks) (h : ks.Nodup) (s : ys.Pairwise (· ≤ ·)) : ys.Pairwise (· < ·) := by
  have n : ys.Nodup := p.nodup_iff.mpr h
  have b := List.pairwise_and_iff.mpr ⟨s, n⟩
  exact b.imp fun {x y} ⟨h1, h2⟩ => by omega

def sp_book : Sp := fun vs H Q _ => ∃ (b : Addr) (top : Int) (n : Nat), vs = [.ref b, .int top] ∧ Box n H b ∧ n + 100 < 2 ^ 40 ∧ 1 ≤ top ∧ top ≤ 100 ∧
  ∀ (p : Addr) (S : Int) (ls : List Int) (H' : Hp), Rules S ls → S ≤ top → BookAt H' p S ls → Box (n + 14) H' b → But b H H' → Q (.ref p) H'

/-! ### events -/
inductive Ev where
  | line (l : Int)
  | look
  | rot
  deriving DecidableEq
def Ev.v : Ev → V
  | .line l => .int l
  | .look => .str "look"
  | .rot => .str "rotate"
def Ev.ok (ls : List Int) : Ev → Prop
  | .line l => l ∈ ls
  | _ => True
/-- bytes and rotations by hand since the last look -/
def Ev.st : Int × Int → Ev → Int × Int
  | (s, h), .line l => (s + l, h)
  | _, .look => (0, 0)
  | (s, h), .rot => (s, h + 1)
def stOf (es : List Ev) : Int × Int := es.foldl Ev.st (0, 0)
theorem stOf_snoc (es : List Ev) (e : Ev) : stOf (es ++ [e]) = Ev.st (stOf es) e := by
  unfold stOf
  rw [List.foldl_append]
  rfl
def Tame (bound often : Int) (es : List Ev) : Prop := ∀ j, j ≤ es.length → (stOf (es.take j)).1 ≤ bound ∧ (stOf (es.take j)).2 ≤ often
theorem Tame.nil {bound often : Int} (h1 : 0 ≤ bound) (h2 : 0 ≤ often) : Tame bound often [] := fun j hj => by
  have : j = 0 := by simpa using hj
  subst this
  exact ⟨h1, h2⟩
theorem Tame.snoc {bound often : Int} {es : List Ev} {e : Ev} (h : Tame bound often es) (h1 : (Ev.st (stOf es) e).1 ≤ bound) (h2 : (Ev.st (stOf es) e).2 ≤ often) : Tame bound often (es ++ [e]) := fun j hj => by
  by_cases hl : j ≤ es.length
  · rw [List.take_append_of_le_length hl]
    exact h j hl
  · have e1 : (es ++ [e]).take j = es ++ [e] := List.take_of_length_le (by simp at hj ⊢; omega)
    rw [e1, stOf_snoc]
    exact ⟨h1, h2⟩
def sp_tale : Sp := fun vs H Q _ => ∃ (b bk : Addr) (S : Int) (ls : List Int) (bound often many : Int) (n : Nat), vs = [.ref b, .ref bk, .int bound, .int often, .int many] ∧ BookAt H bk S ls ∧ Rules S ls ∧ Box n H b ∧
  0 ≤ bound ∧ 0 ≤ often ∧ 0 ≤ many ∧ many ≤ 1000 ∧ n + 2000 < 2 ^ 40 ∧
  ∀ (t : Addr) (es : List Ev) (H' : Hp), H' t = some (.tup (es.map Ev.v)) → (∀ e ∈ es, Ev.ok ls e) → (es.length : Int) ≤ many → Tame bound often es → Box (n + 2 * many.toNat) H' b → But b H H' → Q (.ref t) H'
end My

namespace My
open PySem PySem.Spec PyProof.Rows L2

/-! ### defs that want to know that no repr is under way (they call repr) -/
structure FnG (P : Program) (w : World) (K : PySem.W.Frag) (mg : Str → Option Value) (base : Heap) (k : Nat) (f : Addr) (fd : FuncData) (ps : List Str) (sp : Sp) : Prop where
  len : ∀ vs H Q, sp vs H Q E0 → vs.length = ps.length
  go : ∀ {A : Around} {out : List Env} {s : Shared} {H : Hp} {as : Args} {us : List Value} {vs : List V} {Q : VK}, A.guards = some [] → Room k A → Env0 P w K mg base A out s H →
    BindsTo s fd as (ps.zip us) → Vals vs us → sp vs H Q E0 → codeAny (model P w) A (.call (.ref f) as) (CR CX0 out P w H s Q E0) s
theorem FnOk.g {P : Program} {w : World} {K : PySem.W.Frag} {mg : Str → Option Value} {base : Heap} {k : Nat} {f : Addr} {fd : FuncData} {ps : List Str} {sp : Sp} (F : FnOk P w K mg base CX0 k f fd ps sp) : FnG P w K mg base k f fd ps sp :=
  ⟨fun vs H Q h => F.len vs H Q _ h, fun _ hr he hb hv h => F.run _ _ _ _ _ _ _ _ _ hr he hb hv h⟩

section
variable {P : Program} {w : World} {K : PySem.W.Frag} {mg : Str → Option Value} {base : Heap}
theorem g_ok {nm qual : Str} {st : Stmt} {f : Addr} {fd : FuncData} {N ps : List Str} {k : Nat} {sp : Sp} (F : Fun K nm qual st f fd) (S : FnScope N ps (defScope st)) (len : ∀ vs H Q, sp vs H Q E0 → vs.length = ps.length)
    (body : ∀ (cdv : Value) (A : Around) (out : List Env) (s : Shared) (H : Hp) (vs : List V) (Q : VK), (A.deeper (envOfC qual (defScope st) s.heap.objs.size f cdv)).guards = some [] →
      Room k (A.deeper (envOfC qual (defScope st) s.heap.objs.size f cdv)) → sp vs H Q E0 →
      ∃ t, PSs (cxOf CX0 P w K mg base N qual (defScope st) f cdv A out s H E0).nox (defBody st) t ∧ t { nx := fun _ H' => Q .non H', rt := Q } (start N vs) H) :
    FnG P w K mg base (k + 1) f fd ps sp := by
  obtain ⟨oc, od, kV, doc, pm, an, cdv, ct, osl, rfl, lk, hcd⟩ := F.ex
  refine ⟨len, ?_⟩
  intro A out s H as us vs Q hg hr e0 hb rv hsp
  have hst : ∀ b o, base.get? b = some o → s.heap.get? b = some o := fun b o e => (e0.bs b o e).1
  have hK : K.In s.heap := e0.mod.kin.keeps hst
  have places : ∀ y ∈ ps.zip us, (defScope st).names.lookup y.1 = some .local ∨ ((defScope st).names.lookup y.1 = some .cell ∧ ((cellsFrom (s.heap.objs.size + 1) (defScope st).names []).lookup y.1).isSome = true) := by
    intro y hy
    obtain ⟨n, v⟩ := y
    exact (S.par n (List.of_mem_zip hy).1).imp id fun q => ⟨q, PySem.W.cellsFrom_some _ _ _ (.inl q)⟩
  refine codeAny_call_function hr.depth (hK _ _ lk) rfl S.co S.gen rfl (PySem.W.codeRec_of hK hcd) (hb _ _ _ _ (wpAny_newFunctionEnv_cells S.kind places fun env he s2 x => ?_))
  cases he
  refine ⟨(e0.mod.nolimit.keeps hst).keeps x.toInCall.keep, codeAny_func ?_⟩
  obtain ⟨t, ht, ht2⟩ := body cdv A out s H vs Q hg (hr.deeper _) hsp
  have I := inv_start (CX := CX0) (E := E0) S hr.hd e0 (len _ _ _ hsp) rv x
  refine wpAny_mono (ht.nox.run [] s2 _ H _ I ht2) ?_ fun _ _ h => h
  intro fl s3 h3
  cases fl with
  | next =>
    obtain ⟨σ3, H3, J, q⟩ := h3
    exact ⟨V.non, H3, J.os, J.bare, J.base, J.hok, rfl, q⟩
  | ret u =>
    obtain ⟨v3, σ3, H3, J, r3, q⟩ := h3
    exact ⟨v3, H3, J.os, J.bare, J.base, J.hok, r3, q⟩
  | brk => exact (h3.choose_spec.choose_spec.2 : False).elim
  | cont => exact (h3.choose_spec.choose_spec.2 : False).elim
end

section
variable {X : Cx} {k : Nat} {f : Addr} {fd : FuncData} {ps : List Str} {sp : Sp} {x : Str} {p pos : Pos} {e : Expr} {es : List Expr} {t : TA}
theorem runG {pins : List (Addr × Obj)} {σ : L2.St} {H : Hp} {s : Shared} {Q : VK} {us : List Value} {vs : List V} (hg : X.A.guards = some []) (F : FnG X.prog X.w X.K X.mg X.base k f fd ps sp) (hr : Room k X.A) (hb : Binds X.K fd ps [])
    (I : Inv X pins σ H s) (r : Vals vs us) (h : sp vs H Q E0) : wpAny (model X.prog X.w) X.A (call (.ref f) us) (EP X pins σ Q) X.xe s := by
  have hlen : (us ++ []).length = ps.length := by
    rw [List.append_nil, ← r.length]
    exact F.len _ _ _ h
  have hbt := hb s us I.kIn hlen
  rw [List.append_nil] at hbt
  refine wpAny_call (codeAny_mono (F.go hg hr I.env0 hbt r h) ?_)
  intro res s2 hq
  match res, hq with
  | .error _, hq => exact hq.elim
  | .ok (.ret u), hq => exact I.after hq
/-- f(e, ..) of such a def -/
theorem pe_callG (hg : X.A.guards = some []) (F : FnG X.prog X.w X.K X.mg X.base k f fd ps sp) (hr : Room k X.A) (hgl : Gl X x) (hm : X.mg x = some (.ref f)) (hk : PySem.W.keepIn X.K (.ref f) = true) (hb : Binds X.K fd ps [])
    (ha : PA X (e :: es) t) (he : starEach (e :: es) X.env = (false, eval e X.env) :: starEach es X.env := by rfl) (hpl : (backTo pos (starEach es X.env)).any (·.1) = false := by rfl)
    (hdb : (x == ("__debug__" : Str)) = false := by decide) : PE X (.Call (.Name x p) (e :: es) [] pos) (tCall sp [] E0 t) := by
  constructor
  intro pins s σ H Q I want
  have step : ∀ (us : List Value) (s2 : Shared), AP X pins σ (fun vs H2 => sp (vs ++ []) H2 Q E0) us s2 → X.K.In s2.heap ∧ wpAny (model X.prog X.w) X.A (call (.ref f) us) (EP X pins σ Q) X.xe s2 := by
    rintro us s2 ⟨vs, H2, I2, r2, q2⟩
    rw [List.append_nil] at q2
    exact ⟨I2.kIn, runG hg F hr hb I2 r2 q2⟩
  exact wpAny_Call_Name_kw (ld_glob I hgl hm (PySem.W.callWith_K (h₀ := X.base) I.ok.mod.kin hk (thn (ha.run pos pins s σ H _ I want) step) he hpl) hdb)
end

/-! ### the law's own call -/
theorem top_run {P : Program} {w : World} {K : PySem.W.Frag} {mg mb : Str → Option Value} {k : Nat} {fa a : Addr} {fd : FuncData} {x : Str} {sp : Sp} {s : Shared} {vs : List Value} {H : Hp}
    (kin : K.In s.heap) (ng : s.heap.Ns mainGlobals mg) (nb : s.heap.Ns builtinsNs mb) (eb : ∀ y : Str, y ≠ "__name__" → mb y = bootBuiltins y) (nl : s.heap.NoLimit) (gs : s.gens = #[])
    (sa : s.heap.get? a = some { cls := .type "list", data := .seq vs.toArray }) (rm : Room k callerA)
    (F : ∀ base : Heap, K.In base → base.Ns mainGlobals mg → FnG P w K mg base k fa fd [x] sp) (bt : ∀ (s : Shared) (u : Value), BindsTo s fd ⟨[u], []⟩ [(x, u)])
    (only : Only H) (hok : HOk P w H s.heap) (alone : ∀ b, H b ≠ none → b = a) (noK : H a ≠ none → K.lookup a = none) (due : sp [.ref a] H (fun v _ => v = .bl true) E0) :
    codeAny (model P w) callerA (.call (.ref fa) ⟨[.ref a], []⟩) (fun r s' => r = .ok (.ret (.bool true)) ∧ OldK s.heap s'.heap ∧ s'.os = s.os ∧ AllBare s'.gens) s := by
  have isA : ∀ {b : Addr} {u : HO}, H b = some u → b = a := fun {b u} q => alone b (by rw [q]; exact fun z => nomatch z)
  have dictFree : ∀ {b : Addr} {m : Str → Option Value}, s.heap.Ns b m → H b = none := by
    rintro b m ⟨o, es, ep, e, d, _⟩
    cases q : H b with
    | none => rfl
    | some u =>
      have eb := isA q
      subst eb
      rw [sa] at e
      cases e
      cases d
  have still : ∀ {b : Addr} {m : Str → Option Value}, s.heap.Ns b m → (hidT s.heap H).Ns b m := by
    intro b m n
    have fr := dictFree n
    obtain ⟨o, es, ep, e, r⟩ := n
    exact ⟨o, es, ep, hidT_get e fr, r⟩
  have kb : K.In (hidT s.heap H) := by
    intro b o e
    refine hidT_get (kin b o e) ?_
    cases q : H b with
    | none => rfl
    | some u =>
      have eb := isA q
      subst eb
      have z := noK (by rw [q]; exact fun z => nomatch z)
      rw [z] at e
      cases e
  obtain ⟨ml, l1, l2⟩ := nl
  have env : Env0 P w K mg (hidT s.heap H) callerA [] s H :=
    { frames := rfl, mod := ⟨kb, still ng, ⟨mb, still nb, eb⟩, ⟨ml, still l1, l2⟩⟩, bs := fun b o e => of_hidT e, bsz := Nat.le_of_eq (hidT_size _ _), funs := trivial, frf := fun b hb => (nomatch hb), hok := hok, bare := .of_eq gs }
  refine codeAny_mono ((F _ kb (still ng)).go (us := [Value.ref a]) (vs := [V.ref a]) rfl rm env (bt s (.ref a)) (Paired.cons rfl Paired.nil) due) ?_
  intro r s' hq
  match r, hq with
  | .error _, hq => exact hq.elim
  | .ok (.ret u), ⟨v, H', os, bare, un, hok', rv, q⟩ =>
    have q : v = .bl true := q
    subst q
    cases rv
    refine ⟨rfl, OldK.of_keep ?_, os, bare⟩
    intro b o e
    cases qb : H b with
    | none => exact un.keep b o e qb (fun z => nomatch z) (fun z => nomatch z)
    | some u =>
      rcases only b with z | ⟨ob, xs, z⟩
      · rw [qb] at z
        cases z
      · obtain ⟨e1, _⟩ := hok b _ z
        rw [e] at e1
        cases e1
        exact (hok' b _ (un.frzs b o _ z)).1

theorem top_call {P : Program} {w : World} {K : PySem.W.Frag} {mg mb : Str → Option Value} {k : Nat} {fa a : Addr} {fd : FuncData} {x : Str} {sp : Sp} {s : Shared} {vs : List Value} {ns : List Int}
    (kin : K.In s.heap) (ng : s.heap.Ns mainGlobals mg) (nb : s.heap.Ns builtinsNs mb) (eb : ∀ y : Str, y ≠ "__name__" → mb y = bootBuiltins y) (nl : s.heap.NoLimit) (gs : s.gens = #[])
    (sa : s.heap.get? a = some { cls := .type "list", data := .seq vs.toArray }) (ia : IntsAre vs ns) (len : ns.length ≤ sizeLine) (rm : Room k callerA)
    (F : ∀ base : Heap, K.In base → base.Ns mainGlobals mg → FnG P w K mg base k fa fd [x] sp) (bt : ∀ (s : Shared) (u : Value), BindsTo s fd ⟨[u], []⟩ [(x, u)])
    (due : ∀ H : Hp, Only H → SqL K H a (ns.map V.int) → sp [.ref a] H (fun v _ => v = .bl true) E0) :
    codeAny (model P w) callerA (.call (.ref fa) ⟨[.ref a], []⟩) (fun r s' => r = .ok (.ret (.bool true)) ∧ OldK s.heap s'.heap ∧ s'.os = s.os ∧ AllBare s'.gens) s := by
  have rv := vals_ints ia
  cases hk : K.lookup a with
  | some o =>
    have e := kin a o hk
    rw [sa] at e
    cases e
    have on : Only (fun _ => none) := fun _ => .inl rfl
    refine top_run kin ng nb eb nl gs sa rm F bt on (fun b u z => ?_) (fun b z => absurd rfl z) (fun z => absurd rfl z) (due _ on (.inr ⟨_, vs.toArray, _, hk, rfl, rfl, rfl, ?_, ?_⟩))
    · exact nomatch z
    · rw [List.size_toArray, ia.length]
      exact len
    · simpa using rv
  | none =>
    have at_ : (fun b => if b = a then some (HO.frz { cls := .type "list", data := .seq vs.toArray } (.lst (ns.map V.int))) else none) a = some (HO.frz { cls := .type "list", data := .seq vs.toArray } (.lst (ns.map V.int))) := if_pos rfl
    have off : ∀ b, b ≠ a → (fun b => if b = a then some (HO.frz { cls := .type "list", data := .seq vs.toArray } (.lst (ns.map V.int))) else none) b = none := fun b n => if_neg n
    generalize (fun b => if b = a then some (HO.frz { cls := .type "list", data := .seq vs.toArray } (.lst (ns.map V.int))) else none) = H at at_ off
    have on : Only H := fun b => by
      by_cases n : b = a
      · subst n
        exact .inr ⟨_, _, at_⟩
      · exact .inl (off b n)
    refine top_run kin ng nb eb nl gs sa rm F bt on (fun b u z => ?_) (fun b z => ?_) (fun _ => hk) (due _ on (.inl (.inr ⟨_, at_⟩)))
    · by_cases n : b = a
      · subst n
        rw [at_] at z
        cases z
        exact ⟨sa, by rw [List.length_map]; exact len, vs, _, rv, sa⟩
      · rw [off b n] at z
        cases z
    · by_cases n : b = a
      · exact n
      · exact absurd (off b n) z

theorem walk_g {l : PySem.W.OpenLaw} {k : Nat} {q : Program} {loose : List Str} {XP : (Str → Option Value) → Heap → Prop} {YP : World → Heap → Prop} {d : DefRec} {K : Params → PySem.W.Frag} {sp : PySem.W.Frag → Sp} {x : Str}
    (hn : l.most = some 63) (hdf : d.params.defaults = []) (hr : Room k callerA) (hY : ∀ (w : World) (h : Heap), YP w h → (K w.params).In h)
    (F : ∀ (w : World) (mg : Str → Option Value) (fa : Addr) (h : Heap), (K w.params).In h → h.Ns mainGlobals mg → mg d.name = some (.ref fa) →
      ∃ fd : FuncData, (∀ (s : Shared) (u : Value), BindsTo s fd ⟨[u], []⟩ [(x, u)]) ∧ ∀ base : Heap, (K w.params).In base → base.Ns mainGlobals mg → FnG l.prog w (K w.params) mg base k fa fd [x] (sp (K w.params)))
    (due : ∀ (K : PySem.W.Frag) (H : Hp) (a : Addr) (ns : List Int), ns.length ≤ 63 → Only H → SqL K H a (ns.map V.int) → sp K [.ref a] H (fun v _ => v = .bl true) E0) :
    PySem.W.WalkO q loose XP YP l.row.toRowW d [] (fun f vs => PySem.call f vs) := by
  apply Att.attach_call hn hdf
  intro w s0 s1 mg mb fa o pm cd doc a vs ns G Y ho hd hcd hmg ha hi hlen hg
  have kx := hY w _ Y
  obtain ⟨fd, hb, hF⟩ := F w mg fa _ kx G.T.g hmg
  exact top_call kx G.T.g G.T.b G.T.builtins G.T.nolimit hg ha hi (Nat.le_trans hlen (by decide)) hr hF hb fun H hO hS => due _ H a ns hlen hO hS

/-! ### repr of data -/
structure Tx (n k : Nat) (d : PyData) : Prop where
  sh : d.showable = true
  nd : d.hasDict = false
  dp : d.depth ≤ k
  ln : d.shown.length ≤ n
theorem call_repr {X : Cx} {k : Nat} (hg : X.A.guards = some []) (hr : Room k X.A) : CallR X (.builtin "repr") (fun xs H Q => ∃ (x : V) (d : PyData), xs = [x] ∧ Dp X.K H x d ∧ Tx 16777216 60 d ∧ Q (.str d.shown) H) := by
  intro pins s σ H xs us Q I r q
  obtain ⟨x, d, rfl, hd, tx, q⟩ := q
  obtain ⟨u, rfl, rx⟩ := vals1 r
  have hu := hr.units
  have hz : d.shown.length ≤ sizeLine := by
    rw [sizeLine_eq]
    exact tx.ln
  obtain ⟨as, rd⟩ := Dp.reads I d x u hd rx
  have dp := tx.dp
  have big : ∀ a, u = .ref a → wpAny (model X.prog X.w) X.A (call (.builtin "repr") [u]) (EP X pins σ Q) X.xe s := by
    rintro a rfl
    exact repr_of_reads' rd tx.sh (PyData.noDict_hsm tx.nd) hg (by omega) (fun _ _ e => e) (fun h' u tk hk => ⟨.str _, H, I.kept hk, ⟨_, rfl⟩, q⟩) hz
  have sh := tx.sh
  cases rd with
  | none => exact PySem.P.repr_of_none ⟨.str _, H, I.tok _, ⟨_, rfl⟩, by simpa only [PyData.shown_none] using q⟩
  | bool b => exact PySem.P.repr_of_bool ⟨.str _, H, I.tok _, ⟨_, rfl⟩, by simpa only [PyData.shown_bool] using q⟩
  | int i t => exact PySem.P.repr_of_int (by simpa only [PyData.showable, decide_eq_true_eq] using sh) ⟨.str _, H, I.tok _, ⟨_, rfl⟩, by simpa only [PyData.shown_int] using q⟩
  | str z t => exact PySem.P.repr_of_str ⟨.str _, H, I.tok _, ⟨_, rfl⟩, by simpa only [PyData.shown_str] using q⟩ (by simpa only [PyData.shown_str] using hz)
  | list _ _ _ _ => exact big _ rfl
  | tuple _ _ _ _ => exact big _ rfl
  | dict _ _ _ _ _ => exact big _ rfl

theorem showableAll_iff : ∀ ds : List PyData, PyData.showableAll ds = true ↔ ∀ d ∈ ds, d.showable = true
  | [] => by simp [PyData.showableAll]
  | d :: ds => by simp only [PyData.showableAll, Bool.and_eq_true, showableAll_iff ds, List.mem_cons, forall_eq_or_imp]
theorem hasDictAll_iff : ∀ ds : List PyData, PyData.hasDictAll ds = false ↔ ∀ d ∈ ds, d.hasDict = false
  | [] => by simp [PyData.hasDictAll]
  | d :: ds => by simp only [PyData.hasDictAll, Bool.or_eq_false_iff, hasDictAll_iff ds, List.mem_cons, forall_eq_or_imp]
theorem depthAll_le {k : Nat} : ∀ ds : List PyData, (∀ d ∈ ds, d.depth ≤ k) → PyData.depthAll ds ≤ k
  | [], _ => by simp [PyData.depthAll]
  | d :: ds, h => by
    simp only [PyData.depthAll]
    have h1 := h d List.mem_cons_self
    have h2 := depthAll_le ds fun x hx => h x (List.mem_cons_of_mem _ hx)
    exact Nat.max_le.mpr ⟨h1, h2⟩
theorem shownAll_map : ∀ ds : List PyData, PyData.shownAll ds = ds.map PyData.shown
  | [] => by simp [PyData.shownAll]
  | d :: ds => by simp only [PyData.shownAll, shownAll_map ds, List.map_cons]
theorem join_le (n : Nat) : ∀ ts : List Str, (∀ t ∈ ts, t.length ≤ n) → (Str.join ", " ts).length ≤ ts.length * (n + 2)
  | [], _ => Nat.zero_le _
  | t :: r, h => by
    have h1 := join_length_add (t :: r) (by simp)
    have h2 : ∀ us : List Str, (∀ t ∈ us, t.length ≤ n) → piled us ≤ us.length * (n + 2) := by
      intro us
      induction us with
      | nil => intro _; exact Nat.zero_le _
      | cons u us ih =>
        intro hu
        have a := hu u List.mem_cons_self
        have b := ih fun x hx => hu x (List.mem_cons_of_mem _ hx)
        rw [piled_cons, List.length_cons, Nat.succ_mul]
        omega
    have h3 := h2 _ h
    omega
theorem Tx.mono {n m k l : Nat} {d : PyData} (t : Tx n k d) (h : n ≤ m) (h2 : k ≤ l) : Tx m l d := ⟨t.sh, t.nd, Nat.le_trans t.dp h2, Nat.le_trans t.ln h⟩
theorem Tx.int {i : Int} {n : Nat} (h0 : 0 < n) (h1 : n ≤ 500) (h : i.natAbs < 10 ^ n) : Tx (n + 1) 0 (.int i) := by
  refine ⟨?_, by simp only [PyData.hasDict], by simp only [PyData.depth]; exact Nat.le_refl _, ?_⟩
  · simp only [PyData.showable, decide_eq_true_eq]
    have h2 : i.natAbs < 2 ^ 1920 := Nat.lt_of_lt_of_le h (Nat.le_trans (Nat.pow_le_pow_right (by decide) h1) (by decide +kernel))
    by_cases z : i.natAbs = 0
    · rw [z]
      decide
    · exact (Nat.log2_lt z).mpr h2
  · rw [PyData.shown_int]
    have e := PySem.int_text_length_le10 h0 h
    show (Str.ofString (toString i)).length ≤ n + 1
    rw [PySem.ofString_length]
    exact e
theorem Tx.bool {b : Bool} : Tx 5 0 (.bool b) := by
  refine ⟨by simp only [PyData.showable], by simp only [PyData.hasDict], by simp only [PyData.depth]; exact Nat.le_refl _, ?_⟩
  rw [PyData.shown_bool]
  cases b <;> decide +kernel
theorem Tx.none : Tx 4 0 .none := by
  refine ⟨by simp only [PyData.showable], by simp only [PyData.hasDict], by simp only [PyData.depth]; exact Nat.le_refl _, ?_⟩
  rw [PyData.shown_none]
  decide +kernel
theorem Tx.str {x : Str} (h : ∀ c ∈ x.cps.toList, c < 16 ^ 8) : Tx (10 * x.length + 2) 0 (.str x) := by
  refine ⟨by simp only [PyData.showable], by simp only [PyData.hasDict], by simp only [PyData.depth]; exact Nat.le_refl _, ?_⟩
  rw [PyData.shown_str]
  exact StrLaws.reprText_len x h
theorem Tx.list {n k m : Nat} {ds : List PyData} (h : ∀ d ∈ ds, Tx n k d) (hm : ds.length ≤ m) : Tx (m * (n + 2) + 2) (k + 1) (.list ds) := by
  refine ⟨by simp only [PyData.showable]; exact (showableAll_iff ds).mpr fun d hd => (h d hd).sh, by simp only [PyData.hasDict]; exact (hasDictAll_iff ds).mpr fun d hd => (h d hd).nd, ?_, ?_⟩
  · simp only [PyData.depth]
    exact Nat.succ_le_succ (depthAll_le ds fun d hd => (h d hd).dp)
  · rw [PyData.shown_list, strLen_append, strLen_append, shownAll_map]
    have e1 : ((("[" : String) : Str)).length = 1 := rfl
    have e2 : ((("]" : String) : Str)).length = 1 := rfl
    have e3 := join_le n (ds.map PyData.shown) fun t ht => by
      obtain ⟨d, hd, rfl⟩ := List.mem_map.mp ht
      exact (h d hd).ln
    rw [List.length_map] at e3
    have e4 := Nat.mul_le_mul_right (n + 2) hm
    omega
theorem Tx.tuple {n k m : Nat} {ds : List PyData} (h : ∀ d ∈ ds, Tx n k d) (hm : ds.length ≤ m) : Tx (m * (n + 2) + 3) (k + 1) (.tuple ds) := by
  refine ⟨by simp only [PyData.showable]; exact (showableAll_iff ds).mpr fun d hd => (h d hd).sh, by simp only [PyData.hasDict]; exact (hasDictAll_iff ds).mpr fun d hd => (h d hd).nd, ?_, ?_⟩
  · simp only [PyData.depth]
    exact Nat.succ_le_succ (depthAll_le ds fun d hd => (h d hd).dp)
  · rw [PyData.shown_tuple, strLen_append, strLen_append, shownAll_map]
    have e1 : ((("(" : String) : Str)).length = 1 := rfl
    have e2 : (((if ds.length == 1 then ",)" else ")" : String) : Str)).length ≤ 2 := by split <;> decide
    have e3 := join_le n (ds.map PyData.shown) fun t ht => by
      obtain ⟨d, hd, rfl⟩ := List.mem_map.mp ht
      exact (h d hd).ln
    rw [List.length_map] at e3
    have e4 := Nat.mul_le_mul_right (n + 2) hm
    omega

/-! ### data that lie in the heap -/
theorem dp_map {α : Type} {K : PySem.W.Frag} {H : Hp} {f : α → V} {g : α → PyData} : ∀ {xs : List α}, (∀ x ∈ xs, Dp K H (f x) (g x)) → DpAll K H (xs.map f) (xs.map g)
  | [], _ => .nil
  | x :: xs, h => .cons (h x List.mem_cons_self) (dp_map fun y hy => h y (List.mem_cons_of_mem _ hy))
theorem dp_ints {K : PySem.W.Frag} {H : Hp} (ns : List Int) : DpAll K H (ns.map V.int) (ns.map PyData.int) := dp_map fun n _ => .int n
def Ev.d : Ev → PyData
  | .line l => .int l
  | .look => .str "look"
  | .rot => .str "rotate"
theorem dp_ev {K : PySem.W.Frag} {H : Hp} (e : Ev) : Dp K H e.v e.d := by
  cases e with
  | line l => exact .int l
  | look => exact .str _
  | rot => exact .str _
theorem dp_evs {K : PySem.W.Frag} {H : Hp} (es : List Ev) : DpAll K H (es.map Ev.v) (es.map Ev.d) := dp_map fun e _ => dp_ev e
theorem Ev.tx {e : Ev} {ls : List Int} (h : Ev.ok ls e) (hl : ∀ l ∈ ls, 1 ≤ l ∧ l ≤ 100) : Tx 62 0 e.d := by
  cases e with
  | line l =>
    have := hl l h
    exact (Tx.int (n := 3) (by decide) (by decide) (by omega)).mono (by decide) (Nat.le_refl _)
  | look => exact (Tx.str (x := "look") (by decide +kernel)).mono (by decide) (Nat.le_refl _)
  | rot => exact (Tx.str (x := "rotate") (by decide +kernel)).mono (by decide) (Nat.le_refl _)

theorem inV_int {z : Int} {ls : List Int} (h : z ∈ ls) : inV (.int z) (ls.map V.int) = true := by
  unfold inV
  rw [List.any_map, List.any_eq_true]
  exact ⟨z, h, by show eqV (.int z) (.int z) = true; simp [eqV]⟩
theorem flat_ints (ls : List Int) : (ls.map V.int).all flatV = true := by
  rw [List.all_map, List.all_eq_true]
  intro z _
  rfl
theorem all_true (n : Nat) : (List.replicate n true).all id = true := by
  rw [List.all_eq_true]
  intro b hb
  exact (List.mem_replicate.mp hb).2
theorem trues_snoc (n : Nat) : (List.replicate n true).map V.bl ++ [V.bl true] = (List.replicate (n + 1) true).map V.bl := by
  rw [List.replicate_succ', List.map_append]
  rfl
theorem trues_len (n : Nat) : ((List.replicate n true).map V.bl).length = n := by simp
/-- a list of trues at D, everything that stood stands -/
def TruesAt (D : Addr) (n : Nat) (H : Hp) : Prop := H D = some (.lst ((List.replicate n true).map V.bl))
theorem Tx.small {i : Int} (h : i.natAbs < 10 ^ 3) : Tx 4 0 (.int i) := Tx.int (by decide) (by decide) h

/-- max(1, min(len(script), 3)), max(1, min(3, len(script))) -/
def cntA (n : Nat) : Int := if (if (3 : Int) < (n : Int) then (3 : Int) else (n : Int)) > 1 then (if (3 : Int) < (n : Int) then (3 : Int) else (n : Int)) else 1
def cntB (n : Nat) : Int := if (if (n : Int) < (3 : Int) then (n : Int) else (3 : Int)) > 1 then (if (n : Int) < (3 : Int) then (n : Int) else (3 : Int)) else 1
theorem cntA_in (n : Nat) : 1 ≤ cntA n ∧ cntA n ≤ 3 := by
  unfold cntA
  split <;> (try split) <;> omega
theorem cntB_in (n : Nat) : 1 ≤ cntB n ∧ cntB n ≤ 3 := by
  unfold cntB
  split <;> (try split) <;> omega
end My

namespace My
open PySem L2

/-! ### the layer's rules with the written part named: within a comprehension's block it is not X's own field -/
section
variable {X : Cx} {K : PySem.W.Frag}
theorem ix_listK (h : X.K = K) : IxR X (rIxL K) := h ▸ ix_list
theorem ix_tupK (h : X.K = K) : IxR X (rIxT K) := h ▸ ix_tup
theorem ix_seqK (h : X.K = K) : IxR X (rIx K) := h ▸ ix_seq
theorem sl_tupK (h : X.K = K) : SlR X (rSlT K) := h ▸ sl_tup
theorem sl_listK (h : X.K = K) : SlR X (rSlL K) := h ▸ sl_list
theorem op_inK (h : X.K = K) : OpR X (compareOp .In) (rIn K false) := h ▸ op_in_seq
theorem op_notInK (h : X.K = K) : OpR X (compareOp .NotIn) (rIn K true) := h ▸ op_notIn_seq
theorem op_eqDK (h : X.K = K) (hu : X.A.units + 64 < cLine) : OpR X (compareOp .Eq) (rEqD K) := h ▸ op_eqD hu
theorem op_neDK (h : X.K = K) (hu : X.A.units + 64 < cLine) : OpR X (compareOp .NotEq) (rNeD K) := h ▸ op_neD hu
theorem op_catTK (h : X.K = K) : OpR X (binaryOp .Add) (rCatT K) := h ▸ op_catT
def rLen (K : PySem.W.Frag) : List V → Hp → VK → Prop := fun xs H Q => ∃ p ys, xs = [.ref p] ∧ (SqL K H p ys ∨ SqT K H p ys) ∧ Q (.int ys.length) H
theorem call_lenK (h : X.K = K) : CallR X (.builtin "len") (rLen K) := h ▸ call_len_seq
theorem cr_sumK (h : X.K = K) (hc : X.calm = true) : CallR X (.builtin "sum") (rSum K) := h ▸ cr_sum hc
theorem cr_allK (h : X.K = K) (hc : X.calm = true) : CallR X (.builtin "all") (rAll K) := h ▸ cr_all hc
theorem cr_anyK (h : X.K = K) (hc : X.calm = true) : CallR X (.builtin "any") (rAny K) := h ▸ cr_any hc
theorem cr_maxK (h : X.K = K) (hc : X.calm = true) : CallR X (.builtin "max") (rMax K) := h ▸ cr_max hc
theorem cr_minK (h : X.K = K) (hc : X.calm = true) : CallR X (.builtin "min") (rMin K) := h ▸ cr_min hc
theorem call_isiK (h : X.K = K) : CallR X (.builtin "isinstance") (rIsi K) := h ▸ call_isi
def rTupleOf (K : PySem.W.Frag) : List V → Hp → VK → Prop := fun xs H Q => ∃ p ys, xs = [.ref p] ∧ ((SqL K H p ys ∧ ∀ l, H l = none → Q (.ref l) (upd H l (.tup ys))) ∨ (SqT K H p ys ∧ Q (.ref p) H))
theorem call_tupleK (h : X.K = K) : CallR X (.type "tuple") (rTupleOf K) := h ▸ call_tuple_of
def rListOf (K : PySem.W.Frag) : List V → Hp → VK → Prop := fun xs H Q => ∃ p ys, xs = [.ref p] ∧ (SqL K H p ys ∨ SqT K H p ys) ∧ ∀ l, H l = none → Q (.ref l) (upd H l (.lst ys))
theorem call_listK (h : X.K = K) : CallR X (.type "list") (rListOf K) := h ▸ call_list_of
theorem pe_fldK {e : Expr} {ta : TE} {f : Str} {pos : Pos} (h : X.K = K) (he : PE X e ta) (hb : attributeBase e f X.env (eval e X.env) = eval e X.env) : PE X (.Attribute e f pos) (tFld K ta f) := h ▸ pe_fld he hb
theorem pi_listK {tg l : Expr} {tl : TE} (h : X.K = K) (hl : PE X l tl) : PI X tg l (iList K tl) := h ▸ pi_list hl
theorem pi_tupK {tg l : Expr} {tl : TE} (h : X.K = K) (hl : PE X l tl) : PI X tg l (iTup K tl) := h ▸ pi_tup hl
def rRepr (K : PySem.W.Frag) : List V → Hp → VK → Prop := fun xs H Q => ∃ (x : V) (d : PyData), xs = [x] ∧ Dp K H x d ∧ Tx 16777216 60 d ∧ Q (.str d.shown) H
theorem call_reprK {k : Nat} (h : X.K = K) (hg : X.A.guards = some []) (hr : Room k X.A) : CallR X (.builtin "repr") (rRepr K) := h ▸ call_repr hg hr

/-- sum of a tuple of ints -/
def rSumT (K : PySem.W.Frag) : List V → Hp → VK → Prop := fun vs H Q => ∃ (a : Addr) (ns : List Int), vs = [V.ref a] ∧ SqT K H a (ns.map V.int) ∧ Q (.int ns.sum) H
theorem cr_sumT (hc : X.calm = true) : CallR X (.builtin "sum") (rSumT X.K) := by
  intro pins s σ H xs us Q I r q
  obtain ⟨a, ns, rfl, hq, q⟩ := q
  have eu := Vals.ref1 r
  subst eu
  obtain ⟨its, rv, it, _⟩ := I.tuple hq
  have hi := rv.ints
  obtain ⟨ys, ey⟩ := hi.allInts.items
  have it2 : s.heap.IsTuple a its.toArray := by
    obtain ⟨o, h1, h2, n, h3⟩ := it
    exact ⟨o, h1, h2, n, h3⟩
  have en : PySem.numsOf its.toArray.toList = ns := hi.numsOf
  rw [ey] at it2 en
  rw [PySem.nums_intItems] at en
  refine PySem.W.ktm_sumG (I.ok.hd hc) it2 fun h' tk t' hk => ?_
  rw [PySem.preSum_eq, List.take_of_length_le (by simp), en]
  exact ⟨.int _, H, I.kept hk, ⟨_, rfl⟩, q⟩
theorem cr_sumTK {K : PySem.W.Frag} (h : X.K = K) (hc : X.calm = true) : CallR X (.builtin "sum") (rSumT K) := h ▸ cr_sumT hc
end
end My

namespace My
open PySem L2

/-! ### a log that runs: its files, the lines that are gone -/
structure RS where
  old : List (List Int × Int)
  cur : List Int
  beg : Int
  places : List Int
  gone : List (Int × Bool)
  fill : Int
  here : Int
  turns : Int
namespace RS
def init : RS := ⟨[], [], 0 - 1, [], [], 0, 0, 0⟩
def lost (pl : List Int) (here : Int) (f : List Int × Int) : List (Int × Bool) :=
  (f.1.filter fun n => decide (pl.getD n.toNat 0 = here)).map fun n => (n, decide (f.2 = here))
def turn (r : RS) : RS := { r with old := r.old ++ [(r.cur, r.beg)], cur := [], beg := r.here, fill := 0, turns := r.turns + 1 }
def drop (r : RS) (f : List Int × Int) (o : List (List Int × Int)) : RS := { r with old := o, gone := r.gone ++ lost r.places r.here f }
def trim (many : Nat) (r : RS) : RS := if many < r.old.length then (match r.old with | [] => r | f :: o => r.drop f o) else r
def add (l : Int) (r : RS) : RS := { r with cur := r.cur ++ [(r.places.length : Int)], places := r.places ++ [r.here], fill := r.fill + l }
def step (S : Int) (many : Nat) (r : RS) : Ev → RS
  | .look => { r with here := r.here + 1 }
  | .rot => trim many (turn r)
  | .line l => add l (if S < r.fill + l then trim many (turn r) else r)
def run (S : Int) (many : Nat) (es : List Ev) : RS := es.foldl (step S many) init
theorem run_snoc (S : Int) (many : Nat) (es : List Ev) (e : Ev) : run S many (es ++ [e]) = step S many (run S many es) e := by
  unfold run
  rw [List.foldl_append]
  rfl
def cnt (o : List (List Int × Int)) : Nat := (o.map fun f => f.1.length).sum
/-- what stays so -/
structure Ok (many i : Nat) (r : RS) : Prop where
  o1 : r.old.length ≤ many
  o2 : r.old.length ≤ i
  pl : r.places.length ≤ i
  tot : r.gone.length + cnt r.old + r.cur.length ≤ r.places.length
  fs : ∀ f ∈ r.old, ∀ n ∈ f.1, 0 ≤ n ∧ n < (r.places.length : Int)
  cs : ∀ n ∈ r.cur, 0 ≤ n ∧ n < (r.places.length : Int)
theorem Ok.init (many : Nat) : Ok many 0 RS.init := ⟨Nat.zero_le _, Nat.le_refl _, Nat.le_refl _, Nat.le_refl _, fun _ h => absurd h (by simp [RS.init]), fun _ h => absurd h (by simp [RS.init])⟩
theorem Ok.mono {many i j : Nat} {r : RS} (h : Ok many i r) (l : i ≤ j) : Ok many j r := ⟨h.o1, Nat.le_trans h.o2 l, Nat.le_trans h.pl l, h.tot, h.fs, h.cs⟩
/-- behind a turn, before old files go -/
structure Ok1 (many i : Nat) (r : RS) : Prop where
  o1 : r.old.length ≤ many + 1
  o2 : r.old.length ≤ i + 1
  pl : r.places.length ≤ i
  tot : r.gone.length + cnt r.old + r.cur.length ≤ r.places.length
  fs : ∀ f ∈ r.old, ∀ n ∈ f.1, 0 ≤ n ∧ n < (r.places.length : Int)
  cs : ∀ n ∈ r.cur, 0 ≤ n ∧ n < (r.places.length : Int)
theorem cnt_snoc (o : List (List Int × Int)) (f : List Int × Int) : cnt (o ++ [f]) = cnt o + f.1.length := by
  unfold cnt
  rw [List.map_append, List.sum_append]
  simp
theorem Ok.turn {many i : Nat} {r : RS} (h : Ok many i r) : Ok1 many i r.turn := by
  obtain ⟨o1, o2, pl, tot, fs, cs⟩ := h
  refine ⟨?_, ?_, pl, ?_, fun f hf => ?_, fun n hn => absurd hn (by simp [RS.turn])⟩
  · show (r.old ++ [(r.cur, r.beg)]).length ≤ _
    rw [List.length_append, List.length_singleton]; omega
  · show (r.old ++ [(r.cur, r.beg)]).length ≤ _
    rw [List.length_append, List.length_singleton]; omega
  · show r.gone.length + cnt (r.old ++ [(r.cur, r.beg)]) + 0 ≤ r.places.length
    rw [cnt_snoc]
    simp only
    omega
  · rcases List.mem_append.mp (show f ∈ r.old ++ [(r.cur, r.beg)] from hf) with hf | hf
    · exact fs f hf
    · rw [List.mem_singleton.mp hf]
      exact cs
theorem lost_len (pl : List Int) (here : Int) (f : List Int × Int) : (lost pl here f).length ≤ f.1.length := by
  unfold lost
  rw [List.length_map]
  exact List.length_filter_le _ _
theorem Ok1.drop {many i : Nat} {r : RS} {f : List Int × Int} {o : List (List Int × Int)} (h : Ok1 many i r) (e : r.old = f :: o) : Ok many (i + 1) (r.drop f o) := by
  obtain ⟨o1, o2, pl, tot, fs, cs⟩ := h
  rw [e] at o1 o2 fs tot
  rw [List.length_cons] at o1 o2
  refine ⟨by show o.length ≤ many; omega, by show o.length ≤ i + 1; omega, by show r.places.length ≤ i + 1; omega, ?_, fun g hg => fs g (List.mem_cons_of_mem _ hg), cs⟩
  show (r.gone ++ lost r.places r.here f).length + cnt o + r.cur.length ≤ r.places.length
  rw [List.length_append]
  have := lost_len r.places r.here f
  unfold cnt at tot ⊢
  rw [List.map_cons, List.sum_cons] at tot
  omega
theorem Ok1.keep {many i : Nat} {r : RS} (h : Ok1 many i r) (l : r.old.length ≤ many) : Ok many (i + 1) r := ⟨l, h.o2, by have := h.pl; omega, h.tot, h.fs, h.cs⟩
theorem Ok.add {many i : Nat} {r : RS} {l : Int} (h : r.places.length ≤ i) (g : Ok many (i + 1) r) : Ok many (i + 1) (r.add l) := by
  obtain ⟨o1, o2, pl, tot, fs, cs⟩ := g
  have e : ((r.add l).places.length : Int) = r.places.length + 1 := by
    show (((r.places ++ [r.here]).length : Nat) : Int) = _
    rw [List.length_append, List.length_singleton]
    omega
  refine ⟨o1, o2, ?_, ?_, fun f hf n hn => ?_, fun n hn => ?_⟩
  · show (r.places ++ [r.here]).length ≤ _
    rw [List.length_append, List.length_singleton]; omega
  · show r.gone.length + cnt r.old + (r.cur ++ [(r.places.length : Int)]).length ≤ (r.places ++ [r.here]).length
    rw [List.length_append, List.length_append, List.length_singleton, List.length_singleton]; omega
  · have := fs f hf n hn
    omega
  · rcases List.mem_append.mp (show n ∈ r.cur ++ [(r.places.length : Int)] from hn) with hn | hn
    · have := cs n hn
      omega
    · rw [List.mem_singleton.mp hn]
      omega
theorem trim_drop {many : Nat} {r : RS} {f : List Int × Int} {o : List (List Int × Int)} (e : r.old = f :: o) (l : many < r.old.length) : trim many r = r.drop f o := by
  unfold trim
  rw [if_pos l, e]
theorem trim_keep {many : Nat} {r : RS} (l : r.old.length ≤ many) : trim many r = r := by
  unfold trim
  rw [if_neg (by omega)]
theorem Ok1.trim {many i : Nat} {r : RS} (h : Ok1 many i r) : Ok many (i + 1) (trim many r) := by
  by_cases l : many < r.old.length
  · cases e : r.old with
    | nil => rw [e] at l; exact absurd l (by simp)
    | cons f o =>
      rw [trim_drop e l]
      exact h.drop e
  · rw [trim_keep (by omega)]
    exact h.keep (by omega)
theorem trim_places (many : Nat) (r : RS) : (trim many r).places = r.places := by
  unfold RS.trim
  split
  · split <;> rfl
  · rfl
theorem Ok.step {many i : Nat} {r : RS} {S : Int} (h : Ok many i r) (e : Ev) : Ok many (i + 1) (step S many r e) := by
  cases e with
  | look => exact ⟨h.o1, Nat.le_succ_of_le h.o2, Nat.le_succ_of_le h.pl, h.tot, h.fs, h.cs⟩
  | rot => exact h.turn.trim
  | line l =>
    show Ok many (i + 1) (RS.add l _)
    split
    · exact Ok.add (by rw [trim_places]; exact h.pl) h.turn.trim
    · exact Ok.add h.pl (h.mono (Nat.le_succ _))
theorem Ok.run (S : Int) (many : Nat) (es : List Ev) : Ok many es.length (run S many es) := by
  have : ∀ (es : List Ev) (r : RS) (i : Nat), Ok many i r → Ok many (i + es.length) (es.foldl (RS.step S many) r) := by
    intro es
    induction es with
    | nil => intro r i h; exact h
    | cons e es ih =>
      intro r i h
      have := ih _ _ (h.step (S := S) e)
      rw [List.length_cons, show i + (es.length + 1) = i + 1 + es.length by omega]
      exact this
  have h := this es RS.init 0 (Ok.init many)
  rwa [Nat.zero_add] at h
end RS

/-! ### tests that are known -/
theorem iteA {c A B : Prop} [Decidable c] (hc : c) (h : A) : if decide c = true then A else B := by
  rw [decide_eq_true hc]
  exact iteT h
theorem iteN {c A B : Prop} [Decidable c] (hc : ¬ c) (h : B) : if decide c = true then A else B := by
  rw [decide_eq_false hc]
  exact iteF h
theorem iteNA {c A B : Prop} [Decidable c] (hc : ¬ c) (h : A) : if (!decide c) = true then A else B := by
  rw [decide_eq_false hc]
  exact iteT h
/-- two ways that go on alike, from a state that is known -/
theorem join2 {G : Prop} (Hy : St → Hp → Prop) (P : St → Hp → Prop) (rest : ∀ σ H, Hy σ H → P σ H) (use : (∀ σ H, Hy σ H → P σ H) → G) : G := use rest
theorem pairs_app {α β : Type} {R : α → β → Prop} : ∀ {xs xs' : List α} {ys ys' : List β}, Paired R xs ys → Paired R xs' ys' → Paired R (xs ++ xs') (ys ++ ys')
  | _, _, _, _, .nil, q => q
  | _, _, _, _, .cons h t, q => .cons h (pairs_app t q)

theorem pairs_get {α β : Type} {R : α → β → Prop} : ∀ {xs : List α} {ys : List β} {j : Nat} {x : α}, Paired R xs ys → xs[j]? = some x → ∃ y, ys[j]? = some y ∧ R x y
  | _, _, 0, _, .cons h _, e => ⟨_, rfl, by cases e; exact h⟩
  | _, _, j + 1, _, .cons _ t, e => pairs_get (j := j) t e
theorem take_at {α : Type} {xs : List α} {j : Nat} {x : α} (h : xs[j]? = some x) : xs.take (j + 1) = xs.take j ++ [x] := by rw [List.take_add_one, h]; rfl

/-! ### how it lies in the heap -/
def FileAt (H : Hp) (N : List Addr) (v : V) (f : List Int × Int) : Prop := ∃ t c, v = .ref t ∧ H t = some (.tup [.ref c, .int f.2]) ∧ H c = some (.lst (f.1.map V.int)) ∧ c ∉ N
def GoneAt (H : Hp) (v : V) (p : Int × Bool) : Prop := ∃ t, v = .ref t ∧ H t = some (.tup [.int p.1, .bl p.2])
/-- all but some stands -/
def Buts (N : List Addr) (H H' : Hp) : Prop := ∀ a o, a ∉ N → H a = some o → H' a = some o
structure RunAt (H0 H : Hp) (F P G c : Addr) (ov gv : List V) (t : Addr) (r : RS) : Prop where
  hF : H F = some (.lst (ov ++ [.ref t]))
  ht : H t = some (.tup [.ref c, .int r.beg])
  hc : H c = some (.lst (r.cur.map V.int))
  hP : H P = some (.lst (r.places.map V.int))
  hG : H G = some (.lst gv)
  po : Paired (FileAt H [c, P, G, F]) ov r.old
  pg : Paired (GoneAt H) gv r.gone
  ne : c ≠ P ∧ c ≠ G ∧ c ≠ F ∧ P ≠ G ∧ P ≠ F ∧ G ≠ F
  fr : H0 F = none ∧ H0 P = none ∧ H0 G = none ∧ H0 c = none
  sm : Same H0 H
theorem FileAt.buts {H H' : Hp} {N M : List Addr} {v : V} {f : List Int × Int} (h : FileAt H N v f) (b : Buts N H H') (tn : ∀ a xs, H a = some (.tup xs) → a ∉ N) (hm : ∀ a, a ∉ N → H a ≠ none → a ∉ M) : FileAt H' M v f := by
  obtain ⟨t, c, rfl, h1, h2, h3⟩ := h
  exact ⟨t, c, rfl, b _ _ (tn _ _ h1) h1, b _ _ h3 h2, hm _ h3 (by rw [h2]; simp)⟩
theorem GoneAt.buts {H H' : Hp} {N : List Addr} {v : V} {p : Int × Bool} (h : GoneAt H v p) (b : Buts N H H') (tn : ∀ a xs, H a = some (.tup xs) → a ∉ N) : GoneAt H' v p := by
  obtain ⟨t, rfl, h1⟩ := h
  exact ⟨t, rfl, b _ _ (tn _ _ h1) h1⟩
theorem RunAt.tn {H0 H : Hp} {F P G c : Addr} {ov gv : List V} {t : Addr} {r : RS} (R : RunAt H0 H F P G c ov gv t r) : ∀ a xs, H a = some (.tup xs) → a ∉ [c, P, G, F] := by
  intro a xs h hm
  simp only [List.mem_cons, List.not_mem_nil, or_false] at hm
  rcases hm with rfl | rfl | rfl | rfl
  · exact tup_ne h R.hc rfl
  · exact tup_ne h R.hP rfl
  · exact tup_ne h R.hG rfl
  · exact tup_ne h R.hF rfl
theorem RunAt.nn {H0 H : Hp} {F P G c : Addr} {ov gv : List V} {t : Addr} {r : RS} (R : RunAt H0 H F P G c ov gv t r) : ∀ a, H a = none → a ∉ [c, P, G, F] := by
  intro a h hm
  simp only [List.mem_cons, List.not_mem_nil, or_false] at hm
  rcases hm with rfl | rfl | rfl | rfl
  · rw [R.hc] at h; cases h
  · rw [R.hP] at h; cases h
  · rw [R.hG] at h; cases h
  · rw [R.hF] at h; cases h
theorem RunAt.old {H0 H H' : Hp} {F P G c : Addr} {ov gv : List V} {t : Addr} {r : RS} {os : List (List Int × Int)} (R : RunAt H0 H F P G c ov gv t r) (b : Buts [c, P, G, F] H H') (p : Paired (FileAt H [c, P, G, F]) ov os) : Paired (FileAt H' [c, P, G, F]) ov os :=
  Paired.mapP p fun _ _ x => x.buts b R.tn fun _ n _ => n
theorem RunAt.gn {H0 H H' : Hp} {F P G c : Addr} {ov gv : List V} {t : Addr} {r : RS} (R : RunAt H0 H F P G c ov gv t r) (b : Buts [c, P, G, F] H H') : Paired (GoneAt H') gv r.gone :=
  Paired.mapP R.pg fun _ _ x => x.buts b R.tn
theorem RunAt.keep {H0 H H' : Hp} {F P G c : Addr} {ov gv : List V} {t : Addr} {r : RS} (R : RunAt H0 H F P G c ov gv t r) (b : Buts [c, P, G, F] H H') : Same H0 H' := fun a o h => b _ _ (fun hm => by
  obtain ⟨h1, h2, h3, h4⟩ := R.fr
  simp only [List.mem_cons, List.not_mem_nil, or_false] at hm
  rcases hm with rfl | rfl | rfl | rfl
  · rw [h4] at h; cases h
  · rw [h2] at h; cases h
  · rw [h3] at h; cases h
  · rw [h1] at h; cases h) (R.sm _ _ h)
theorem Buts.of {N : List Addr} {H H' : Hp} (s : Same H H') : Buts N H H' := fun a o _ h => s a o h
theorem RunAt.same {H0 H H' : Hp} {F P G c : Addr} {ov gv : List V} {t : Addr} {r : RS} (R : RunAt H0 H F P G c ov gv t r) (s : Same H H') : RunAt H0 H' F P G c ov gv t r :=
  ⟨s _ _ R.hF, s _ _ R.ht, s _ _ R.hc, s _ _ R.hP, s _ _ R.hG, R.old (Buts.of s) R.po, R.gn (Buts.of s), R.ne, R.fr, R.sm.trans s⟩
theorem none_of {H H' : Hp} {a : Addr} (s : Same H H') (h : H' a = none) : H a = none := by
  cases e : H a with
  | none => rfl
  | some o => rw [s _ _ e] at h; cases h
theorem RunAt.turn {H0 H : Hp} {F P G c : Addr} {ov gv : List V} {t : Addr} {r : RS} (R : RunAt H0 H F P G c ov gv t r) {c' t' L F' : Addr} {H1 H2 H3 H4 : Hp}
    (n1 : H c' = none) (e1 : H1 = upd H c' (.lst [])) (n2 : H1 t' = none) (e2 : H2 = upd H1 t' (.tup [.ref c', .int r.here])) (n3 : H2 L = none) (e3 : H3 = upd H2 L (.lst [.ref t'])) (n4 : H3 F' = none) (e4 : H4 = upd H3 F' (.lst (ov ++ [.ref t] ++ [.ref t']))) :
    RunAt H0 H4 F' P G c' (ov ++ [.ref t]) gv t' r.turn := by
  have s1 : Same H H1 := e1 ▸ same_new n1
  have s2 : Same H1 H2 := e2 ▸ same_new n2
  have s3 : Same H2 H3 := e3 ▸ same_new n3
  have s4 : Same H3 H4 := e4 ▸ same_new n4
  have s24 := (s2.trans s3).trans s4
  have s : Same H H4 := s1.trans s24
  have R4 := R.same s
  have hc1 : H1 c' = some (.lst []) := e1 ▸ upd_same
  have ht2 : H2 t' = some (.tup [.ref c', .int r.here]) := e2 ▸ upd_same
  have m4 : H F' = none := none_of (s1.trans (s2.trans s3)) n4
  have q1 := R.nn _ n1
  have q4 := R.nn _ m4
  have d1 : c' ≠ F' := ne_of_none ((s2.trans s3) _ _ hc1) n4
  have nF : ∀ v f, FileAt H [c, P, G, F] v f → FileAt H4 [c', P, G, F'] v f := fun v f x => x.buts (Buts.of s) R.tn fun a ha hn => by
    simp only [List.mem_cons, List.not_mem_nil, or_false, not_or] at ha ⊢
    exact ⟨fun e => hn (e ▸ n1), ha.2.1, ha.2.2.1, fun e => hn (e ▸ m4)⟩
  simp only [List.mem_cons, List.not_mem_nil, or_false, not_or] at q1 q4
  obtain ⟨f1, f2, f3, f4⟩ := R.fr
  have cn := R.ne
  refine ⟨e4 ▸ upd_same, (s3.trans s4) _ _ ht2, s24 _ _ hc1, R4.hP, R4.hG, Paired.snoc (Paired.mapP R.po nF) ⟨t, c, rfl, s _ _ R.ht, s _ _ R.hc, ?_⟩, R4.pg, ⟨q1.2.1, q1.2.2.1, d1, cn.2.2.2.1, fun e => q4.2.1 e.symm, fun e => q4.2.2.1 e.symm⟩, ⟨none_of R.sm m4, f2, f3, none_of R.sm n1⟩, R4.sm⟩
  simp only [List.mem_cons, List.not_mem_nil, or_false, not_or]
  exact ⟨fun e => q1.1 e.symm, cn.1, cn.2.1, fun e => q4.1 e.symm⟩
theorem RunAt.drop {H0 H H' : Hp} {F P G c : Addr} {v : V} {ov gv gn : List V} {t : Addr} {r : RS} {f : List Int × Int} {o : List (List Int × Int)} (R : RunAt H0 H F P G c (v :: ov) gv t r) (e : r.old = f :: o)
    (b : Buts [F, G] H H') (hF : H' F = some (.lst (ov ++ [.ref t]))) (hG : H' G = some (.lst (gv ++ gn))) (pn : Paired (GoneAt H') gn (RS.lost r.places r.here f)) : RunAt H0 H' F P G c ov (gv ++ gn) t (r.drop f o) := by
  have b4 : Buts [c, P, G, F] H H' := fun a u n h => b a u (fun z => n (by
    simp only [List.mem_cons, List.not_mem_nil, or_false] at z ⊢
    rcases z with z | z
    · exact .inr (.inr (.inr z))
    · exact .inr (.inr (.inl z)))) h
  have cn := R.ne
  have po := R.old b4 R.po
  rw [e] at po
  cases po with
  | cons _ po =>
    refine ⟨hF, b _ _ (fun z => R.tn _ _ R.ht ?_) R.ht, b _ _ ?_ R.hc, b _ _ ?_ R.hP, hG, po, pairs_app (R.gn b4) pn, R.ne, R.fr, R.keep b4⟩
    · simp only [List.mem_cons, List.not_mem_nil, or_false] at z ⊢
      rcases z with z | z
      · exact .inr (.inr (.inr z))
      · exact .inr (.inr (.inl z))
    · simp only [List.mem_cons, List.not_mem_nil, or_false, not_or]
      exact ⟨cn.2.2.1, cn.2.1⟩
    · simp only [List.mem_cons, List.not_mem_nil, or_false, not_or]
      exact ⟨cn.2.2.2.2.1, cn.2.2.2.1⟩
theorem RunAt.add {H0 H : Hp} {F P G c : Addr} {ov gv : List V} {t : Addr} {r : RS} (R : RunAt H0 H F P G c ov gv t r) (l : Int) {xs ys : List V} (ex : xs = (r.add l).cur.map V.int) (ey : ys = (r.add l).places.map V.int) :
    RunAt H0 (upd (upd H c (.lst xs)) P (.lst ys)) F P G c ov gv t (r.add l) := by
  have b : Buts [c, P, G, F] H (upd (upd H c (.lst xs)) P (.lst ys)) := fun a o n h => by
    simp only [List.mem_cons, List.not_mem_nil, or_false, not_or] at n
    exact kp_set n.2.1 (kp_set n.1 h)
  have cn := R.ne
  have tn := R.tn _ _ R.ht
  refine ⟨kp_set (fun e => cn.2.2.2.2.1 e.symm) (kp_set (fun e => cn.2.2.1 e.symm) R.hF), b _ _ tn R.ht, ?_, ?_, kp_set (fun e => cn.2.2.2.1 e.symm) (kp_set (fun e => cn.2.1 e.symm) R.hG), R.old b R.po, R.gn b, R.ne, R.fr, R.keep b⟩
  · rw [kp_set cn.1 upd_same, ex]
  · rw [upd_same, ey]
theorem seq0 (n : Nat) (h : 0 < n) : seqIndex? 0 n = some 0 := by
  unfold seqIndex?
  simp
  omega
theorem lost_snoc (pl : List Int) (h : Int) (xs : List Int) (n b : Int) : RS.lost pl h (xs ++ [n], b) = RS.lost pl h (xs, b) ++ (if pl.getD n.toNat 0 = h then [(n, decide (b = h))] else []) := by
  unfold RS.lost
  simp only [List.filter_append, List.map_append]
  congr 1
  by_cases e : pl.getD n.toNat 0 = h
  · rw [if_pos e, List.filter_cons_of_pos (by simpa using e)]
    rfl
  · rw [if_neg e, List.filter_cons_of_neg (by simpa using e)]
    rfl
theorem at_map {xs : List Int} {n : Int} (h0 : 0 ≤ n) (h1 : n < xs.length) : atI (xs.map V.int) n = some (.int (xs.getD n.toNat 0)) := by
  obtain ⟨k, rfl⟩ : ∃ k : Nat, n = k := ⟨n.toNat, by omega⟩
  have hk : k < xs.length := by omega
  refine atI_nat ?_
  rw [List.getElem?_map, List.getElem?_eq_getElem hk, Int.toNat_natCast, List.getD_eq_getElem?_getD, List.getElem?_eq_getElem hk]
  rfl
theorem dec_vi {a b : Int} : decide (V.int a = V.int b) = decide (a = b) := by
  by_cases e : a = b
  · rw [e, decide_eq_true rfl, decide_eq_true rfl]
  · rw [decide_eq_false e, decide_eq_false fun z => e (by cases z; rfl)]
def Ev.n : Ev → Int
  | .line l => l
  | _ => 0
theorem Ev.sc (e : Ev) (x : Str) : scal e.v (.str x) = true := by cases e <;> rfl

/-- what a run tells: the files, the lines that are missed, the rotations -/
def TupsAt (H : Hp) (v : V) (xs : List Int) : Prop := ∃ t, v = .ref t ∧ H t = some (.tup (xs.map V.int))
def sp_run : Sp := fun vs H Q _ => ∃ (bk t : Addr) (S : Int) (ls : List Int) (many : Int) (es : List Ev), vs = [.ref bk, .int many, .ref t] ∧ BookAt H bk S ls ∧ 0 ≤ many ∧ H t = some (.tup (es.map Ev.v)) ∧ es.length ≤ 1000 ∧
  ∀ (p fs ms hs : Addr) (fv : List V) (M N : List Int) (H' : Hp), H' p = some (.tup [.ref fs, .ref ms, .ref hs, .int (RS.run S many.toNat es).turns]) →
    H' fs = some (.tup fv) → Paired (TupsAt H') fv (((RS.run S many.toNat es).old.map Prod.fst) ++ [(RS.run S many.toNat es).cur]) →
    H' ms = some (.tup (M.map V.int)) → M.Perm ((RS.run S many.toNat es).gone.map Prod.fst) → M.Pairwise (· ≤ ·) →
    H' hs = some (.tup (N.map V.int)) → N.Perm (((RS.run S many.toNat es).gone.filter Prod.snd).map Prod.fst) → N.Pairwise (· ≤ ·) → Same H H' → Q (.ref p) H'
end My

namespace My
open PySem PySem.Spec PyProof.Rows L2

/-! ### tuple * int, any small int -/
theorem mul_self (l : Addr) (its : Array Value) (n : Nat) (dd : Option Addr) (sl : Array (Option Value)) (u : Tok) :
    Meets (Builtin.«tuple.__mul__» ⟨[.ref l, .int 1 u], []⟩) (fun _ R s => s.heap.get? l = some { cls := .type "tuple", dict := dd, data := .seq its n, slots := sl } ∧ R (.ok (.ret (Value.ref l))) s) :=
  .of_wp fun prog w A R s h => by
    obtain ⟨hp, g, d, tk, os⟩ := s
    obtain ⟨hl, h⟩ := h
    have f1 := AutoSeq1.idx_int
    wp_walk using wpAny_loadPart' hl
    repeat (first
      | (refine wpAny_ite_false (by decide) ?_; wp_walk using wpAny_loadPart' hl)
      | (refine wpAny_ite_true (by simp) ?_; wp_walk using wpAny_loadPart' hl))
    exact ⟨_, rfl, h⟩
theorem mul_none (l : Addr) (its : Array Value) (n : Nat) (dd : Option Addr) (sl : Array (Option Value)) (x : Int) (u : Tok) (h0 : x ≤ 0) (h1 : -(2 ^ 63) ≤ x) (hne : its.isEmpty = false) :
    Meets (Builtin.«tuple.__mul__» ⟨[.ref l, .int x u], []⟩) (fun _ R s => s.heap.get? l = some { cls := .type "tuple", dict := dd, data := .seq its n, slots := sl } ∧
      R (.ok (.ret (Value.ref s.heap.objs.size))) { s with heap := s.heap.push { cls := Value.type "tuple", data := Data.seq #[] }, toks := s.toks }) :=
  .of_wp fun prog w A R s h => by
    obtain ⟨hp, g, d, tk, os⟩ := s
    obtain ⟨hl, h⟩ := h
    have f1 := AutoSeq1.idx_int
    have c0 : (decide (x < -(2 ^ 63)) || decide (x ≥ 2 ^ 63)) = false := by
      rw [decide_eq_false (by omega), decide_eq_false (by omega)] <;> rfl
    have c1 : (its.isEmpty || x == 1) = false := by
      rw [hne, Bool.false_or]
      exact beq_eq_false_iff_ne.mpr (by omega)
    have c2 : (decide (x ≤ 0) || its.isEmpty) = true := by rw [decide_eq_true h0]; rfl
    wp_walk using wpAny_loadPart' hl
    repeat (first
      | (refine wpAny_ite_false (decide_eq_false (by rw [c0]; decide)) ?_; wp_walk using wpAny_loadPart' hl)
      | (refine wpAny_ite_false (decide_eq_false (by rw [c1]; decide)) ?_; wp_walk using wpAny_loadPart' hl)
      | (refine wpAny_ite_true (decide_eq_true c2) ?_; wp_walk using wpAny_loadPart' hl))
    exact ⟨_, rfl, h⟩

/-- t * k for any k up to a thousand: a tuple with the items so many times (itself, if once) -/
def rRepA : R2 := fun x y H Q => ∃ a k xs, x = .ref a ∧ y = .int k ∧ H a = some (.tup xs) ∧ xs ≠ [] ∧ -(2 ^ 63) ≤ k ∧ k ≤ 1000 ∧ xs.length ≤ 1000 ∧
  ∀ p H', Same H H' → H' p = some (.tup (List.replicate k.toNat xs).flatten) → Q (.ref p) H'
theorem op_repA {X : Cx} : OpR X (binaryOp .Mult) rRepA := by
  intro pins s σ H x y v u Q I rx ry h
  obtain ⟨a, k, xs, rfl, rfl, ht, ne, k0, k1, lx, q⟩ := h
  by_cases h2 : 2 ≤ k
  · exact op_repT pins s σ H _ _ v u Q I rx ry ⟨a, k, xs, rfl, rfl, SqT.of ht, ne, h2, k1, lx, fun p hp => q p _ (same_new hp) upd_same⟩
  cases rx
  obtain ⟨tk, rfl⟩ := ry
  obtain ⟨zs, rz, ⟨⟨c1, c2, c3, c4⟩, g, e1, m, e2⟩, g2⟩ := I.tuple (SqT.of ht)
  simp only at e1 e2
  subst e1 e2
  have zl : zs.length = xs.length := rz.length.symm
  have zn : zs ≠ [] := fun e => by
    rw [e] at zl
    exact ne (List.length_eq_zero_iff.mp zl.symm)
  have ze : zs.toArray.isEmpty = false := by
    cases zs with
    | nil => exact absurd rfl zn
    | cons z r => rfl
  by_cases h1 : k = 1
  · subst h1
    refine wpAny_binaryOp_repeat_ref (T := "tuple") (U := "int") (by decide) ⟨_, g, rfl⟩ (fun z => typeIs_int z 1 tk) noFill_tuple_mul F.fills_int_mul F.slot_int_rmul repeat_tuple F.slot_int_index.lookup ?_
    refine call_meets F.slot_int_rmul (typeIs_int s 1 tk) F.entry_int_rmul (F.args_int_rmul_2 _ _) (int_rmul_tuple 1 tk a zs.toArray m c2 c4) ⟨g, rfl, ⟨_, g, rfl⟩, ?_⟩
    refine call_meets F.slot_tuple_mul ⟨_, g, rfl⟩ F.entry_tuple_mul (F.args_tuple_mul_2 _ _) (mul_self a zs.toArray m c2 c4 tk) ⟨g, ?_⟩
    exact ⟨.ref a, H, I, rfl, q a H (Same.refl H) (by simpa using ht)⟩
  · have hk0 : k ≤ 0 := by omega
    refine wpAny_binaryOp_repeat_ref (T := "tuple") (U := "int") (by decide) ⟨_, g, rfl⟩ (fun z => typeIs_int z k tk) noFill_tuple_mul F.fills_int_mul F.slot_int_rmul repeat_tuple F.slot_int_index.lookup ?_
    refine call_meets F.slot_int_rmul (typeIs_int s k tk) F.entry_int_rmul (F.args_int_rmul_2 _ _) (int_rmul_tuple k tk a zs.toArray m c2 c4) ⟨g, rfl, ⟨_, g, rfl⟩, ?_⟩
    refine call_meets F.slot_tuple_mul ⟨_, g, rfl⟩ F.entry_tuple_mul (F.args_tuple_mul_2 _ _) (mul_none a zs.toArray m c2 c4 k tk hk0 k0 ze) ⟨g, ?_⟩
    have kz : k.toNat = 0 := by omega
    rw [kz] at q
    exact ⟨.ref s.heap.objs.size, _, I.laid (t' := s.toks) (o := .tup []) (fun _ _ e => Heap.get?_push_of_some _ e) (Nat.le_refl _) ⟨Nat.zero_le _, [], .nil, IsTup.new _ _⟩, rfl, q _ _ (same_new (I.hok.fresh (Nat.le_refl _))) upd_same⟩
end My

namespace My
open PySem L2

/-! ### histories: fills and rotations -/
def rotd (S fill : Int) : Ev → Bool
  | .line l => decide (S < fill + l)
  | .rot => true
  | .look => false
def fillB (S fill : Int) (e : Ev) : Int := (if rotd S fill e = true then 0 else fill) + e.n
def rot2 (S : Int) (s : Int × Int) (e : Ev) : Int × Int := (fillB S s.1 e, s.2 + if rotd S s.1 e = true then 1 else 0)
def rots (S : Int) (es : List Ev) : Int × Int := es.foldl (rot2 S) (0, 0)
theorem rots_snoc (S : Int) (es : List Ev) (e : Ev) : rots S (es ++ [e]) = rot2 S (rots S es) e := by
  unfold rots
  rw [List.foldl_append]
  rfl
theorem trim_fill (M : Nat) (r : RS) : (RS.trim M r).fill = r.fill ∧ (RS.trim M r).turns = r.turns := by
  unfold RS.trim
  split
  · split <;> exact ⟨rfl, rfl⟩
  · exact ⟨rfl, rfl⟩
theorem run_step (S : Int) (M : Nat) (r : RS) (e : Ev) : ((RS.step S M r e).fill, (RS.step S M r e).turns) = rot2 S (r.fill, r.turns) e := by
  cases e with
  | look => simp [RS.step, rot2, fillB, rotd, Ev.n]
  | rot =>
    have h := trim_fill M r.turn
    show ((RS.trim M r.turn).fill, (RS.trim M r.turn).turns) = _
    rw [h.1, h.2]
    simp [RS.turn, rot2, fillB, rotd, Ev.n]
  | line l =>
    have h := trim_fill M r.turn
    show ((RS.add l _).fill, (RS.add l _).turns) = _
    by_cases c : S < r.fill + l
    · rw [if_pos c]
      show ((RS.trim M r.turn).fill + l, (RS.trim M r.turn).turns) = _
      rw [h.1, h.2]
      simp [RS.turn, rot2, fillB, rotd, Ev.n, c]
    · rw [if_neg c]
      show (r.fill + l, r.turns) = _
      simp [rot2, fillB, rotd, Ev.n, c]
theorem run_rots (S : Int) (M : Nat) (es : List Ev) : ((RS.run S M es).fill, (RS.run S M es).turns) = rots S es := by
  have : ∀ (es : List Ev) (r : RS), ((es.foldl (RS.step S M) r).fill, (es.foldl (RS.step S M) r).turns) = es.foldl (rot2 S) (r.fill, r.turns) := by
    intro es
    induction es with
    | nil => intro r; rfl
    | cons e es ih =>
      intro r
      rw [List.foldl_cons, List.foldl_cons, ih, run_step]
  exact this es RS.init
theorem rot2_look (S : Int) (s : Int × Int) : rot2 S s .look = s := by
  simp [rot2, fillB, rotd, Ev.n]
def bare (es : List Ev) : List Ev := es.filter fun e => decide (e ≠ .look)
theorem rots_bare (S : Int) (es : List Ev) : rots S (bare es) = rots S es := by
  have : ∀ (es : List Ev) (s : Int × Int), (bare es).foldl (rot2 S) s = es.foldl (rot2 S) s := by
    intro es
    induction es with
    | nil => intro s; rfl
    | cons e es ih =>
      intro s
      unfold bare at ih ⊢
      by_cases h : e = .look
      · subst h
        rw [List.filter_cons_of_neg (by simp), ih, List.foldl_cons, rot2_look]
      · rw [List.filter_cons_of_pos (by simpa using h), List.foldl_cons, List.foldl_cons, ih]
  exact this es (0, 0)
theorem rots_rot (S : Int) (n : Nat) : (rots S (List.replicate n .rot)).2 = n := by
  induction n with
  | zero => rfl
  | succ n ih =>
    rw [List.replicate_succ', rots_snoc]
    show (rots S (List.replicate n .rot)).2 + 1 = _
    rw [ih]
    omega
theorem lines_at {S l : Int} (h1 : 1 ≤ l) (h2 : l ≤ S) (n : Nat) : ∃ c k : Nat, n + 1 = c * (S / l).toNat + k ∧ 1 ≤ k ∧ k ≤ (S / l).toNat ∧ rots S (List.replicate (n + 1) (.line l)) = ((k : Int) * l, (c : Int)) := by
  have q1 : 1 ≤ S / l := (Int.le_ediv_iff_mul_le (by omega)).mpr (by omega)
  induction n with
  | zero =>
    refine ⟨0, 1, by omega, by omega, by omega, ?_⟩
    have : ¬ S < 0 + l := by omega
    simp [rots, List.replicate_succ, rot2, fillB, rotd, Ev.n, h2]
  | succ n ih =>
    obtain ⟨c, k, e, k1, k2, er⟩ := ih
    rw [List.replicate_succ', rots_snoc, er]
    have key : (S < (k : Int) * l + l) ↔ k = (S / l).toNat := by
      have a := Int.le_ediv_iff_mul_le (c := l) (a := ((k : Int) + 1)) (b := S) (by omega)
      rw [Int.add_mul, Int.one_mul] at a
      constructor
      · intro h
        by_cases z : (k : Int) + 1 ≤ S / l
        · exact absurd (a.mp z) (by omega)
        · omega
      · intro h
        by_cases z : (k : Int) * l + l ≤ S
        · have := a.mpr z
          omega
        · omega
    by_cases hk : k = (S / l).toNat
    · refine ⟨c + 1, 1, ?_, by omega, by omega, ?_⟩
      · rw [Nat.succ_mul]; omega
      · simp [rot2, fillB, rotd, Ev.n, key.mpr hk]
    · refine ⟨c, k + 1, by omega, by omega, by omega, ?_⟩
      have : ¬ S < (k : Int) * l + l := fun z => hk (key.mp z)
      simp [rot2, fillB, rotd, Ev.n, this]
      rw [Int.add_mul]; omega
/-- of one line, so many times -/
theorem rots_lines {S l : Int} (h1 : 1 ≤ l) (h2 : l ≤ S) (n : Nat) : (rots S (List.replicate n (.line l))).2 = if (n : Int) > 0 then ((n : Int) - 1) / (S / l) else 0 := by
  cases n with
  | zero => rfl
  | succ n =>
    obtain ⟨c, k, e, k1, k2, er⟩ := lines_at h1 h2 n
    rw [er, if_pos (by omega)]
    have q1 : 1 ≤ S / l := (Int.le_ediv_iff_mul_le (by omega)).mpr (by omega)
    generalize hq : (S / l).toNat = q at *
    have eq : S / l = (q : Int) := by omega
    rw [eq]
    have e2 : (((n + 1 : Nat) : Int) - 1) = ((k : Int) - 1) + (c : Int) * q := by
      rw [e]
      push_cast
      omega
    rw [e2, Int.add_mul_ediv_right _ _ (by omega), Int.ediv_eq_zero_of_lt (by omega) (by omega)]
    simp
theorem rots_looked (S l : Int) (n : Nat) : rots S (List.replicate n [Ev.look, .line l]).flatten = rots S (List.replicate n (.line l)) := by
  rw [← rots_bare]
  congr 1
  induction n with
  | zero => rfl
  | succ n ih =>
    rw [List.replicate_succ, List.replicate_succ, List.flatten_cons]
    unfold bare at ih ⊢
    rw [List.filter_append, ih]
    simp
theorem rots_bound (S : Int) (es : List Ev) : 0 ≤ (rots S es).2 ∧ (rots S es).2 ≤ es.length := by
  have : ∀ (es : List Ev) (s : Int × Int), s.2 ≤ (es.foldl (rot2 S) s).2 ∧ (es.foldl (rot2 S) s).2 ≤ s.2 + es.length := by
    intro es
    induction es with
    | nil => intro s; exact ⟨Int.le_refl _, by simp⟩
    | cons e es ih =>
      intro s
      obtain ⟨h1, h2⟩ := ih (rot2 S s e)
      have h3 : s.2 ≤ (rot2 S s e).2 ∧ (rot2 S s e).2 ≤ s.2 + 1 := by
        unfold rot2
        dsimp only
        split <;> omega
      rw [List.foldl_cons, List.length_cons]
      omega
  have h := this es (0, 0)
  exact ⟨h.1, by have := h.2; unfold rots; omega⟩
theorem ev_at {es : List Ev} {i : Nat} {v : V} (hi : (es.map Ev.v)[i]? = some v) : ∃ e, es[i]? = some e ∧ v = e.v := by
  rw [List.getElem?_map] at hi
  cases h : es[i]? with
  | none => rw [h] at hi; cases hi
  | some e => rw [h] at hi; exact ⟨e, rfl, (Option.some.inj hi).symm⟩
theorem rep_ev (n : Nat) (es : List Ev) : (List.replicate n (es.map Ev.v)).flatten = ((List.replicate n es).flatten).map Ev.v := by
  rw [List.map_flatten, List.map_replicate]
theorem rep_one {α : Type} (n : Nat) (e : α) : (List.replicate n [e]).flatten = List.replicate n e := by
  induction n with
  | zero => rfl
  | succ n ih => rw [List.replicate_succ, List.flatten_cons, ih, List.replicate_succ]; rfl
theorem joinI {G : Prop} (Hy : Int → Prop) (P : Int → Prop) (rest : ∀ x, Hy x → P x) (use : (∀ x, Hy x → P x) → G) : G := use rest
def sp_isrot : Sp := fun vs H Q _ => ∃ (bk q : Addr) (S fill : Int) (e : Ev), vs = [.ref bk, .int fill, e.v] ∧ H bk = some (.tup [.int S, .ref q]) ∧ Q (.bl (rotd S fill e)) H
def sp_fillb : Sp := fun vs H Q _ => ∃ (bk q : Addr) (S fill : Int) (e : Ev), vs = [.ref bk, .int fill, e.v] ∧ H bk = some (.tup [.int S, .ref q]) ∧ Q (.int (fillB S fill e)) H
def sp_rots : Sp := fun vs H Q _ => ∃ (bk q t : Addr) (S : Int) (es : List Ev), vs = [.ref bk, .ref t] ∧ H bk = some (.tup [.int S, .ref q]) ∧ H t = some (.tup (es.map Ev.v)) ∧ ∀ H', Same H H' → Q (.int (rots S es).2) H'
end My

namespace My
open PySem L2

/-! ### the course of a history: for each line its stretch and file -/
structure CS where
  spots : List (Int × Int)
  borders : List Int
  fill : Int
  turned : Int
namespace CS
def init : CS := ⟨[], [0], 0, 0⟩
def step (S : Int) (c : CS) (e : Ev) : CS :=
  let t := c.turned + if rotd S c.fill e = true then 1 else 0
  { spots := (match e with | .line _ => c.spots ++ [((c.borders.length : Int) - 1, t)] | _ => c.spots), borders := (match e with | .look => c.borders ++ [t] | _ => c.borders), fill := fillB S c.fill e, turned := t }
def run (S : Int) (es : List Ev) : CS := es.foldl (step S) init
theorem run_snoc (S : Int) (es : List Ev) (e : Ev) : run S (es ++ [e]) = step S (run S es) e := by
  unfold run
  rw [List.foldl_append]
  rfl
/-- the borders and the end -/
def ends (c : CS) : List Int := c.borders ++ [c.turned]
def stretch (c : CS) (n : Nat) : Int := (c.spots.getD n (0, 0)).1
def file (c : CS) (n : Nat) : Int := (c.spots.getD n (0, 0)).2
def upto (c : CS) (st : Int) : Int := c.ends.getD (st.toNat + 1) 0
def since (c : CS) (st : Int) : Int := c.ends.getD st.toNat 0
/-- how often the log rotates behind line n in its stretch -/
def behind (c : CS) (n : Nat) (holds : Bool) : Int :=
  if holds = true ∧ c.file n = c.since (c.stretch n) then 0 else c.upto (c.stretch n) - c.file n
def numbers (c : CS) (p : Nat → Bool) : List Int := ((List.range c.spots.length).filter p).map Int.ofNat
def linesOf (c : CS) (j : Int) : List Int := c.numbers fun n => decide (c.file n = j)
def missed (c : CS) (kept : Int) (holds : Bool) : List Int := c.numbers fun n => decide (kept < c.behind n holds)
theorem mem_numbers {c : CS} {p : Nat → Bool} {x : Int} : x ∈ c.numbers p ↔ ∃ n : Nat, x = n ∧ n < c.spots.length ∧ p n = true := by
  unfold numbers
  rw [List.mem_map]
  constructor
  · rintro ⟨n, hn, rfl⟩
    rw [List.mem_filter, List.mem_range] at hn
    exact ⟨n, rfl, hn.1, hn.2⟩
  · rintro ⟨n, rfl, h1, h2⟩
    exact ⟨n, List.mem_filter.mpr ⟨List.mem_range.mpr h1, h2⟩, rfl⟩
theorem numbers_lt (c : CS) (p : Nat → Bool) : (c.numbers p).Pairwise (· < ·) := by
  unfold numbers
  rw [List.pairwise_map]
  exact (List.pairwise_lt_range.filter _).imp fun {a b} h => by
    show (a : Int) < b
    omega
theorem numbers_nd (c : CS) (p : Nat → Bool) : (c.numbers p).Nodup := (numbers_lt c p).imp fun {a b} h e => by omega
/-- what holds of a course -/
structure Ok (c : CS) : Prop where
  ne : 0 < c.borders.length
  bd : ∀ i, i < c.borders.length → 0 ≤ c.borders.getD i 0 ∧ c.borders.getD i 0 ≤ c.turned
  ln : ∀ n, n < c.spots.length → 0 ≤ c.stretch n ∧ c.stretch n < c.borders.length ∧ c.since (c.stretch n) ≤ c.file n ∧ c.file n ≤ c.upto (c.stretch n) ∧ c.file n ≤ c.turned
theorem Ok.init : Ok CS.init := ⟨by decide, fun i hi => by
  have : i = 0 := by simp [CS.init] at hi; exact hi
  subst this
  decide, fun n hn => absurd hn (by simp [CS.init])⟩
theorem ends_lt {c : CS} {i : Nat} (h : i < c.borders.length) : c.ends.getD i 0 = c.borders.getD i 0 := by
  unfold ends
  rw [List.getD_eq_getElem?_getD, List.getD_eq_getElem?_getD, List.getElem?_append_left h]
theorem ends_last (c : CS) : c.ends.getD c.borders.length 0 = c.turned := by
  unfold ends
  rw [List.getD_eq_getElem?_getD, List.getElem?_append_right (Nat.le_refl _)]
  simp
theorem getD_app {α : Type} {xs ys : List α} {i : Nat} {d : α} (h : i < xs.length) : (xs ++ ys).getD i d = xs.getD i d := by
  rw [List.getD_eq_getElem?_getD, List.getD_eq_getElem?_getD, List.getElem?_append_left h]
theorem getD_at {α : Type} {xs : List α} {x d : α} : (xs ++ [x]).getD xs.length d = x := by
  rw [List.getD_eq_getElem?_getD, List.getElem?_append_right (Nat.le_refl _)]
  simp
def turn (c : CS) : CS := { c with turned := c.turned + 1, fill := 0 }
def add (c : CS) (l : Int) : CS := { c with spots := c.spots ++ [((c.borders.length : Int) - 1, c.turned)], fill := c.fill + l }
def look (c : CS) : CS := { c with borders := c.borders ++ [c.turned] }
theorem step_look (S : Int) (c : CS) : step S c .look = c.look := by
  simp [step, look, rotd, fillB, Ev.n]
theorem step_rot (S : Int) (c : CS) : step S c .rot = c.turn := by
  simp [step, turn, rotd, fillB, Ev.n]
theorem step_line (S l : Int) (c : CS) : step S c (.line l) = (if S < c.fill + l then c.turn else c).add l := by
  by_cases h : S < c.fill + l
  · simp [step, turn, add, rotd, fillB, Ev.n, h]
  · simp [step, add, rotd, fillB, Ev.n, h]
theorem ends_look {c : CS} {i : Nat} (h : i ≤ c.borders.length) : c.look.ends.getD i 0 = c.ends.getD i 0 := by
  show ((c.borders ++ [c.turned]) ++ [c.turned]).getD i 0 = (c.borders ++ [c.turned]).getD i 0
  rw [getD_app]
  rw [List.length_append, List.length_singleton]
  omega
theorem ends_look2 {c : CS} : c.look.ends.getD (c.borders.length + 1) 0 = c.turned := by
  have := ends_last c.look
  rwa [show c.look.borders.length = c.borders.length + 1 from by show (c.borders ++ [c.turned]).length = _; rw [List.length_append]; rfl] at this
theorem ends_turn {c : CS} {i : Nat} (h : i < c.borders.length) : c.turn.ends.getD i 0 = c.ends.getD i 0 := by
  rw [ends_lt h, ends_lt (c := c.turn) h]
  rfl
theorem ends_turn2 {c : CS} : c.turn.ends.getD c.borders.length 0 = c.turned + 1 := ends_last c.turn
theorem Ok.look {c : CS} (h : Ok c) : Ok c.look := by
  have bl : c.look.borders.length = c.borders.length + 1 := by show (c.borders ++ [c.turned]).length = _; rw [List.length_append]; rfl
  refine ⟨by rw [bl]; omega, fun i hi => ?_, fun n hn => ?_⟩
  · rw [bl] at hi
    show 0 ≤ (c.borders ++ [c.turned]).getD i 0 ∧ (c.borders ++ [c.turned]).getD i 0 ≤ c.turned
    by_cases e : i < c.borders.length
    · rw [getD_app e]
      exact h.bd i e
    · have : i = c.borders.length := by omega
      subst this
      rw [getD_at]
      have := h.bd 0 h.ne
      omega
  · obtain ⟨a1, a2, a3, a4, a5⟩ := h.ln n hn
    refine ⟨a1, by rw [bl]; show c.stretch n < _; omega, ?_, ?_, a5⟩
    · show c.look.ends.getD (c.stretch n).toNat 0 ≤ c.file n
      rw [ends_look (by omega)]
      exact a3
    · show c.file n ≤ c.look.ends.getD ((c.stretch n).toNat + 1) 0
      rw [ends_look (by omega)]
      exact a4
theorem Ok.turn {c : CS} (h : Ok c) : Ok c.turn := by
  refine ⟨h.ne, fun i hi => ?_, fun n hn => ?_⟩
  · have := h.bd i hi
    show _ ∧ c.borders.getD i 0 ≤ c.turned + 1
    exact ⟨this.1, by omega⟩
  · obtain ⟨a1, a2, a3, a4, a5⟩ := h.ln n hn
    refine ⟨a1, a2, ?_, ?_, by show c.file n ≤ c.turned + 1; omega⟩
    · show c.turn.ends.getD (c.stretch n).toNat 0 ≤ c.file n
      rw [ends_turn (by omega)]
      exact a3
    · show c.file n ≤ c.turn.ends.getD ((c.stretch n).toNat + 1) 0
      by_cases e : (c.stretch n).toNat + 1 < c.borders.length
      · rw [ends_turn e]
        exact a4
      · have : (c.stretch n).toNat + 1 = c.borders.length := by omega
        rw [this, ends_turn2]
        omega
theorem spot_old {c : CS} {l : Int} {n : Nat} (h : n < c.spots.length) : (c.add l).stretch n = c.stretch n ∧ (c.add l).file n = c.file n := by
  unfold stretch file add
  dsimp only
  rw [getD_app h]
  exact ⟨rfl, rfl⟩
theorem spot_new {c : CS} {l : Int} : (c.add l).stretch c.spots.length = (c.borders.length : Int) - 1 ∧ (c.add l).file c.spots.length = c.turned := by
  unfold stretch file add
  dsimp only
  rw [getD_at]
  exact ⟨rfl, rfl⟩
theorem add_len {c : CS} {l : Int} : (c.add l).spots.length = c.spots.length + 1 := by
  show (c.spots ++ _).length = _
  rw [List.length_append]
  rfl
theorem Ok.add {c : CS} (h : Ok c) (l : Int) : Ok (c.add l) := by
  refine ⟨h.ne, h.bd, fun n hn => ?_⟩
  rw [add_len] at hn
  by_cases e : n < c.spots.length
  · rw [(spot_old e).1, (spot_old e).2]
    exact h.ln n e
  · have : n = c.spots.length := by omega
    subst this
    rw [spot_new.1, spot_new.2]
    have hn := h.ne
    refine ⟨by omega, by show _ < ((c.borders.length : Nat) : Int); omega, ?_, ?_, Int.le_refl _⟩
    · show c.ends.getD ((c.borders.length : Int) - 1).toNat 0 ≤ c.turned
      rw [ends_lt (by omega)]
      exact (h.bd _ (by omega)).2
    · show c.turned ≤ c.ends.getD (((c.borders.length : Int) - 1).toNat + 1) 0
      rw [show ((c.borders.length : Int) - 1).toNat + 1 = c.borders.length by omega, ends_last]
      exact Int.le_refl _
theorem Ok.step {c : CS} (h : Ok c) (S : Int) (e : Ev) : Ok (step S c e) := by
  cases e with
  | look => rw [step_look]; exact h.look
  | rot => rw [step_rot]; exact h.turn
  | line l =>
    rw [step_line]
    split
    · exact h.turn.add l
    · exact h.add l
theorem Ok.run (S : Int) (es : List Ev) : Ok (run S es) := by
  have : ∀ (es : List Ev) (c : CS), Ok c → Ok (es.foldl (CS.step S) c) := by
    intro es
    induction es with
    | nil => intro c h; exact h
    | cons e es ih => intro c h; exact ih _ (h.step S e)
  exact this es _ Ok.init
theorem lines_add {c : CS} {l j : Int} : (c.add l).linesOf j = c.linesOf j ++ (if c.turned = j then [(c.spots.length : Int)] else []) := by
  unfold linesOf numbers
  rw [add_len, List.range_succ, List.filter_append, List.map_append]
  congr 1
  · congr 1
    apply List.filter_congr
    intro n hn
    rw [(spot_old (List.mem_range.mp hn)).2]
  · by_cases e : c.turned = j
    · rw [if_pos e, List.filter_cons_of_pos (by rw [spot_new.2]; exact decide_eq_true e)]
      rfl
    · rw [if_neg e, List.filter_cons_of_neg (by rw [spot_new.2]; simpa using e)]
      rfl
/-- where a file begins: in which stretch -/
def Beg (c : CS) (j β : Int) : Prop := β < c.borders.length ∧ ∀ st : Nat, st < c.borders.length → (β = st ↔ c.ends.getD st 0 < j ∧ j ≤ c.ends.getD (st + 1) 0)
theorem Beg.look {c : CS} {j β : Int} (h : Beg c j β) (hj : j ≤ c.turned) : Beg c.look j β := by
  have bl : c.look.borders.length = c.borders.length + 1 := by show (c.borders ++ [c.turned]).length = _; rw [List.length_append]; rfl
  refine ⟨by rw [bl]; have := h.1; omega, fun st hst => ?_⟩
  rw [bl] at hst
  by_cases e : st < c.borders.length
  · rw [ends_look (by omega), ends_look (by omega)]
    exact h.2 st e
  · have : st = c.borders.length := by omega
    subst this
    rw [ends_look (Nat.le_refl _), ends_last]
    have := h.1
    omega
theorem Beg.turn {c : CS} {j β : Int} (h : Beg c j β) (hj : j ≤ c.turned) : Beg c.turn j β := by
  refine ⟨h.1, fun st hst => ?_⟩
  have hst : st < c.borders.length := hst
  rw [ends_turn hst, h.2 st hst]
  by_cases e : st + 1 < c.borders.length
  · rw [ends_turn e]
  · have : st + 1 = c.borders.length := by omega
    rw [this, ends_turn2, ends_last]
    omega
theorem Beg.new {c : CS} (k : Ok c) : Beg c.turn (c.turned + 1) ((c.borders.length : Int) - 1) := by
  refine ⟨by show _ < ((c.borders.length : Nat) : Int); omega, fun st hst => ?_⟩
  have hst : st < c.borders.length := hst
  have h1 := (k.bd st hst).2
  rw [ends_turn hst, ends_lt hst]
  by_cases e : st + 1 < c.borders.length
  · rw [ends_turn e, ends_lt e]
    have := (k.bd _ e).2
    omega
  · have : st + 1 = c.borders.length := by omega
    rw [this, ends_turn2]
    omega
/-- the law's run and the course say the same -/
structure J (M : Nat) (r : RS) (c : CS) : Prop where
  fl : r.fill = c.fill
  tu : r.turns = c.turned
  he : r.here = (c.borders.length : Int) - 1
  pl : r.places = c.spots.map Prod.fst
  tn : 0 ≤ c.turned
  ol : r.old.length = min c.turned.toNat M
  cu : r.cur = c.linesOf c.turned
  cb : Beg c c.turned r.beg
  fs : ∀ (i : Nat) (f : List Int × Int), r.old[i]? = some f → f.1 = c.linesOf (c.turned - r.old.length + i) ∧ Beg c (c.turned - r.old.length + i) f.2
  gm : ∀ n b, (n, b) ∈ r.gone ↔ ∃ k : Nat, n = k ∧ k < c.spots.length ∧ (M : Int) < c.upto (c.stretch k) - c.file k ∧ b = decide (c.file k ≠ c.since (c.stretch k))
  gn : (r.gone.map Prod.fst).Nodup
theorem J.init (M : Nat) : J M RS.init CS.init := by
  refine ⟨rfl, rfl, rfl, rfl, Int.le_refl _, by simp [RS.init, CS.init], rfl, ⟨by decide, fun st hst => ?_⟩, fun i f h => by simp [RS.init] at h, fun n b => ?_, List.nodup_nil⟩
  · have : st = 0 := by simp [CS.init] at hst; exact hst
    subst this
    decide
  · constructor
    · intro h
      simp [RS.init] at h
    · rintro ⟨k, _, h, _⟩
      simp [CS.init] at h
theorem J.look {M : Nat} {r : RS} {c : CS} (h : J M r c) (k : Ok c) : J M { r with here := r.here + 1 } c.look := by
  have bl : c.look.borders.length = c.borders.length + 1 := by show (c.borders ++ [c.turned]).length = _; rw [List.length_append]; rfl
  refine ⟨h.fl, h.tu, by rw [bl]; show r.here + 1 = _; rw [h.he]; omega, h.pl, h.tn, h.ol, h.cu, h.cb.look (Int.le_refl _), fun i f hf => ?_, fun n b => ?_, h.gn⟩
  · have hi := (List.getElem?_eq_some_iff.mp hf).1
    obtain ⟨h1, h2⟩ := h.fs i f hf
    exact ⟨h1, h2.look (by show c.turned - ((r.old.length : Nat) : Int) + i ≤ c.turned; have hi : i < r.old.length := hi; omega)⟩
  · rw [h.gm n b]
    constructor
    · rintro ⟨q, e, hq, h1, h2⟩
      obtain ⟨a1, a2, _⟩ := k.ln q hq
      refine ⟨q, e, hq, ?_, ?_⟩
      · show (M : Int) < c.look.ends.getD ((c.stretch q).toNat + 1) 0 - c.file q
        rw [ends_look (by omega)]
        exact h1
      · rw [h2]
        show decide (c.file q ≠ c.ends.getD (c.stretch q).toNat 0) = decide (c.file q ≠ c.look.ends.getD (c.stretch q).toNat 0)
        rw [ends_look (by omega)]
    · rintro ⟨q, e, hq, h1, h2⟩
      obtain ⟨a1, a2, _⟩ := k.ln q hq
      refine ⟨q, e, hq, ?_, ?_⟩
      · have h1 : (M : Int) < c.look.ends.getD ((c.stretch q).toNat + 1) 0 - c.file q := h1
        rw [ends_look (by omega)] at h1
        exact h1
      · rw [h2]
        show decide (c.file q ≠ c.look.ends.getD (c.stretch q).toNat 0) = decide (c.file q ≠ c.ends.getD (c.stretch q).toNat 0)
        rw [ends_look (by omega)]
theorem J.add {M : Nat} {r : RS} {c : CS} (h : J M r c) (k : Ok c) (l : Int) : J M (r.add l) (c.add l) := by
  have sl : (r.places.length : Int) = c.spots.length := by rw [h.pl, List.length_map]
  refine ⟨by show r.fill + l = c.fill + l; rw [h.fl], h.tu, h.he, ?_, h.tn, h.ol, ?_, h.cb, fun i f hf => ?_, fun n b => ?_, h.gn⟩
  · show r.places ++ [r.here] = (c.spots ++ [((c.borders.length : Int) - 1, c.turned)]).map Prod.fst
    rw [List.map_append, h.pl, h.he]
    rfl
  · show r.cur ++ [(r.places.length : Int)] = (c.add l).linesOf c.turned
    rw [lines_add, if_pos rfl, h.cu, sl]
  · have hi : i < r.old.length := (List.getElem?_eq_some_iff.mp hf).1
    obtain ⟨h1, h2⟩ := h.fs i f hf
    refine ⟨?_, h2⟩
    show f.1 = (c.add l).linesOf (c.turned - r.old.length + i)
    rw [lines_add, if_neg (by omega), List.append_nil]
    exact h1
  · refine (h.gm n b).trans ?_
    constructor
    · rintro ⟨q, e, hq, h1, h2⟩
      refine ⟨q, e, by rw [add_len]; omega, ?_, ?_⟩
      · rw [(spot_old hq).1, (spot_old hq).2]
        exact h1
      · rw [(spot_old hq).1, (spot_old hq).2]
        exact h2
    · rintro ⟨q, e, hq, h1, h2⟩
      rw [add_len] at hq
      by_cases hl : q < c.spots.length
      · rw [(spot_old hl).1, (spot_old hl).2] at h1 h2
        exact ⟨q, e, hl, h1, h2⟩
      · exfalso
        have : q = c.spots.length := by omega
        subst this
        rw [spot_new.1, spot_new.2] at h1
        have h1 : (M : Int) < c.ends.getD (((c.borders.length : Int) - 1).toNat + 1) 0 - c.turned := h1
        have := k.ne
        rw [show ((c.borders.length : Int) - 1).toNat + 1 = c.borders.length by omega, ends_last] at h1
        omega
theorem mem_lost {pl : List Int} {h : Int} {f : List Int × Int} {n : Int} {b : Bool} : (n, b) ∈ RS.lost pl h f ↔ n ∈ f.1 ∧ pl.getD n.toNat 0 = h ∧ b = decide (f.2 = h) := by
  unfold RS.lost
  rw [List.mem_map]
  constructor
  · rintro ⟨m, hm, e⟩
    rw [List.mem_filter] at hm
    cases e
    exact ⟨hm.1, of_decide_eq_true hm.2, rfl⟩
  · rintro ⟨h1, h2, rfl⟩
    exact ⟨n, List.mem_filter.mpr ⟨h1, decide_eq_true h2⟩, rfl⟩
theorem mem_lines {c : CS} {j x : Int} : x ∈ c.linesOf j ↔ ∃ n : Nat, x = n ∧ n < c.spots.length ∧ c.file n = j := by
  unfold linesOf
  rw [mem_numbers]
  constructor
  · rintro ⟨n, h1, h2, h3⟩
    exact ⟨n, h1, h2, of_decide_eq_true h3⟩
  · rintro ⟨n, h1, h2, h3⟩
    exact ⟨n, h1, h2, decide_eq_true h3⟩
theorem place_at {c : CS} {k : Nat} : (c.spots.map Prod.fst).getD k 0 = c.stretch k := by
  unfold stretch
  rw [List.getD_eq_getElem?_getD, List.getD_eq_getElem?_getD, List.getElem?_map]
  cases c.spots[k]? <;> rfl
/-- behind one more rotation: what is counted of line k -/
theorem turn_upto {c : CS} (k : Ok c) {q : Nat} (hq : q < c.spots.length) : c.turn.upto (c.stretch q) = (if c.stretch q = (c.borders.length : Int) - 1 then c.turned + 1 else c.upto (c.stretch q)) := by
  obtain ⟨a1, a2, _⟩ := k.ln q hq
  unfold upto
  by_cases e : c.stretch q = (c.borders.length : Int) - 1
  · rw [if_pos e, show (c.stretch q).toNat + 1 = c.borders.length by omega, ends_turn2]
  · rw [if_neg e, ends_turn (by omega)]
theorem turn_since {c : CS} (k : Ok c) {q : Nat} (hq : q < c.spots.length) : c.turn.since (c.stretch q) = c.since (c.stretch q) := by
  obtain ⟨a1, a2, _⟩ := k.ln q hq
  unfold since
  rw [ends_turn (by omega)]
theorem upto_here {c : CS} (k : Ok c) : c.upto ((c.borders.length : Int) - 1) = c.turned := by
  have := k.ne
  unfold upto
  rw [show ((c.borders.length : Int) - 1).toNat + 1 = c.borders.length by omega, ends_last]
theorem J.turn {M : Nat} {r : RS} {c : CS} (h : J M r c) (k : Ok c) : J M (RS.trim M r.turn) c.turn := by
  have ol := h.ol
  have tn := h.tn
  have fs : ∀ (i : Nat) (f : List Int × Int), (r.old ++ [(r.cur, r.beg)])[i]? = some f → f.1 = c.linesOf (c.turned - r.old.length + i) ∧ Beg c (c.turned - r.old.length + i) f.2 := by
    intro i f hf
    by_cases hi : i < r.old.length
    · rw [List.getElem?_append_left hi] at hf
      exact h.fs i f hf
    · have hl := (List.getElem?_eq_some_iff.mp hf).1
      rw [List.length_append, List.length_singleton] at hl
      have : i = r.old.length := by omega
      subst this
      rw [List.getElem?_append_right (Nat.le_refl _)] at hf
      simp at hf
      subst hf
      rw [show c.turned - (r.old.length : Int) + (r.old.length : Int) = c.turned by omega]
      exact ⟨h.cu, h.cb⟩
  have tl : r.turn.old.length = r.old.length + 1 := by show (r.old ++ [(r.cur, r.beg)]).length = _; rw [List.length_append]; rfl
  have hne := k.ne
  have none_new : c.turn.linesOf (c.turned + 1) = [] := by
    rw [List.eq_nil_iff_forall_not_mem]
    intro x hx
    obtain ⟨q, _, hq, e⟩ := mem_lines.mp hx
    have := (k.ln q hq).2.2.2.2
    have e : c.file q = c.turned + 1 := e
    omega
  by_cases lo : M < r.turn.old.length
  · -- the oldest file goes
    have eo : r.old.length = M := by omega
    have eM : (M : Int) ≤ c.turned := by omega
    cases eq : r.turn.old with
    | nil => rw [eq] at lo; exact absurd lo (by simp)
    | cons f o =>
      rw [RS.trim_drop eq lo]
      have olen : o.length = M := by
        rw [eq, List.length_cons] at tl
        omega
      obtain ⟨f1, f2⟩ := fs 0 f (by show r.turn.old[0]? = _; rw [eq]; rfl)
      rw [eo, show c.turned - (M : Int) + ((0 : Nat) : Int) = c.turned - M by omega] at f1 f2
      have fb := f2.2 (c.borders.length - 1) (by omega)
      rw [show c.borders.length - 1 + 1 = c.borders.length by omega, ends_last] at fb
      have hhere : ((c.borders.length - 1 : Nat) : Int) = (c.borders.length : Int) - 1 := by omega
      rw [hhere] at fb
      have lm : ∀ n b, (n, b) ∈ RS.lost r.places r.here f ↔ ∃ q : Nat, n = q ∧ q < c.spots.length ∧ c.file q = c.turned - M ∧ c.stretch q = (c.borders.length : Int) - 1 ∧ b = decide (c.file q ≠ c.since (c.stretch q)) := by
        intro n b
        rw [mem_lost, f1, mem_lines, h.pl, h.he]
        constructor
        · rintro ⟨⟨q, rfl, hq, e⟩, e2, rfl⟩
          rw [Int.toNat_natCast, place_at] at e2
          refine ⟨q, rfl, hq, e, e2, ?_⟩
          obtain ⟨_, _, a3, _, _⟩ := k.ln q hq
          rw [e2] at a3 ⊢
          have es : c.since ((c.borders.length : Int) - 1) = c.ends.getD (c.borders.length - 1) 0 := by
            unfold since
            rw [show ((c.borders.length : Int) - 1).toNat = c.borders.length - 1 by omega]
          rw [es] at a3 ⊢
          rw [e] at a3 ⊢
          rw [decide_eq_decide, fb]
          constructor
          · rintro ⟨z, _⟩ y
            omega
          · intro z
            exact ⟨by omega, by omega⟩
        · rintro ⟨q, rfl, hq, e, e2, rfl⟩
          refine ⟨⟨q, rfl, hq, e⟩, by rw [Int.toNat_natCast, place_at]; exact e2, ?_⟩
          obtain ⟨_, _, a3, _, _⟩ := k.ln q hq
          rw [e2] at a3 ⊢
          have es : c.since ((c.borders.length : Int) - 1) = c.ends.getD (c.borders.length - 1) 0 := by
            unfold since
            rw [show ((c.borders.length : Int) - 1).toNat = c.borders.length - 1 by omega]
          rw [es] at a3 ⊢
          rw [e] at a3 ⊢
          rw [decide_eq_decide, fb]
          constructor
          · intro z
            exact ⟨by omega, by omega⟩
          · rintro ⟨z, _⟩ y
            omega
      refine ⟨rfl, by show r.turns + 1 = c.turned + 1; rw [h.tu], h.he, h.pl, by show 0 ≤ c.turned + 1; omega, ?_, ?_, ?_, fun i g hg => ?_, fun n b => ?_, ?_⟩
      · show o.length = min (c.turned + 1).toNat M
        omega
      · show ([] : List Int) = c.turn.linesOf (c.turned + 1)
        rw [none_new]
      · show Beg c.turn (c.turned + 1) r.here
        rw [h.he]
        exact Beg.new k
      · have hg : o[i]? = some g := hg
        have hi := (List.getElem?_eq_some_iff.mp hg).1
        obtain ⟨g1, g2⟩ := fs (i + 1) g (by show r.turn.old[i + 1]? = _; rw [eq]; exact hg)
        have ej : c.turned - (r.old.length : Int) + ((i + 1 : Nat) : Int) = c.turned + 1 - (o.length : Int) + i := by omega
        rw [ej] at g1 g2
        exact ⟨g1, g2.turn (by omega)⟩
      · show (n, b) ∈ r.gone ++ RS.lost r.places r.here f ↔ _
        rw [List.mem_append, h.gm n b, lm n b]
        constructor
        · rintro (⟨q, rfl, hq, h1, h2⟩ | ⟨q, rfl, hq, h1, h2, h3⟩)
          · refine ⟨q, rfl, hq, ?_, by rw [h2]; show _ = decide (c.file q ≠ c.turn.since (c.stretch q)); rw [turn_since k hq]⟩
            show (M : Int) < c.turn.upto (c.stretch q) - c.file q
            rw [turn_upto k hq]
            split
            · rename_i z
              rw [z, upto_here k] at h1
              omega
            · exact h1
          · refine ⟨q, rfl, hq, ?_, by rw [h3]; show _ = decide (c.file q ≠ c.turn.since (c.stretch q)); rw [turn_since k hq]⟩
            show (M : Int) < c.turn.upto (c.stretch q) - c.file q
            rw [turn_upto k hq, if_pos h2]
            omega
        · rintro ⟨q, rfl, hq, h1, h2⟩
          have hq : q < c.spots.length := hq
          have h1 : (M : Int) < c.turn.upto (c.stretch q) - c.file q := h1
          have h2 : b = decide (c.file q ≠ c.turn.since (c.stretch q)) := h2
          rw [turn_since k hq] at h2
          rw [turn_upto k hq] at h1
          by_cases z : c.stretch q = (c.borders.length : Int) - 1
          · rw [if_pos z] at h1
            by_cases y : c.file q = c.turned - M
            · exact .inr ⟨q, rfl, hq, y, z, h2⟩
            · refine .inl ⟨q, rfl, hq, ?_, h2⟩
              rw [z, upto_here k]
              omega
          · rw [if_neg z] at h1
            exact .inl ⟨q, rfl, hq, h1, h2⟩
      · show ((r.gone ++ RS.lost r.places r.here f).map Prod.fst).Nodup
        rw [List.map_append, List.nodup_append]
        refine ⟨h.gn, ?_, ?_⟩
        · unfold RS.lost
          rw [List.map_map]
          have : (f.1.filter fun n => decide (r.places.getD n.toNat 0 = r.here)).Nodup := by
            rw [f1]
            exact (numbers_nd c _).filter _
          rw [show (Prod.fst ∘ fun n : Int => (n, decide (f.2 = r.here))) = id from rfl, List.map_id]
          exact this
        · intro x hx y hy e
          obtain ⟨⟨n, b⟩, hn, rfl⟩ := List.mem_map.mp hx
          obtain ⟨⟨n', b'⟩, hn', rfl⟩ := List.mem_map.mp hy
          obtain ⟨q, e1, hq, h1, _⟩ := (h.gm n b).mp hn
          obtain ⟨q', e2, hq', h1', h2', _⟩ := (lm n' b').mp hn'
          have e3 : n = n' := e
          have : q = q' := by omega
          subst this
          rw [h2', upto_here k] at h1
          omega
  · -- all stay
    have lo : r.turn.old.length ≤ M := by omega
    rw [RS.trim_keep lo]
    have eT : (r.old.length : Int) = c.turned := by omega
    refine ⟨rfl, by show r.turns + 1 = c.turned + 1; rw [h.tu], h.he, h.pl, by show 0 ≤ c.turned + 1; omega, ?_, ?_, ?_, fun i g hg => ?_, fun n b => ?_, h.gn⟩
    · show r.turn.old.length = min (c.turned + 1).toNat M
      omega
    · show ([] : List Int) = c.turn.linesOf (c.turned + 1)
      rw [none_new]
    · show Beg c.turn (c.turned + 1) r.here
      rw [h.he]
      exact Beg.new k
    · obtain ⟨g1, g2⟩ := fs i g hg
      have hi : i < r.turn.old.length := (List.getElem?_eq_some_iff.mp hg).1
      have ej : c.turned - (r.old.length : Int) + (i : Int) = c.turned + 1 - (r.turn.old.length : Int) + i := by omega
      rw [ej] at g1 g2
      exact ⟨g1, g2.turn (by omega)⟩
    · refine (h.gm n b).trans ?_
      constructor
      · rintro ⟨q, rfl, hq, h1, h2⟩
        refine ⟨q, rfl, hq, ?_, by rw [h2]; show _ = decide (c.file q ≠ c.turn.since (c.stretch q)); rw [turn_since k hq]⟩
        show (M : Int) < c.turn.upto (c.stretch q) - c.file q
        rw [turn_upto k hq]
        split
        · rename_i z
          rw [z, upto_here k] at h1
          omega
        · exact h1
      · rintro ⟨q, rfl, hq, h1, h2⟩
        have hq : q < c.spots.length := hq
        have h1 : (M : Int) < c.turn.upto (c.stretch q) - c.file q := h1
        have h2 : b = decide (c.file q ≠ c.turn.since (c.stretch q)) := h2
        rw [turn_since k hq] at h2
        rw [turn_upto k hq] at h1
        obtain ⟨a1, a2, a3, _⟩ := k.ln q hq
        have s0 : 0 ≤ c.since (c.stretch q) := by
          unfold since
          rw [ends_lt (by omega)]
          exact (k.bd _ (by omega)).1
        by_cases z : c.stretch q = (c.borders.length : Int) - 1
        · rw [if_pos z] at h1
          omega
        · rw [if_neg z] at h1
          exact ⟨q, rfl, hq, h1, h2⟩
theorem J.step {M : Nat} {r : RS} {c : CS} (h : J M r c) (k : Ok c) (S : Int) (e : Ev) : J M (RS.step S M r e) (CS.step S c e) := by
  cases e with
  | look => rw [step_look]; exact h.look k
  | rot => rw [step_rot]; exact h.turn k
  | line l =>
    rw [step_line]
    show J M (RS.add l _) _
    rw [h.fl]
    by_cases z : S < c.fill + l
    · rw [if_pos z, if_pos z]
      exact (h.turn k).add k.turn l
    · rw [if_neg z, if_neg z]
      exact h.add k l
theorem J.run (S : Int) (M : Nat) (es : List Ev) : J M (RS.run S M es) (CS.run S es) := by
  have : ∀ (es : List Ev) (r : RS) (c : CS), J M r c → Ok c → J M (es.foldl (RS.step S M) r) (es.foldl (CS.step S) c) := by
    intro es
    induction es with
    | nil => intro r c h _; exact h
    | cons e es ih => intro r c h k; exact ih _ _ (h.step k S e) (k.step S e)
  exact this es _ _ (J.init M) Ok.init
theorem sorted_eq {xs ys zs : List Int} (p : xs.Perm ys) (s : xs.Pairwise (· ≤ ·)) (nd : ys.Nodup) (m : ∀ x, x ∈ ys ↔ x ∈ zs) (z : zs.Pairwise (· < ·)) : xs = zs := by
  have p2 : ys.Perm zs := (List.perm_ext_iff_of_nodup nd (z.imp fun {a b} h e => by omega)).mpr m
  exact (p.trans p2).eq_of_pairwise (le := (· ≤ ·)) (fun a b _ _ h1 h2 => by omega) s (z.imp fun {a b} h => by omega)
theorem gone_missed {S : Int} {M : Nat} {es : List Ev} {xs : List Int} (p : xs.Perm ((RS.run S M es).gone.map Prod.fst)) (s : xs.Pairwise (· ≤ ·)) : xs = (CS.run S es).missed M false := by
  have j := J.run S M es
  refine sorted_eq p s j.gn (fun x => ?_) (numbers_lt _ _)
  rw [List.mem_map]
  unfold missed
  rw [mem_numbers]
  constructor
  · rintro ⟨⟨n, b⟩, hn, rfl⟩
    obtain ⟨q, e, hq, h1, _⟩ := (j.gm n b).mp hn
    exact ⟨q, e, hq, decide_eq_true (by unfold behind; rw [if_neg (by simp)]; exact h1)⟩
  · rintro ⟨q, rfl, hq, h1⟩
    have h1 := of_decide_eq_true h1
    unfold behind at h1
    rw [if_neg (by simp)] at h1
    exact ⟨(q, _), (j.gm q _).mpr ⟨q, rfl, hq, h1, rfl⟩, rfl⟩
theorem gone_held {S : Int} {M : Nat} {es : List Ev} {xs : List Int} (p : xs.Perm (((RS.run S M es).gone.filter Prod.snd).map Prod.fst)) (s : xs.Pairwise (· ≤ ·)) : xs = (CS.run S es).missed M true := by
  have j := J.run S M es
  have nd : (((RS.run S M es).gone.filter Prod.snd).map Prod.fst).Nodup := List.Nodup.sublist (List.Sublist.map _ List.filter_sublist) j.gn
  refine sorted_eq p s nd (fun x => ?_) (numbers_lt _ _)
  rw [List.mem_map]
  unfold missed
  rw [mem_numbers]
  constructor
  · rintro ⟨⟨n, b⟩, hn, rfl⟩
    rw [List.mem_filter] at hn
    obtain ⟨q, e, hq, h1, h2⟩ := (j.gm n b).mp hn.1
    have hb : b = true := hn.2
    rw [hb] at h2
    have h3 := of_decide_eq_true h2.symm
    exact ⟨q, e, hq, decide_eq_true (by unfold behind; rw [if_neg fun z => h3 z.2]; exact h1)⟩
  · rintro ⟨q, rfl, hq, h1⟩
    have h1 := of_decide_eq_true h1
    unfold behind at h1
    by_cases z : (CS.run S es).file q = (CS.run S es).since ((CS.run S es).stretch q)
    · rw [if_pos ⟨rfl, z⟩] at h1
      omega
    · rw [if_neg fun y => z y.2] at h1
      exact ⟨(q, true), List.mem_filter.mpr ⟨(j.gm q _).mpr ⟨q, rfl, hq, h1, (decide_eq_true z).symm⟩, rfl⟩, rfl⟩
end CS

/-! ### the course in the heap -/
def cf (s b : Addr) : List (Str × V) := [("spots", .ref s), ("borders", .ref b)]
theorem cf_s (s b : Addr) : (cf s b).lookup ("spots" : Str) = some (.ref s) := rfl
theorem cf_b (s b : Addr) : (cf s b).lookup ("borders" : Str) = some (.ref b) := rfl
theorem cf_mk (s b : Addr) : putF "borders" (.ref b) (putF "spots" (.ref s) []) = cf s b := by
  show (if ("spots" : Str) = "borders" then _ else (("spots" : Str), V.ref s) :: putF "borders" (V.ref b) []) = cf s b
  rw [if_neg (by decide +kernel)]
  rfl
theorem CS.lens (S : Int) (es : List Ev) : (CS.run S es).spots.length ≤ es.length ∧ (CS.run S es).borders.length ≤ es.length + 1 := by
  have : ∀ (es : List Ev) (c : CS), (es.foldl (CS.step S) c).spots.length ≤ c.spots.length + es.length ∧ (es.foldl (CS.step S) c).borders.length ≤ c.borders.length + es.length := by
    intro es
    induction es with
    | nil => intro c; exact ⟨Nat.le_refl _, Nat.le_refl _⟩
    | cons e es ih =>
      intro c
      have h1 := ih (CS.step S c e)
      have h2 : (CS.step S c e).spots.length ≤ c.spots.length + 1 ∧ (CS.step S c e).borders.length ≤ c.borders.length + 1 := by
        cases e <;> simp [CS.step]
      rw [List.foldl_cons, List.length_cons]
      omega
  have h := this es CS.init
  simp only [CS.init, List.length_nil, List.length_cons] at h
  exact ⟨by have := h.1; unfold CS.run CS.init; omega, by have := h.2; unfold CS.run CS.init; omega⟩
def SpotAt (H : Hp) (v : V) (x : Int × Int) : Prop := ∃ t, v = .ref t ∧ H t = some (.tup [.int x.1, .int x.2])
def CrsAt (C : Addr) (H : Hp) (p s b : Addr) (bs : List Int) (sp : List (Int × Int)) : Prop :=
  ∃ (dx : Addr) (sv : List V), H p = some (.ins C dx (cf s b)) ∧ H s = some (.lst sv) ∧ H b = some (.lst (bs.map V.int)) ∧ Paired (SpotAt H) sv sp
theorem CrsAt.same {C : Addr} {H H' : Hp} {p s b : Addr} {bs : List Int} {sp : List (Int × Int)} (h : CrsAt C H p s b bs sp) (z : Same H H') : CrsAt C H' p s b bs sp := by
  obtain ⟨dx, sv, h1, h2, h3, h4⟩ := h
  exact ⟨dx, sv, z _ _ h1, z _ _ h2, z _ _ h3, Paired.mapP h4 fun v x ⟨t, e, ht⟩ => ⟨t, e, z _ _ ht⟩⟩
def sp_cinit (C : Addr) : Sp := fun vs H Q _ => ∃ (p dx bk q t : Addr) (S : Int) (es : List Ev), vs = [.ref p, .ref bk, .ref t] ∧ H p = some (.ins C dx []) ∧ H bk = some (.tup [.int S, .ref q]) ∧ H t = some (.tup (es.map Ev.v)) ∧ es.length ≤ 1000 ∧
  ∀ (s b : Addr) (H' : Hp), CrsAt C H' p s b (CS.run S es).ends (CS.run S es).spots → But p H H' → Q .non H'
def sp_cbehind (C : Addr) : Sp := fun vs H Q _ => ∃ (p s b : Addr) (c : CS) (n : Nat) (holds : Bool), vs = [.ref p, .int n, .bl holds] ∧ CrsAt C H p s b c.ends c.spots ∧ CS.Ok c ∧ n < c.spots.length ∧ Q (.int (c.behind n holds)) H
def sp_call (C : Addr) : Sp := fun vs H Q _ => ∃ (p s b : Addr) (c : CS) (holds : Bool), vs = [.ref p, .bl holds] ∧ CrsAt C H p s b c.ends c.spots ∧ CS.Ok c ∧ c.spots.length ≤ 1000 ∧
  ∀ (l : Addr) (H' : Hp), H' l = some (.lst ((List.range c.spots.length).map fun n => .int (c.behind n holds))) → Same H H' → Q (.ref l) H'
def sp_missed : Sp := fun vs H Q _ => ∃ (bk q t : Addr) (S kept : Int) (es : List Ev) (holds : Bool), vs = [.ref bk, .int kept, .ref t, .bl holds] ∧ H bk = some (.tup [.int S, .ref q]) ∧ H t = some (.tup (es.map Ev.v)) ∧ es.length ≤ 1000 ∧
  ∀ (r : Addr) (H' : Hp), H' r = some (.tup (((CS.run S es).missed kept holds).map V.int)) → Same H H' → Q (.ref r) H'
/-- a comprehension over enumerate(list) -/
theorem lc_enumL {K : PySem.W.Frag} {a : Addr} {xs : List V} {g : TG} {tt : TT} {te : TE} {vs : List Nat} {σ : St} {H1 : Hp} {D : Addr} {Qd : Hp → Prop}
    (Pv : Nat → Hp → Prop) (h0 : Pv 0 (upd H1 D (.lst [])))
    (hl : ∀ i H, i ≤ xs.length → Pv i H → SqL K H a xs)
    (hs : ∀ i x T H, xs[i]? = some x → Pv i H → H T = none →
      g (.ref T) (wipe σ vs) (upd H T (.tup [.int (i : Nat), x])) fun σ2 H2 =>
        wipe σ2 vs = wipe σ vs ∧
        tt σ2 H2 fun b H3 =>
          if b = true then
            te σ2 H3 fun y H4 =>
              ∃ acc, H4 D = some (.lst acc) ∧ acc.length < sizeLine ∧
                Pv (i + 1) (upd H4 D (.lst (acc ++ [y])))
          else Pv (i + 1) H3)
    (hd : ∀ H, Pv xs.length H → Qd H) :
    ∃ W : Nat → Nat → Hp → Prop,
      (∃ m, W 0 m (upd H1 D (.lst []))) ∧
      ∀ i m H, W i m H →
        ((Ite K a).stop i H ∧ Qd H) ∨
        ((Ite K a).go i H ∧
          ∃ Nx : Hp → Prop,
            (∀ H', Nx H' → ∃ m', m' < m ∧ W (i + 1) m' H') ∧
            ∀ x H', (Ite K a).yld i H x H' →
              g x (wipe σ vs) H' fun σ2 H2 =>
                wipe σ2 vs = wipe σ vs ∧
                tt σ2 H2 fun b H3 =>
                  if b = true then
                    te σ2 H3 fun y H4 =>
                      ∃ acc, H4 D = some (.lst acc) ∧ acc.length < sizeLine ∧
                        Nx (upd H4 D (.lst (acc ++ [y])))
                  else Nx H3) := by
  refine ⟨fun i m H => i ≤ xs.length ∧ m + i = xs.length ∧ Pv i H, ⟨xs.length, Nat.zero_le _, rfl, h0⟩, ?_⟩
  rintro i m H ⟨hi, em, p⟩
  have sq := hl i H hi p
  by_cases lt : i < xs.length
  · refine .inr ⟨⟨xs, xs[i], sq, List.getElem?_eq_getElem lt⟩, Pv (i + 1), fun H' p' => ⟨m - 1, by omega, by omega, by omega, p'⟩, ?_⟩
    rintro x H' ⟨T, y, rfl, nT, rfl, hy⟩
    exact hs i y T H (hy xs sq) p nT
  · have e : i = xs.length := by omega
    subst e
    exact .inl ⟨⟨xs, sq, Nat.le_refl _⟩, hd H p⟩
end My

namespace My
open PySem L2
def top (i : Nat) : Stmt := PySem.Challenge.pw_rotatedlogs_k30_missed_lines.main.body.getD i (.Pass ⟨0, 0, 0, 0⟩)
structure Df (K : PySem.W.Frag) (mg : Str → Option Value) (x : Str) (st : Stmt) (ps : List Str) : Prop where
  ex : ∃ (f : Addr) (fd : FuncData), Fun K x x st f fd ∧ mg x = some (.ref f) ∧ Binds K fd ps []
structure DfK (K : PySem.W.Frag) (mg : Str → Option Value) (x : Str) (st : Stmt) (ps : List Str) (kws : List (Str × V)) (n : Nat) : Prop where
  ex : ∃ (f : Addr) (fd : FuncData), FunD K x x (defArgs st) (defBody st) (defScope st) [] kws f fd ∧ mg x = some (.ref f) ∧ (∃ ds, Vals (kws.map (·.2)) ds ∧ Binds K fd ps ds) ∧ KBn K fd ps n (kws.map (·.1)) (fun us ws => us ++ ws) (fun vs zs => vs ++ zs)
structure MeF (K : PySem.W.Frag) (C : Addr) (m qual : Str) (st : Stmt) (ps : List Str) : Prop where
  ex : ∃ (f : Addr) (fd : FuncData), Fun K m qual st f fd ∧ Binds K fd ps [] ∧ Meth K C m f
structure MkF (K : PySem.W.Frag) (C : Addr) (qual : Str) (st : Stmt) (ps : List Str) : Prop where
  ex : ∃ (f : Addr) (fd : FuncData), Fun K "__init__" qual st f fd ∧ Binds K fd ps [] ∧ Mk K C f
theorem kw_all {K : PySem.W.Frag} {x qual : Str} {pa : Arguments} {bd : List Stmt} {sc : Scope} {kws : List (Str × V)} {f : Addr} {fd : FuncData} {ps : List Str} (F : FunD K x qual pa bd sc [] kws f fd) (n : Nat) (ks : List Str)
    (h : ∀ (kV doc pm : Value) (an : Option Addr) (cdv ct : Value) (us ws : List Value), us.length = n → ws.length = ks.length → bindArgs (PySem.W.fnOf x qual pa bd sc .none kV doc pm an cdv ct) ⟨us, ks.zip ws⟩ = pure (ps.zip (us ++ ws))) :
    KBn K fd ps n ks (fun us ws => us ++ ws) (fun vs zs => vs ++ zs) := by
  obtain ⟨oc, od, dV, kV, doc, pm, an, cdv, ct, osl, rfl, _, _, hd, _⟩ := F.ex
  rcases hd with ⟨_, rfl⟩ | ⟨z, _⟩
  · exact ⟨fun s us ws _ h1 h2 => .of_eq (h kV doc pm an cdv ct us ws h1 h2), fun r1 r2 => r1.append r2⟩
  · exact absurd rfl z
abbrev s_Ltake : Stmt := top 10
abbrev N_Ltake : List Str := ["_law_box_here", "_law_many", "_law_digit", "_law_mixed"]
theorem sc_Ltake : FnScope N_Ltake ["_law_box_here", "_law_many"] (defScope s_Ltake) := ⟨rfl, rfl, rfl, by decide +kernel, rfl, by decide +kernel, by decide +kernel⟩
abbrev s_Lbox : Stmt := top 9
abbrev N_Lbox : List Str := ["_law_script", "_law_k", "_law_cell", "_law_own"]
theorem sc_Lbox : FnScope N_Lbox ["_law_script", "_law_k"] (defScope s_Lbox) := ⟨rfl, rfl, rfl, by decide +kernel, rfl, by decide +kernel, by decide +kernel⟩
abbrev s_Lof : Stmt := top 11
abbrev N_Lof : List Str := ["_law_box_here", "_law_some"]
theorem sc_Lof : FnScope N_Lof ["_law_box_here", "_law_some"] (defScope s_Lof) := ⟨rfl, rfl, rfl, by decide +kernel, rfl, by decide +kernel, by decide +kernel⟩
abbrev s_Lbook : Stmt := top 12
abbrev N_Lbook : List Str := ["_law_box_here", "_law_top", "_law_size", "_law_found", "_law_turn", "_law_some"]
theorem sc_Lbook : FnScope N_Lbook ["_law_box_here", "_law_top"] (defScope s_Lbook) := ⟨rfl, rfl, rfl, by decide +kernel, rfl, by decide +kernel, by decide +kernel⟩
abbrev s_Ltale : Stmt := top 14
abbrev N_Ltale : List Str := ["_law_box_here", "_law_book_here", "_law_bound", "_law_often", "_law_many", "_law_tale_here", "_law_spent", "_law_hands", "_law_turn", "_law_way", "_law_line"]
theorem sc_Ltale : FnScope N_Ltale ["_law_box_here", "_law_book_here", "_law_bound", "_law_often", "_law_many"] (defScope s_Ltale) := ⟨rfl, rfl, rfl, by decide +kernel, rfl, by decide +kernel, by decide +kernel⟩
abbrev s_Lrun : Stmt := top 13
abbrev N_Lrun : List Str := ["_law_book_here", "_law_many", "_law_tale_here", "_law_files", "_law_places", "_law_gone", "_law_fill", "_law_here", "_law_turns_here", "_law_deed", "_law_numbers", "_law_begun", "_law_held", "_law_shown", "_law_number", "_law_is_new"]
theorem sc_Lrun : FnScope N_Lrun ["_law_book_here", "_law_many", "_law_tale_here"] (defScope s_Lrun) := ⟨rfl, rfl, rfl, by decide +kernel, rfl, by decide +kernel, by decide +kernel⟩
abbrev s_is_rotated : Stmt := top 3
abbrev N_is_rotated : List Str := ["rules", "fill", "event"]
theorem sc_is_rotated : FnScope N_is_rotated ["rules", "fill", "event"] (defScope s_is_rotated) := ⟨rfl, rfl, rfl, by decide +kernel, rfl, by decide +kernel, by decide +kernel⟩
abbrev s_fill_behind : Stmt := top 4
abbrev N_fill_behind : List Str := ["rules", "fill", "event", "left"]
theorem sc_fill_behind : FnScope N_fill_behind ["rules", "fill", "event"] (defScope s_fill_behind) := ⟨rfl, rfl, rfl, by decide +kernel, rfl, by decide +kernel, by decide +kernel⟩
abbrev s_Coursedd_initdd : Stmt := inClass (top 6) 0
abbrev N_Coursedd_initdd : List Str := ["self", "rules", "history", "fill", "turned", "event"]
theorem sc_Coursedd_initdd : FnScope N_Coursedd_initdd ["self", "rules", "history"] (defScope s_Coursedd_initdd) := ⟨rfl, rfl, rfl, by decide +kernel, rfl, by decide +kernel, by decide +kernel⟩
abbrev s_Course_behind : Stmt := inClass (top 6) 1
abbrev N_Course_behind : List Str := ["self", "number", "holds", "stretch", "turned"]
theorem sc_Course_behind : FnScope N_Course_behind ["self", "number", "holds"] (defScope s_Course_behind) := ⟨rfl, rfl, rfl, by decide +kernel, rfl, by decide +kernel, by decide +kernel⟩
abbrev s_Course_all_behind : Stmt := inClass (top 6) 2
abbrev N_Course_all_behind : List Str := ["self", "holds", "number"]
theorem sc_Course_all_behind : FnScope N_Course_all_behind ["self", "holds"] (defScope s_Course_all_behind) := ⟨rfl, rfl, rfl, by decide +kernel, rfl, by decide +kernel, by decide +kernel⟩
abbrev s_missed : Stmt := top 7
abbrev N_missed : List Str := ["rules", "kept", "history", "holds", "counts", "number", "count"]
theorem sc_missed : FnScope N_missed ["rules", "kept", "history", "holds"] (defScope s_missed) := ⟨rfl, rfl, rfl, by decide +kernel, rfl, by decide +kernel, by decide +kernel⟩
abbrev s_Lright : Stmt := top 15
abbrev N_Lright : List Str := ["_law_box_here", "_law_book_here", "_law_bound", "_law_tale_here", "_law_before", "_law_many", "_law_shown", "_law_gone", "_law_held", "_law_often", "_law_told"]
theorem sc_Lright : FnScope N_Lright ["_law_box_here", "_law_book_here"] (defScope s_Lright) := ⟨rfl, rfl, rfl, by decide +kernel, rfl, by decide +kernel, by decide +kernel⟩
abbrev s_law : Stmt := top 16
abbrev N_law : List Str := ["_law_script", "_law_k", "_law_box_here", "_law_turn"]
theorem sc_law : FnScope N_law ["_law_script"] (defScope s_law) := ⟨rfl, rfl, rfl, by decide +kernel, rfl, by decide +kernel, by decide +kernel⟩
structure C_Course (K : PySem.W.Frag) (mg : Str → Option Value) (C : Addr) : Prop where
  cl : Cls K C
  mgC : mg "Course" = some (.ref C)
  ini : MkF K C "Course.__init__" s_Coursedd_initdd ["self", "rules", "history"]
  m_behind : MeF K C "behind" "Course.behind" s_Course_behind ["self", "number", "holds"]
  m_all_behind : MeF K C "all_behind" "Course.all_behind" s_Course_all_behind ["self", "holds"]
  n_spots : NoAttr K C "spots"
  n_borders : NoAttr K C "borders"

structure Txt (K : PySem.W.Frag) (mg : Str → Option Value) : Prop where
  d_Ltake : Df K mg "_law_take" s_Ltake ["_law_box_here", "_law_many"]
  d_Lbox : Df K mg "_law_box" s_Lbox ["_law_script", "_law_k"]
  d_Lof : Df K mg "_law_of" s_Lof ["_law_box_here", "_law_some"]
  d_Lbook : Df K mg "_law_book" s_Lbook ["_law_box_here", "_law_top"]
  d_Ltale : Df K mg "_law_tale" s_Ltale ["_law_box_here", "_law_book_here", "_law_bound", "_law_often", "_law_many"]
  d_Lrun : Df K mg "_law_run" s_Lrun ["_law_book_here", "_law_many", "_law_tale_here"]
  d_is_rotated : Df K mg "is_rotated" s_is_rotated ["rules", "fill", "event"]
  d_fill_behind : Df K mg "fill_behind" s_fill_behind ["rules", "fill", "event"]
  d_missed : DfK K mg "missed" s_missed ["rules", "kept", "history", "holds"] [("holds", .bl false)] 3
  d_Lright : Df K mg "_law_right" s_Lright ["_law_box_here", "_law_book_here"]
  k_Course : ∃ C, C_Course K mg C
  n_abs : mg "abs" = none
  n_int : mg "int" = none
  n_len : mg "len" = none
  n_tuple : mg "tuple" = none
  n_sorted : mg "sorted" = none
  n_range : mg "range" = none
  n_max : mg "max" = none
  n_isinstance : mg "isinstance" = none
  n_enumerate : mg "enumerate" = none
  n_repr : mg "repr" = none
  n_min : mg "min" = none
  n_all : mg "all" = none
  c_ROTATE : ∃ t : Tok, mg "ROTATE" = some (Value.str "rotate" t)
  c_LOOK : ∃ t : Tok, mg "LOOK" = some (Value.str "look" t)

section
variable {P : Program} {w : World} {K : PySem.W.Frag} {mg : Str → Option Value} {base : Heap}

theorem ok_Ltake {f : Addr} {fd : FuncData} (F : Fun K "_law_take" "_law_take" s_Ltake f fd) : FnOk P w K mg base CX0 1 f fd ["_law_box_here", "_law_many"] sp_take := by
  refine F.ok sc_Ltake (fun vs H Q E h => ?_) (fun cdv A outer s H vs Q E hr h => ?_)
  · obtain ⟨b, many, n, rfl, _⟩ := h
    rfl
  · obtain ⟨b, many, n, rfl, ⟨o, m, c, h1, ho, hm0, hm, hc0, hc⟩, hn, hm1, hm2, k⟩ := h
    have nd := sc_Ltake.nd
    refine ⟨_, (pss_cons (ps_if (pt_cmpR op_gt (pe_ix ix_list (pv 0) pe_int (fun _ _ => rfl)) pe_int (nomark _))
(pss_cons (ps_set (i := 2) nd rfl (Or.inl rfl) (pe_op op_mod (pe_ix ix_list (pv 0) pe_int (fun _ _ => rfl)) (pv 1)))
(pss_cons (ps_asg (pe_op op_fdivW (pe_ix ix_list (pv 0) pe_int (fun _ _ => rfl)) (pv 1)) (pg_sub (pv 0) pe_int set_list))
(pss_one (ps_ret (pv 2)))))
pss_nil)
(pss_cons (ps_asg (pe_op op_add (pe_ix ix_list (pv 0) pe_int (fun _ _ => rfl)) pe_int) (pg_sub (pv 0) pe_int set_list))
(pss_cons (ps_set (i := 3) nd rfl (Or.inl rfl) (pe_op op_mod (pe_op op_mul (pe_op op_add (pe_op op_add (pe_ix ix_list (pv 0) pe_int (fun _ _ => rfl)) (pe_op op_mul (pe_op op_mul pe_int (pe_ix ix_list (pv 0) pe_int (fun _ _ => rfl))) (pe_ix ix_list (pv 0) pe_int (fun _ _ => rfl)))) pe_int) pe_int) pe_int))
(pss_cons (ps_set (i := 3) nd rfl (Or.inl rfl) (pe_op op_mod (pe_op op_mul (pv 3) (pe_op op_add (pe_op op_mod (pv 3) pe_int) (pe_op op_mul pe_int (pe_ix ix_list (pv 0) pe_int (fun _ _ => rfl))))) pe_int))
(pss_one (ps_ret (pe_op op_mod (pe_op op_add (pe_op op_fdiv (pv 3) pe_int) (pe_op op_fdiv (pv 3) pe_int)) (pv 1)))))))), ?_⟩
    refine ⟨_, rfl, _, _, _, _, rfl, rfl, SqL.of h1, rfl, _, _, rfl, rfl, _, rfl, ite2 (fun e => ?_) (fun e => ?_)⟩
    · refine ⟨_, rfl, _, _, _, _, rfl, rfl, SqL.of h1, rfl, _, rfl, _, _, rfl, rfl, hm1, ?_⟩
      refine ⟨_, rfl, _, _, _, _, rfl, rfl, SqL.of h1, rfl, _, rfl, _, _, rfl, rfl, wide_div hm1 (b := 64) (by omega) (by decide) (by decide), _, rfl, _, _, _, _, rfl, rfl, h1, rfl, ?_⟩
      refine ⟨_, rfl, k _ _ (Int.emod_nonneg _ (by omega)) (Int.emod_lt_of_pos _ hm1) ⟨_, _, _, upd_same, Int.ediv_nonneg ho (by omega), hm0, hm, hc0, by omega⟩ But.set⟩
    · refine ⟨_, rfl, _, _, _, _, rfl, rfl, SqL.of h1, rfl, _, _, rfl, rfl, _, rfl, _, _, _, _, rfl, rfl, h1, rfl, ?_⟩
      -- the mixed number
      refine ⟨_, rfl, _, _, _, _, rfl, rfl, SqL.of upd_same, rfl, _, rfl, _, _, _, _, rfl, rfl, SqL.of upd_same, rfl, _, _, rfl, rfl, .inl (by decide), _, rfl, _, _, _, _, rfl, rfl, SqL.of upd_same, rfl, _, _, rfl, rfl, .inr (by omega), _, _, rfl, rfl, _, _, rfl, rfl, _, _, rfl, rfl, .inr (by decide), _, _, rfl, rfl, (by show (0 : Int) < _; decide), ?_⟩
      generalize ((m + 65557 * (c + 1) * (c + 1) + 19) * 48311) = z
      have z0 : 0 ≤ z % 2305843009213693921 := Int.emod_nonneg _ (by decide)
      have z1 : z % 2305843009213693921 < 2305843009213693921 := Int.emod_lt_of_pos _ (by decide)
      refine ⟨_, rfl, _, rfl, _, _, rfl, rfl, (by show (0 : Int) < _; decide), _, rfl, _, _, _, _, rfl, rfl, SqL.of upd_same, rfl, _, _, rfl, rfl, .inl (by decide), _, _, rfl, rfl, _, _, rfl, rfl, .inl (by omega), _, _, rfl, rfl, (by show (0 : Int) < _; decide), ?_⟩
      refine ⟨_, rfl, _, _, rfl, rfl, ⟨by decide, by decide⟩, _, rfl, _, _, rfl, rfl, ⟨by decide, by decide⟩, _, _, rfl, rfl, _, rfl, _, _, rfl, rfl, hm1, ?_⟩
      exact k _ _ (Int.emod_nonneg _ (by omega)) (Int.emod_lt_of_pos _ hm1) ⟨_, _, _, upd_same, ho, hm0, hm, by omega, by omega⟩ But.set

theorem ok_Lbox {f : Addr} {fd : FuncData} (T : Txt K mg) (F : Fun K "_law_box" "_law_box" s_Lbox f fd) : FnOk P w K mg base CX0 1 f fd ["_law_script", "_law_k"] (sp_box K) := by
  refine F.ok sc_Lbox (fun vs H Q E h => ?_) (fun cdv A outer s H vs Q E hr h => ?_)
  · obtain ⟨a, ns, j, rfl, _⟩ := h
    rfl
  · obtain ⟨a, ns, j, rfl, hS, hlen, hj, hj2, k⟩ := h
    have nd := sc_Lbox.nd
    refine ⟨_, (pss_cons (ps_set (i := 2) nd rfl (Or.inl rfl) (pe_ifExp (pt_cmpR op_lt (pv 1) (pe_callB call_len_seq (by rfl) T.n_len (by decide +kernel) (pa_cons (pv 0) pa_nil)) (nomark _)) (pe_ix ix_list (pv 0) (pv 1) (fun _ _ => rfl)) (pe_op op_add (pe_op op_mul pe_int (pv 1)) pe_int)))
(pss_cons (ps_set (i := 3) nd rfl (Or.inl rfl) (pe_op op_mul (pe_op op_mod (pe_callB call_abs (by rfl) T.n_abs (by decide +kernel) (pa_cons (pv 2) pa_nil)) (pe_op op_powW (pe_op op_pow pe_int pe_int) pe_int)) (pe_callTy call_int1 (by rfl) T.n_int (by decide +kernel) (pa_cons (pe_cmpR op_ge (pe_callB call_abs (by rfl) T.n_abs (by decide +kernel) (pa_cons (pv 2) pa_nil)) (pe_op op_pow pe_int pe_int) (nomark _)) pa_nil))))
(pss_one (ps_ret (pe_lst (pa_cons (pv 3) (pa_cons (pe_op op_mod (pe_op op_add (pe_op op_add (pe_op op_mul (pe_op op_mod (pv 2) pe_int) pe_int) (pe_op op_mul (pe_op op_mul pe_int (pv 1)) (pv 1))) pe_int) pe_int) (pa_cons pe_int pa_nil)))))))), ?_⟩
    refine ⟨_, rfl, _, rfl, _, _, rfl, .inl hS, _, _, rfl, rfl, _, rfl, ?_⟩
    apply @join Int
    case use =>
      intro rest
      refine ite2 (fun e => ?_) (fun e => ?_)
      · have hlt : j < ((ns.map V.int).length : Nat) := of_decide_eq_true e
        obtain ⟨v, hv, hm⟩ := atI_in hj hlt
        obtain ⟨cell, _, rfl⟩ := List.mem_map.mp hm
        exact ⟨_, rfl, _, rfl, _, _, _, _, rfl, rfl, hS, hv, rest cell⟩
      · exact ⟨_, rfl, _, _, rfl, rfl, .inl (by decide), _, _, rfl, rfl, rest _⟩
    case rest =>
      intro cell
      refine ⟨_, rfl, _, rfl, _, _, rfl, rfl, ⟨by decide, by decide +kernel⟩, _, _, rfl, rfl, ⟨by decide, by decide +kernel⟩, _, _, rfl, rfl, (by show (0 : Int) < _; decide +kernel), _, rfl, _, rfl, _, _, rfl, rfl, ⟨by decide, by decide +kernel⟩, _, _, rfl, rfl, ?_⟩
      have p5 : (0 : Int) < ((10 : Int) ^ (60 : Int).toNat) ^ (5 : Int).toNat := by decide +kernel
      generalize ((10 : Int) ^ (60 : Int).toNat) ^ (5 : Int).toNat = B at p5
      refine .inr ⟨_, rfl, _, _, rfl, rfl, .inr (b2_w _), ?_⟩
      refine ⟨_, rfl, _, rfl, _, _, rfl, rfl, (by show (0 : Int) < _; decide), _, _, rfl, rfl, .inr (by decide), _, rfl, _, _, rfl, rfl, .inl (by decide), _, rfl, _, _, rfl, rfl, .inl (by omega), _, _, rfl, rfl, _, _, rfl, rfl, _, _, rfl, rfl, (by show (0 : Int) < _; decide), szl 3 rfl, fun p hp => ?_⟩
      exact k p _ (same_new hp) hp ⟨_, _, _, upd_same, Int.mul_nonneg (Int.emod_nonneg _ (by omega)) (b2_nn _), Int.emod_nonneg _ (by decide), Int.lt_trans (Int.emod_lt_of_pos _ (by decide)) (by decide), by omega, by omega⟩

theorem ok_Lof {f : Addr} {fd : FuncData} (T : Txt K mg) (F : Fun K "_law_of" "_law_of" s_Lof f fd) : FnOk P w K mg base CX0 2 f fd ["_law_box_here", "_law_some"] (sp_of K) := by
  refine F.ok sc_Lof (fun vs H Q E h => ?_) (fun cdv A outer s H vs Q E hr h => ?_)
  · obtain ⟨b, a, xs, n, rfl, _⟩ := h
    rfl
  · obtain ⟨b, a, xs, n, rfl, hB, nab, hx, hn, hne, hlen, k⟩ := h
    have nd := sc_Lof.nd
    obtain ⟨f_Ltake, fd_Ltake, F_Ltake, m_Ltake, b_Ltake⟩ := T.d_Ltake.ex
    have G_Ltake := ok_Ltake (P := P) (w := w) (mg := mg) (base := base) F_Ltake
    have hpos : 0 < xs.length := List.length_pos_iff.mpr hne
    refine ⟨_, (pss_one (ps_ret (pe_ix ix_seq (pv 1) (pe_call G_Ltake (hr.mono (by decide)) rfl m_Ltake F_Ltake.kp b_Ltake .nil pass0 (pa_cons (pv 0) (pa_cons (pe_callB call_len_seq (by rfl) T.n_len (by decide +kernel) (pa_cons (pv 1) pa_nil)) pa_nil))) (fun _ _ => rfl)))), ?_⟩
    refine ⟨_, rfl, _, rfl, _, rfl, _, xs, rfl, hx.elim (fun h => .inl (SqL.of h)) (fun h => .inr (SqT.of h)), b, _, n, rfl, hB, hn, by omega, by omega, fun r H' h0 h1 hB' hb => ?_⟩
    obtain ⟨v, hv, hm⟩ := atI_in h0 h1
    rcases hx with hx | hx
    · exact .inl ⟨_, _, _, _, rfl, rfl, SqL.of (hb _ _ nab hx), hv, k v H' hm hB' hb⟩
    · exact .inr (.inl ⟨_, _, _, _, rfl, rfl, SqT.of (hb _ _ nab hx), hv, k v H' hm hB' hb⟩)

theorem ok_Lbook {f : Addr} {fd : FuncData} (T : Txt K mg) (F : Fun K "_law_book" "_law_book" s_Lbook f fd) : FnOk P w K mg base CX0 3 f fd ["_law_box_here", "_law_top"] sp_book := by
  refine F.ok sc_Lbook (fun vs H Q E h => ?_) (fun cdv A outer s H vs Q E hr h => ?_)
  · obtain ⟨b, top, n, rfl, _⟩ := h
    rfl
  · obtain ⟨b, top, n, rfl, hB, hn, h1, h2, k⟩ := h
    have nd := sc_Lbook.nd
    obtain ⟨f_Ltake, fd_Ltake, F_Ltake, m_Ltake, b_Ltake⟩ := T.d_Ltake.ex
    have G_Ltake := ok_Ltake (P := P) (w := w) (mg := mg) (base := base) F_Ltake
    obtain ⟨f_Lof, fd_Lof, F_Lof, m_Lof, b_Lof⟩ := T.d_Lof.ex
    have G_Lof := ok_Lof (P := P) (w := w) (mg := mg) (base := base) T F_Lof
    refine ⟨_, (pss_cons (ps_par (i := 2) (j := 3) (by rfl) nd rfl rfl (by decide) rfl rfl (pa_cons (pe_op op_add pe_int (pe_call G_Ltake (hr.mono (by decide)) rfl m_Ltake F_Ltake.kp b_Ltake .nil pass0 (pa_cons (pv 0) (pa_cons (pv 1) pa_nil)))) (pa_cons pe_dnewK pa_nil)) (by rfl))
(pss_cons (ps_for PassesOwn.never rfl (pi_range1 (by rfl) T.n_range (pa_cons (pe_op op_add pe_int (pe_call G_Ltake (hr.mono (by decide)) rfl m_Ltake F_Ltake.kp b_Ltake .nil pass0 (pa_cons (pv 0) (pa_cons pe_int pa_nil)))) pa_nil)) (pg_name (i := 4) nd rfl (Or.inl rfl))
(pss_cons (ps_set (i := 5) nd rfl (Or.inl rfl) (pe_lst (pa_cons (pe_op op_add pe_int (pe_call G_Ltake (hr.mono (by decide)) rfl m_Ltake F_Ltake.kp b_Ltake .nil pass0 (pa_cons (pv 0) (pa_cons (pv 2) pa_nil)))) (pa_cons (pe_op op_add (pe_op op_fdiv (pv 2) pe_int) pe_int) (pa_cons pe_int (pa_cons (pv 2) (pa_cons (pe_callB (call_max2 rfl) (by rfl) T.n_max (by decide +kernel) (pa_cons pe_int (pa_cons (pe_op op_fdiv (pv 2) pe_int) pa_nil))) (pa_cons (pe_callB (call_max2 rfl) (by rfl) T.n_max (by decide +kernel) (pa_cons pe_int (pa_cons (pe_op op_fdiv (pv 2) pe_int) pa_nil))) pa_nil))))))))
(pss_one (ps_dput (hu_of hr) (pv 3) (pe_call G_Lof (hr.mono (by decide)) rfl m_Lof F_Lof.kp b_Lof .nil pass0 (pa_cons (pv 0) (pa_cons (pe_op op_cat (pe_op op_rep (pe_slice sl_list (pv 5) po_none (po_some pe_int)) pe_int) (pv 5)) pa_nil))) pe_bl rfl))))
(pss_one (ps_ret (pe_tup (pa_cons (pv 2) (pa_cons (pe_callTy call_tuple_of (by rfl) T.n_tuple (by decide +kernel) (pa_cons (pe_callB (call_sortedDI rfl) (by rfl) T.n_sorted (by decide +kernel) (pa_cons (pv 3) pa_nil)) pa_nil)) pa_nil))))))), ?_⟩
    refine ⟨_, rfl, _, rfl, b, top, n, rfl, hB, by omega, by omega, by omega, fun r H1 r0 r1 B1 u1 => ?_⟩
    refine ⟨_, _, rfl, rfl, fun d hd => ⟨_, _, rfl, ?_⟩⟩
    have hdb : d ≠ b := (ne_of_none (B1.there.choose_spec) hd).symm
    have B2 : Box (n + 1) (upd H1 d (.dK [])) b := B1.new hd
    refine ⟨_, rfl, b, 6, n + 1, rfl, B2, by omega, by omega, by omega, fun c H2 c0 c1 B3 u2 => ?_⟩
    refine ⟨_, _, rfl, rfl, _, rfl, by omega, by omega, for_range (n := (1 + c).toNat) (fun i σ H' => ∃ (ks : List Int) (v4 v5 : Option V), σ = [some (.ref b), some (.int top), some (.int (1 + r)), some (.ref d), v4, v5] ∧ Box (n + 2 + 2 * i) H' b ∧ H' d = some (.dK (dT ks)) ∧ But b H H' ∧
      ks.Nodup ∧ ks.length ≤ i ∧ (0 < i → ks ≠ []) ∧ ∀ x ∈ ks, 1 ≤ x ∧ x ≤ 1 + r)
      ⟨[], none, none, rfl, B3.mono (by omega), u2 _ _ hdb upd_same, (u1.trans (But.new hd)).trans u2, List.nodup_nil, Nat.le_refl _, fun z => absurd z (by omega), fun _ z => absurd z (by simp)⟩ ?_ ?_⟩
    · rintro i σ H' hi ⟨ks, v4, v5, rfl, BB, D, u, kn, kl, kz, km⟩
      have r3 : (1 + r) / 2 + 1 ≤ 1 + r ∨ 1 + r = 1 := by omega
      refine ⟨_, rfl, _, rfl, b, 1 + r, _, rfl, BB, by omega, by omega, by omega, fun z H3 z0 z1 B4 u3 => ?_⟩
      refine ⟨_, _, rfl, rfl, _, rfl, _, _, rfl, rfl, ⟨by decide, by decide⟩, _, _, rfl, rfl, _, rfl, _, rfl, _, _, rfl, rfl, ⟨by decide, by decide⟩, _, _, rfl, _, rfl, _, _, rfl, rfl, ⟨by decide, by decide⟩, _, _, rfl, szl 6 rfl, fun p hp => ?_⟩
      have D3 : H3 d = some (.dK (dT ks)) := u3 _ _ hdb D
      refine ⟨_, rfl, _, rfl, _, rfl, _, rfl, _, _, rfl, SqL.of upd_same, fun p1 hp1 => ⟨_, _, _, rfl, rfl, upd_same, by decide, by decide, nle 3 rfl, fun p2 hp2 => ⟨_, rfl, _, _, _, _, rfl, rfl, upd_same, kp_new hp2 (kp_new hp1 upd_same), nle 9 rfl, fun p3 hp3 => ?_⟩⟩⟩
      refine ⟨b, p3, _, n + 2 + 2 * i + 1, rfl, (((B4.new hp).new hp1).new hp2).new hp3, (((B4.new hp).new hp1).new hp2).ne hp3, .inl upd_same, by omega, by simp, by show 9 < 2 ^ 60; decide, fun v H6 hv B6 u6 => ?_⟩
      obtain ⟨x, rfl, x1, x2⟩ := one_of r0 z0 z1 hv
      refine ⟨d, _, rfl, DPut.k (k := Sum.inl x) (u6 _ _ hdb (kp_new hp3 (kp_new hp2 (kp_new hp1 (kp_new hp D3))))) (Nat.lt_of_le_of_lt (by unfold dT; rw [List.length_map]; omega) (by decide : 100 < sizeLine)), ?_⟩
      have e1 : putK (dT ks) (Sum.inl x) (V.bl true) = dT (insL ks x) := dT_put ks x
      refine ⟨insL ks x, _, _, rfl, (B6.set hdb).mono (by omega), by rw [e1]; exact upd_same, fun a o na h => ?_, insL_nd kn, Nat.le_trans (insL_len _ _) (by omega), fun _ => insL_ne _ _, fun y hy => (insL_mem hy).elim (km y) (fun e => by omega)⟩
      exact kp_set (ne_of_none h (u1.free hd hdb)) (u6 _ _ na (kp_new hp3 (kp_new hp2 (kp_new hp1 (kp_new hp (u3 _ _ na (u _ _ na h)))))))
    · rintro σ H' ⟨ks, v4, v5, rfl, BB, D, u, kn, kl, kz, km⟩
      have hcn : ((1 + c).toNat : Int) = 1 + c := by omega
      refine ⟨_, rfl, _, rfl, d, dT ks, ks, rfl, .of D, dT_keys ks, by omega, fun ys p pm py hp => ?_⟩
      refine ⟨p, _, rfl, .inl ⟨SqL.of upd_same, fun q hq => ⟨szl 2 rfl, fun t ht => ?_⟩⟩⟩
      refine k t (1 + r) ys _ ⟨by omega, by omega, ?_, ?_, fun l hl => km l (pm.mem_iff.mp hl), asc_of pm kn py⟩ (by omega) ⟨q, upd_same, kp_new ht upd_same⟩ ((((BB.new hp).new hq).new ht).mono (by omega)) fun a o na h => kp_new ht (kp_new hq (kp_new hp (u _ _ na h)))
      · intro e
        rw [e] at pm
        exact kz (by omega) pm.symm.eq_nil
      · rw [pm.length_eq]
        omega

end
end My

namespace My
open PySem L2
section
variable {P : Program} {w : World} {K : PySem.W.Frag} {mg : Str → Option Value} {base : Heap}

theorem ok_Ltale {f : Addr} {fd : FuncData} (T : Txt K mg) (F : Fun K "_law_tale" "_law_tale" s_Ltale f fd) : FnOk P w K mg base CX0 3 f fd ["_law_box_here", "_law_book_here", "_law_bound", "_law_often", "_law_many"] sp_tale := by
  refine F.ok sc_Ltale (fun vs H Q E h => ?_) (fun cdv A outer s H vs Q E hr h => ?_)
  · obtain ⟨b, bk, S, ls, bound, often, many, n, rfl, _⟩ := h
    rfl
  · obtain ⟨b, bk, S, ls, bound, often, many, n, rfl, ⟨q, hbk, hq⟩, R, hB, hb0, ho0, hm0, hm1, hn, k⟩ := h
    have nd := sc_Ltale.nd
    obtain ⟨f_Ltake, fd_Ltake, F_Ltake, m_Ltake, b_Ltake⟩ := T.d_Ltake.ex
    have G_Ltake := ok_Ltake (P := P) (w := w) (mg := mg) (base := base) F_Ltake
    obtain ⟨f_Lof, fd_Lof, F_Lof, m_Lof, b_Lof⟩ := T.d_Lof.ex
    have G_Lof := ok_Lof (P := P) (w := w) (mg := mg) (base := base) T F_Lof
    obtain ⟨bx, hbx⟩ := hB.there
    have nqb := tup_ne hq hbx
    have nkb := tup_ne hbk hbx
    refine ⟨_, (pss_cons (ps_par3 (i := 5) (j := 6) (l := 7) rfl nd rfl rfl rfl (by decide) (by decide) (by decide) rfl rfl rfl (pa_cons (pe_lst pa_nil) (pa_cons pe_int (pa_cons pe_int pa_nil))) (by rfl))
(pss_cons (ps_for PassesOwn.never rfl (pi_range1 (by rfl) T.n_range (pa_cons (pv 4) pa_nil)) (pg_name (i := 8) nd rfl (Or.inl rfl))
(pss_cons (ps_par (i := 9) (j := 10) (by rfl) nd rfl rfl (by decide) rfl rfl (pa_cons (pe_call G_Ltake (hr.mono (by decide)) rfl m_Ltake F_Ltake.kp b_Ltake .nil pass0 (pa_cons (pv 0) (pa_cons pe_int pa_nil))) (pa_cons (pe_call G_Lof (hr.mono (by decide)) rfl m_Lof F_Lof.kp b_Lof .nil pass0 (pa_cons (pv 0) (pa_cons (pe_ix ix_tup (pv 1) pe_int (fun _ _ => rfl)) pa_nil))) pa_nil)) (by rfl))
(pss_one (ps_if (PW.pt (pw_or (pt_cmpR op_eq (pv 9) pe_int (nomark _)) (pw_or1 (PW.pt (pw_and (pt_cmpR op_gt (pe_op op_add (pv 6) (pv 10)) (pv 2) (nomark _)) (pw_and1 (pt_cmpR op_lt (pv 9) pe_int (nomark _))))))))
(pss_cons (ps_expr (pe_bm PySem.F.plainAttrs_list PySem.F.slot_list_append PySem.F.type_list_append mt_append (pv 5) (pa_cons pe_str pa_nil)))
(pss_one (ps_asg (pe_tup (pa_cons pe_int (pa_cons pe_int pa_nil))) (pg_tup (by rfl) (pgs_cons (pg_name (i := 6) nd rfl (Or.inl rfl)) (pgs_cons (pg_name (i := 7) nd rfl (Or.inl rfl)) pgs_nil))))))
(pss_one (ps_if (PW.pt (pw_and (pt_cmpR op_eq (pv 9) pe_int (nomark _)) (pw_and1 (pt_cmpR op_lt (pv 7) (pv 3) (nomark _)))))
(pss_cons (ps_expr (pe_bm PySem.F.plainAttrs_list PySem.F.slot_list_append PySem.F.type_list_append mt_append (pv 5) (pa_cons pe_str pa_nil)))
(pss_one (ps_set (i := 7) nd rfl (Or.inl rfl) (pe_op op_add (pv 7) pe_int))))
(pss_one (ps_if (pt_cmpR op_le (pe_op op_add (pv 6) (pv 10)) (pv 2) (nomark _))
(pss_cons (ps_expr (pe_bm PySem.F.plainAttrs_list PySem.F.slot_list_append PySem.F.type_list_append mt_append (pv 5) (pa_cons (pv 10) pa_nil)))
(pss_one (ps_set (i := 6) nd rfl (Or.inl rfl) (pe_op op_add (pv 6) (pv 10)))))
pss_nil))))))))
(pss_one (ps_ret (pe_callTy call_tuple_of (by rfl) T.n_tuple (by decide +kernel) (pa_cons (pv 5) pa_nil)))))), ?_⟩
    refine ⟨Nat.zero_le _, fun l hl => ?_⟩
    have nlb : l ≠ b := hB.ne hl
    refine ⟨_, _, _, rfl, ?_⟩
    refine ⟨_, rfl, many, rfl, by omega, by omega, for_range (n := many.toNat) (fun i σ H' => ∃ (es : List Ev) (sp hd : Int) (v8 v9 v10 : Option V), σ = [some (.ref b), some (.ref bk), some (.int bound), some (.int often), some (.int many), some (.ref l), some (.int sp), some (.int hd), v8, v9, v10] ∧
      Box (n + 2 * i) H' b ∧ H' l = some (.lst (es.map Ev.v)) ∧ But b H H' ∧ (∀ e ∈ es, Ev.ok ls e) ∧ es.length ≤ i ∧ Tame bound often es ∧ stOf es = (sp, hd))
      ⟨[], 0, 0, none, none, none, rfl, hB.new hl, upd_same, But.new hl, fun _ z => absurd z (by simp), Nat.le_refl _, Tame.nil hb0 ho0, rfl⟩ ?_ ?_⟩
    · rintro i σ H' hi ⟨es, sp, hd, v8, v9, v10, rfl, BB, D, u, ok, ln, tm, st⟩
      have hbk' := u _ _ nkb hbk
      have hq' := u _ _ nqb hq
      refine ⟨_, rfl, b, 12, _, rfl, BB, by omega, by omega, by omega, fun way H1 w0 w1 B1 u1 => ?_⟩
      have hbk1 := u1 _ _ nkb hbk'
      have hq1 := u1 _ _ nqb hq'
      refine ⟨_, rfl, _, rfl, _, _, _, _, rfl, rfl, SqT.of hbk1, rfl, ?_⟩
      refine ⟨b, q, _, _, rfl, B1, nqb, .inr hq1, by omega, by simpa using R.ne, ?_, fun v H2 hv B2 u2 => ?_⟩
      · rw [List.length_map]
        exact Nat.lt_of_le_of_lt R.six (by decide)
      obtain ⟨ln1, hl1, rfl⟩ := List.mem_map.mp hv
      refine ⟨_, _, rfl, ?_⟩
      have D2 := u2 _ _ nlb (u1 _ _ nlb D)
      have U2 := (u.trans u1).trans u2
      have sz : (es.map Ev.v).length < sizeLine := Nat.lt_of_le_of_lt (by rw [List.length_map]; omega : _ ≤ 1000) (by decide)
      have fin : ∀ (e : Ev) (H3 : Hp) (sp' hd' : Int) (v8 v9 v10 : Option V), Same (upd H2 l (.lst (es.map Ev.v ++ [e.v]))) H3 → Ev.ok ls e → Ev.st (sp, hd) e = (sp', hd') → sp' ≤ bound → hd' ≤ often →
          ∃ (es' : List Ev) (sp hd : Int) (u8 u9 u10 : Option V), ([some (.ref b), some (.ref bk), some (.int bound), some (.int often), some (.int many), some (.ref l), some (.int sp'), some (.int hd'), v8, v9, v10] : St) = [some (.ref b), some (.ref bk), some (.int bound), some (.int often), some (.int many), some (.ref l), some (.int sp), some (.int hd), u8, u9, u10] ∧
      Box (n + 2 * (i + 1)) H3 b ∧ H3 l = some (.lst (es'.map Ev.v)) ∧ But b H H3 ∧ (∀ e ∈ es', Ev.ok ls e) ∧ es'.length ≤ i + 1 ∧ Tame bound often es' ∧ stOf es' = (sp, hd) := fun e H3 sp' hd' v8 v9 v10 s3 h1 h2 h3 h4 => by
        refine ⟨es ++ [e], sp', hd', v8, v9, v10, rfl, ((B2.set nlb).same s3).mono (by omega), s3 _ _ (by rw [upd_same, List.map_append]; rfl), fun a o na h => s3 _ _ (kp_set (ne_of_none h hl) (U2 _ _ na h)), fun x hx => ?_, by simp; omega, tm.snoc (by rw [st, h2]; exact h3) (by rw [st, h2]; exact h4), by rw [stOf_snoc, st, h2]⟩
        rcases List.mem_append.mp hx with hx | hx
        · exact ok x hx
        · rw [List.mem_singleton.mp hx]
          exact h1
      have hst := tm es.length (Nat.le_refl _)
      rw [List.take_length, st] at hst
      dsimp only
      refine or_if _ _ (fun Q q => ⟨_, rfl, rfl, _, rfl, q⟩) (fun _ Q q => and_read _ _ (fun Q q => ⟨_, rfl, _, rfl, _, _, rfl, rfl, _, rfl, _, _, rfl, rfl, _, rfl, q⟩) (fun _ Q q => ⟨_, rfl, _, _, rfl, rfl, _, rfl, q⟩) q) (fun e => ?_) (fun e => ?_)
      · refine ⟨_, rfl, .inl ⟨rfl, _, SqL.of D2⟩, _, _, _, rfl, rfl, D2, sz, ?_⟩
        exact ⟨szl 2 rfl, fun p hp => ⟨_, _, rfl, SqT.of upd_same, rfl, _, _, rfl, _, _, rfl, rfl, fin .look _ 0 0 _ _ _ (same_new hp) trivial rfl hb0 ho0⟩⟩
      · try dsimp only
        refine and_if _ _ (fun Q q => ⟨_, rfl, rfl, _, rfl, q⟩) (fun _ Q q => ⟨_, rfl, _, rfl, _, _, rfl, rfl, _, rfl, q⟩) (fun e0 e1 => ?_) (fun e1 => ?_)
        · refine ⟨_, rfl, .inl ⟨rfl, _, SqL.of D2⟩, _, _, _, rfl, rfl, D2, sz, ?_⟩
          have hlt : hd < often := of_decide_eq_true e1
          exact ⟨_, rfl, _, _, rfl, rfl, fin .rot _ sp (hd + 1) _ _ _ (Same.refl _) trivial rfl hst.1 (by omega)⟩
        · refine ⟨_, rfl, _, rfl, _, _, rfl, rfl, _, rfl, _, _, rfl, rfl, _, rfl, ite2 (fun e2 => ?_) (fun e2 => ?_)⟩
          · have hle : sp + ln1 ≤ bound := of_decide_eq_true e2
            refine ⟨_, rfl, .inl ⟨rfl, _, SqL.of D2⟩, _, rfl, _, _, _, rfl, rfl, D2, sz, ?_⟩
            exact ⟨_, rfl, _, rfl, _, _, rfl, rfl, fin (.line ln1) _ (sp + ln1) hd _ _ _ (Same.refl _) hl1 rfl hle hst.2⟩
          · exact ⟨es, sp, hd, _, _, _, rfl, B2.mono (by omega), D2, U2, ok, by omega, tm, st⟩
    · rintro σ H' ⟨es, sp, hd, v8, v9, v10, rfl, BB, D, u, ok, ln, tm, st⟩
      refine ⟨_, rfl, _, _, rfl, .inl ⟨SqL.of D, fun t ht => ?_⟩⟩
      exact k t es _ upd_same ok (by omega) tm (BB.new ht) (u.trans (But.new ht))

end
end My

namespace My
open PySem L2
section
variable {P : Program} {w : World} {K : PySem.W.Frag} {mg : Str → Option Value} {base : Heap}

theorem ok_Lrun {f : Addr} {fd : FuncData} (T : Txt K mg) (F : Fun K "_law_run" "_law_run" s_Lrun f fd) : FnOk P w K mg base CX0 1 f fd ["_law_book_here", "_law_many", "_law_tale_here"] sp_run := by
  refine F.ok sc_Lrun (fun vs H Q E h => ?_) (fun cdv A outer s H vs Q E hr h => ?_)
  · obtain ⟨bk, t, S, ls, many, es, rfl, _⟩ := h
    rfl
  · obtain ⟨bk, t, S, ls, many, es, rfl, ⟨q, hbk, hq⟩, hm0, ht, hes, k⟩ := h
    have nd := sc_Lrun.nd
    refine ⟨_, (pss_cons (ps_asg (pe_tup (pa_cons (pe_lst (pa_cons (pe_tup (pa_cons (pe_lst pa_nil) (pa_cons (pe_op op_sub pe_int pe_int) pa_nil))) pa_nil)) (pa_cons (pe_lst pa_nil) (pa_cons (pe_lst pa_nil) (pa_cons pe_int (pa_cons pe_int (pa_cons pe_int pa_nil))))))) (pg_tup (by rfl) (pgs_cons (pg_name (i := 3) nd rfl (Or.inl rfl)) (pgs_cons (pg_name (i := 4) nd rfl (Or.inr rfl)) (pgs_cons (pg_name (i := 5) nd rfl (Or.inl rfl)) (pgs_cons (pg_name (i := 6) nd rfl (Or.inl rfl)) (pgs_cons (pg_name (i := 7) nd rfl (Or.inr rfl)) (pgs_cons (pg_name (i := 8) nd rfl (Or.inl rfl)) pgs_nil))))))))
(pss_cons (ps_for PassesOwn.never rfl (pi_tup (pv 2)) (pg_name (i := 9) nd rfl (Or.inl rfl))
(pss_cons (ps_if (pt_cmpR op_eq (pv 9) pe_str (nomark _))
(pss_cons (ps_set (i := 7) nd rfl (Or.inr rfl) (pe_op op_add (pv 7) pe_int))
(pss_one ps_continue))
pss_nil)
(pss_cons (ps_if (PW.pt (pw_or (pt_cmpR op_eq (pv 9) pe_str (nomark _)) (pw_or1 (pt_cmpR op_gt (pe_op op_add (pv 6) (pv 9)) (pe_ix ix_tup (pv 0) pe_int (fun _ _ => rfl)) (nomark _)))))
(pss_cons (ps_par3 (i := 3) (j := 6) (l := 8) rfl nd rfl rfl rfl (by decide) (by decide) (by decide) rfl rfl rfl (pa_cons (pe_op op_cat (pv 3) (pe_lst (pa_cons (pe_tup (pa_cons (pe_lst pa_nil) (pa_cons (pv 7) pa_nil))) pa_nil))) (pa_cons pe_int (pa_cons (pe_op op_add (pv 8) pe_int) pa_nil))) (by rfl))
(pss_one (ps_while PassesOwn.never (pt_cmpR op_gt (pe_callB call_len_seq (by rfl) T.n_len (by decide +kernel) (pa_cons (pv 3) pa_nil)) (pe_op op_add (pv 1) pe_int) (nomark _))
(pss_cons (ps_asg (pe_bm PySem.F.plainAttrs_list PySem.F.slot_list_pop PySem.F.type_list_pop mt_popAt (pv 3) (pa_cons pe_int pa_nil)) (pg_tup (by rfl) (pgs_cons (pg_name (i := 10) nd rfl (Or.inl rfl)) (pgs_cons (pg_name (i := 11) nd rfl (Or.inr rfl)) pgs_nil))))
(pss_one (ps_expr (pe_bm PySem.F.plainAttrs_list PySem.F.slot_list_extend PySem.F.type_list_extend mt_extend (pv 5) (pa_cons (pe_lc (own := [("_law_number", 14)]) (g := gName 14) rfl nd (pi_list (pv 10)) (blkOk_by (own := [("_law_number", 14)]) (N := N_Lrun) (sc := defScope s_Lrun) (by decide +kernel)) (fun _ _ _ _ _ => pg_name (i := 14) nd rfl (Or.inl rfl)) (fun _ _ _ _ _ => pts_one (pt_cmpR op_eq (pe_ix (ix_listK (K := K) rfl) (pv 4) (pv 14) (fun _ _ => rfl)) (pv 7) (nomark _))) (fun _ _ _ _ _ => (pe_tup (pa_cons (pv 14) (pa_cons (pe_cmpR op_eq (pv 11) (pv 7) (nomark _)) pa_nil))))) pa_nil))))))))
pss_nil)
(pss_one (ps_if (pt_cmpR op_ne (pv 9) pe_str (nomark _))
(pss_cons (ps_expr (pe_bm PySem.F.plainAttrs_list PySem.F.slot_list_append PySem.F.type_list_append mt_append (pe_ix ix_seq (pe_ix ix_list (pv 3) (pe_un un_neg pe_int) (fun _ _ => rfl)) pe_int (fun _ _ => rfl)) (pa_cons (pe_callB call_len_seq (by rfl) T.n_len (by decide +kernel) (pa_cons (pv 4) pa_nil)) pa_nil)))
(pss_cons (ps_expr (pe_bm PySem.F.plainAttrs_list PySem.F.slot_list_append PySem.F.type_list_append mt_append (pv 4) (pa_cons (pv 7) pa_nil)))
(pss_one (ps_set (i := 6) nd rfl (Or.inl rfl) (pe_op op_add (pv 6) (pv 9))))))
pss_nil)))))
(pss_cons (ps_setLc (i := 12) (own := [("_law_number", 14), ("_law_is_new", 15)]) (g := (gTup K 2 (gCons (gName 14) (gCons (gName 15) gNil)))) rfl nd rfl rfl (sw_true rfl rfl rfl (by decide +kernel)) (pi_list (pv 5)) (blkOk_by (own := [("_law_number", 14), ("_law_is_new", 15)]) (N := N_Lrun) (sc := defScope s_Lrun) (by decide +kernel)) (fun _ _ _ _ _ => pg_tup rfl (pgs_cons (pg_name (i := 14) nd rfl (Or.inl rfl)) (pgs_cons (pg_name (i := 15) nd rfl (Or.inl rfl)) pgs_nil))) (fun _ _ _ _ _ => pts_one (pt_val (pv 15))) (fun _ _ _ _ _ => (pv 14)))
(pss_cons (ps_set (i := 13) nd rfl (Or.inl rfl) (pe_callTy call_tuple_of (by rfl) T.n_tuple (by decide +kernel) (pa_cons (pe_lc (own := [("_law_numbers", 10), ("_law_begun", 11)]) (g := (gTup K 2 (gCons (gName 10) (gCons (gName 11) gNil)))) (tt := tYes) rfl nd (pi_list (pv 3)) (blkOk_by (own := [("_law_numbers", 10), ("_law_begun", 11)]) (N := N_Lrun) (sc := defScope s_Lrun) (by decide +kernel)) (fun _ _ _ _ _ => pg_tup rfl (pgs_cons (pg_name (i := 10) nd rfl (Or.inl rfl)) (pgs_cons (pg_name (i := 11) nd rfl (Or.inl rfl)) pgs_nil))) (fun _ _ _ _ _ => pts_nil) (fun _ _ _ _ _ => (pe_callTy (call_tupleK (K := K) rfl) (by rfl) T.n_tuple (by decide +kernel) (pa_cons (pv 10) pa_nil)))) pa_nil)))
(pss_one (ps_ret (pe_tup (pa_cons (pv 13) (pa_cons (pe_callTy call_tuple_of (by rfl) T.n_tuple (by decide +kernel) (pa_cons (pe_callB cr_sortedI (by rfl) T.n_sorted (by decide +kernel) (pa_cons (pe_lc (own := [("_law_number", 14), ("_law_is_new", 15)]) (g := (gTup K 2 (gCons (gName 14) (gCons (gName 15) gNil)))) (tt := tYes) rfl nd (pi_list (pv 5)) (blkOk_by (own := [("_law_number", 14), ("_law_is_new", 15)]) (N := N_Lrun) (sc := defScope s_Lrun) (by decide +kernel)) (fun _ _ _ _ _ => pg_tup rfl (pgs_cons (pg_name (i := 14) nd rfl (Or.inl rfl)) (pgs_cons (pg_name (i := 15) nd rfl (Or.inl rfl)) pgs_nil))) (fun _ _ _ _ _ => pts_nil) (fun _ _ _ _ _ => (pv 14))) pa_nil)) pa_nil)) (pa_cons (pe_callTy call_tuple_of (by rfl) T.n_tuple (by decide +kernel) (pa_cons (pe_callB cr_sortedI (by rfl) T.n_sorted (by decide +kernel) (pa_cons (pv 12) pa_nil)) pa_nil)) (pa_cons (pv 8) pa_nil))))))))))), ?_⟩
    refine ⟨Nat.zero_le _, fun c0 hc0 => ⟨_, _, rfl, rfl, szl 2 rfl, fun t0 ht0 => ⟨szl 1 rfl, fun F0 hF0 => ⟨Nat.zero_le _, fun P1 hP => ⟨Nat.zero_le _, fun G hG => ⟨szl 6 rfl, fun p6 hp6 => ?_⟩⟩⟩⟩⟩⟩
    refine ⟨_, _, rfl, SqT.of upd_same, rfl, _, _, rfl, _, _, rfl, _, _, rfl, _, _, rfl, _, _, rfl, _, _, rfl, rfl, ?_⟩
    have R0 : RunAt H (upd (upd (upd (upd (upd (upd H c0 (.lst [])) t0 (.tup [.ref c0, .int (0 - 1)])) F0 (.lst [.ref t0])) P1 (.lst [])) G (.lst [])) p6 (.tup [.ref F0, .ref P1, .ref G, .int 0, .int 0, .int 0])) F0 P1 G c0 [] [] t0 RS.init := by
      have s1 := same_new (u := HO.lst []) hc0
      have s2 := same_new (u := HO.tup [.ref c0, .int (0 - 1)]) ht0
      have s3 := same_new (u := HO.lst [.ref t0]) hF0
      have s4 := same_new (u := HO.lst []) hP
      have s5 := same_new (u := HO.lst []) hG
      have s6 := same_new (u := HO.tup [.ref F0, .ref P1, .ref G, .int 0, .int 0, .int 0]) hp6
      have a1 := s1.trans s2
      have a2 := a1.trans s3
      have a3 := a2.trans s4
      exact ⟨s6 _ _ (s5 _ _ (s4 _ _ upd_same)), s6 _ _ (s5 _ _ (s4 _ _ (s3 _ _ upd_same))), s6 _ _ (s5 _ _ (s4 _ _ (s3 _ _ (s2 _ _ upd_same)))), s6 _ _ (s5 _ _ upd_same), s6 _ _ upd_same, .nil, .nil,
        ⟨ne_of_none (s3 _ _ (s2 _ _ upd_same)) hP, ne_of_none (s4 _ _ (s3 _ _ (s2 _ _ upd_same))) hG, ne_of_none (s2 _ _ upd_same) hF0, ne_of_none upd_same hG, (ne_of_none upd_same hP).symm, (ne_of_none (s4 _ _ upd_same) hG).symm⟩,
        ⟨none_of a1 hF0, none_of a2 hP, none_of a3 hG, hc0⟩, (a3.trans s5).trans s6⟩
    have s0 := R0.sm
    refine ⟨_, rfl, _, rfl, ⟨_, SqT.of (R0.sm _ _ ht)⟩, for_tup (a := t) (xs := es.map Ev.v) (fun i σ H' => ∃ (F c : Addr) (ov gv : List V) (tt : Addr) (v9 v10 v11 : Option V), σ = [some (.ref bk), some (.int many), some (.ref t), some (.ref F), some (.ref P1), some (.ref G), some (.int (RS.run S many.toNat (es.take i)).fill), some (.int (RS.run S many.toNat (es.take i)).here), some (.int (RS.run S many.toNat (es.take i)).turns), v9, v10, v11, none, none, none, none] ∧ RunAt H H' F P1 G c ov gv tt (RS.run S many.toNat (es.take i)))
      ⟨F0, c0, [], [], t0, none, none, none, rfl, R0⟩ (fun i σ H' _ ⟨_, _, _, _, _, _, _, _, _, R1⟩ => SqT.of (R1.sm _ _ ht)) ?_ ?_⟩
    · rintro i v σ H' hi ⟨F, c, ov, gv, tt, v9, v10, v11, rfl, R1⟩
      have hil : i < es.length := by
        have z := (List.getElem?_eq_some_iff.mp hi).1
        rwa [List.length_map] at z
      have ev : v = es[i].v := by
        rw [List.getElem?_map, List.getElem?_eq_getElem hil] at hi
        exact (Option.some.inj hi).symm
      subst ev
      have tk : es.take (i + 1) = es.take i ++ [es[i]] := by rw [List.take_add_one, List.getElem?_eq_getElem hil]; rfl
      rw [tk, RS.run_snoc]
      have ok := RS.Ok.run S many.toNat (es.take i)
      rw [List.length_take, Nat.min_eq_left (Nat.le_of_lt hil)] at ok
      generalize es[i] = e
      generalize RS.run S many.toNat (es.take i) = r at R1 ok
      by_cases el : e = .look
      · subst el
        exact ⟨_, rfl, rfl, _, rfl, iteA rfl ⟨_, rfl, _, _, rfl, rfl, F, c, ov, gv, tt, _, v10, v11, rfl, ⟨R1.hF, R1.ht, R1.hc, R1.hP, R1.hG, R1.po, R1.pg, R1.ne, R1.fr, R1.sm⟩⟩⟩
      have el2 : ¬ e.v = .str "look" := by
        cases e with
        | look => exact absurd rfl el
        | rot => decide +kernel
        | line l => intro z; cases z
      refine ⟨_, rfl, e.sc _, _, rfl, iteN el2 ?_⟩
      dsimp only [tNext, tSeq]
      let Hy : St → Hp → Prop := fun σ H2 => ∃ (r' : RS) (F c : Addr) (ov gv : List V) (t' : Addr) (w10 w11 : Option V), σ = [some (.ref bk), some (.int many), some (.ref t), some (.ref F), some (.ref P1), some (.ref G), some (.int r'.fill), some (.int r'.here), some (.int r'.turns), some e.v, w10, w11, none, none, none, none] ∧ RunAt H H2 F P1 G c ov gv t' r' ∧ r' = (if e.v = .str "rotate" ∨ S < r.fill + e.n then RS.trim many.toNat r.turn else r)
      apply join2 Hy
      case use =>
        intro rest
        refine or_if _ (decide (S < r.fill + e.n)) (fun Q q => ⟨_, rfl, e.sc _, _, rfl, q⟩) (fun e1 Q q => ?a1) (fun e1 => ?a2) (fun e1 => ?a3)
        case a3 =>
          rw [Bool.or_eq_false_iff, decide_eq_false_iff_not, decide_eq_false_iff_not] at e1
          dsimp only [tNext]
          exact rest _ _ ⟨r, F, c, ov, gv, tt, v10, v11, rfl, R1, (if_neg fun z => z.elim e1.1 e1.2).symm⟩
        case a1 =>
          obtain ⟨l, rfl⟩ : ∃ l, e = .line l := by
            cases e with
            | look => exact absurd rfl el
            | rot => exact absurd rfl (of_decide_eq_false e1)
            | line l => exact ⟨l, rfl⟩
          exact ⟨_, rfl, _, rfl, _, _, rfl, rfl, _, rfl, _, _, _, _, rfl, rfl, SqT.of (R1.sm _ _ hbk), atI_nat (j := 0) rfl, _, _, rfl, rfl, _, rfl, q⟩
        case a2 =>
          have cnd : e.v = .str "rotate" ∨ S < r.fill + e.n := by
            rw [Bool.or_eq_true, decide_eq_true_eq, decide_eq_true_eq] at e1
            exact e1
          have olen : ov.length = r.old.length := Paired.length R1.po
          have o2 := ok.o2
          refine ⟨_, rfl, Nat.zero_le _, fun c' hc' => ⟨_, rfl, szl 2 rfl, fun t' ht' => ⟨szl 1 rfl, fun L hL => ?_⟩⟩⟩
          refine ⟨_, _, _, _, rfl, rfl, kp_new hL (kp_new ht' (kp_new hc' R1.hF)), upd_same, ?_, fun F' hF' => ⟨_, rfl, _, _, rfl, rfl, ?_⟩⟩
          · rw [List.length_append, List.length_singleton, List.length_singleton]
            exact Nat.le_trans (by omega : _ ≤ 1002) (by decide)
          have R2 := R1.turn hc' rfl ht' rfl hL rfl hF' rfl
          refine ⟨_, _, _, rfl, ?_⟩
          generalize (upd (upd (upd (upd H' c' (HO.lst [])) t' (HO.tup [V.ref c', V.int r.here])) L (HO.lst [V.ref t'])) F' (HO.lst (ov ++ [V.ref tt] ++ [V.ref t']))) = H4 at R2
          generalize ov ++ [V.ref tt] = ow at R2
          have ok1 := ok.turn
          show tWhile _ _ _ _ _
          refine ⟨fun m σ H1 => (m = 1 ∧ σ = [some (.ref bk), some (.int many), some (.ref t), some (.ref F'), some (.ref P1), some (.ref G), some (.int 0), some (.int r.here), some (.int (r.turns + 1)), some e.v, v10, v11, none, none, none, none] ∧ RunAt H H1 F' P1 G c' ow gv t' r.turn) ∨
            (m = 0 ∧ ∃ f o ov' gv' w10 w11, r.turn.old = f :: o ∧ many.toNat < r.turn.old.length ∧ σ = [some (.ref bk), some (.int many), some (.ref t), some (.ref F'), some (.ref P1), some (.ref G), some (.int 0), some (.int r.here), some (.int (r.turns + 1)), some e.v, w10, w11, none, none, none, none] ∧ RunAt H H1 F' P1 G c' ov' gv' t' (r.turn.drop f o)), ⟨1, .inl ⟨rfl, rfl, R2⟩⟩, ?_⟩
          rintro m σ H1 (⟨rfl, rfl, R3⟩ | ⟨rfl, f, o, ov', gv', w10, w11, eo, lo, rfl, R3⟩)
          · have wlen : ow.length = r.turn.old.length := Paired.length R3.po
            refine ⟨_, rfl, _, _, rfl, .inl (SqL.of R3.hF), _, rfl, _, _, rfl, rfl, _, _, rfl, rfl, _, rfl, ite2 (fun e2 => ?_) (fun e2 => ?_)⟩
            · have lo : many.toNat < r.turn.old.length := by
                have := of_decide_eq_true e2
                rw [List.length_append, List.length_singleton] at this
                omega
              refine ⟨fun σ H1 => ∃ f o ov' gv' w10 w11, r.turn.old = f :: o ∧ many.toNat < r.turn.old.length ∧ σ = [some (.ref bk), some (.int many), some (.ref t), some (.ref F'), some (.ref P1), some (.ref G), some (.int 0), some (.int r.here), some (.int (r.turns + 1)), some e.v, w10, w11, none, none, none, none] ∧ RunAt H H1 F' P1 G c' ov' gv' t' (r.turn.drop f o), fun σ' H2 h => ⟨0, by decide, .inr ⟨rfl, h⟩⟩, ?_⟩
              cases eo : r.turn.old with
              | nil => rw [eo] at lo; exact absurd lo (by simp)
              | cons f o =>
                have po := R3.po
                rw [eo] at po
                cases po with
                | @cons vf _ ow' _ hf pr =>
                  obtain ⟨tf, cf, rfl, htf, hcf, ncf⟩ := hf
                  refine ⟨_, rfl, .inl ⟨rfl, _, SqL.of R3.hF⟩, _, _, _, 0, _, rfl, rfl, R3.hF, by decide, by decide, seq0 _ (by simp), rfl, ?_⟩
                  have nf : cf ≠ F' := fun z => ncf (by simp [z])
                  have cn := R3.ne
                  refine ⟨_, _, rfl, SqT.of (kp_set (tup_ne htf R3.hF) htf), rfl, _, _, rfl, _, _, rfl, rfl, ?_⟩
                  have hG1 : (upd H1 F' (HO.lst (List.eraseIdx (V.ref tf :: ow' ++ [V.ref t']) 0))) G = some (.lst gv) := kp_set cn.2.2.2.2.2 R3.hG
                  have hP1 : (upd H1 F' (HO.lst (List.eraseIdx (V.ref tf :: ow' ++ [V.ref t']) 0))) P1 = some (.lst (r.places.map V.int)) := kp_set cn.2.2.2.2.1 R3.hP
                  have hC1 : (upd H1 F' (HO.lst (List.eraseIdx (V.ref tf :: ow' ++ [V.ref t']) 0))) cf = some (.lst (f.1.map V.int)) := kp_set nf hcf
                  have hF1 : (upd H1 F' (HO.lst (List.eraseIdx (V.ref tf :: ow' ++ [V.ref t']) 0))) F' = some (.lst (ow' ++ [.ref t'])) := upd_same
                  have bF : Buts [F', G] H1 (upd H1 F' (HO.lst (List.eraseIdx (V.ref tf :: ow' ++ [V.ref t']) 0))) := fun a o n h => kp_set (fun z => n (by simp [z])) h
                  generalize (upd H1 F' (HO.lst (List.eraseIdx (V.ref tf :: ow' ++ [V.ref t']) 0))) = H5 at hG1 hP1 hC1 hF1 bF
                  have fmem : f ∈ r.turn.old := by rw [eo]; exact List.mem_cons_self
                  have flen : f.1.length ≤ 1000 := by
                    have h1 := ok1.tot
                    have h2 := ok1.pl
                    rw [eo] at h1
                    unfold RS.cnt at h1
                    rw [List.map_cons, List.sum_cons] at h1
                    omega
                  refine ⟨_, rfl, .inl ⟨rfl, _, SqL.of hG1⟩, _, rfl, _, rfl, ⟨_, SqL.of hC1⟩, fun D hD => lc_list (a := cf) (xs := f.1.map V.int) (fun j H' => ∃ gn, H' D = some (.lst gn) ∧ Paired (GoneAt H') gn (RS.lost r.places r.here (f.1.take j, f.2)) ∧ Same H5 H') ⟨[], upd_same, .nil, same_new hD⟩ (fun j H' _ ⟨_, _, _, s⟩ => SqL.of (s _ _ hC1)) ?_ ?_⟩
                  · rintro j v H6 hj ⟨gn, D6, pg, s6⟩
                    have hjl : j < f.1.length := by
                      have z := (List.getElem?_eq_some_iff.mp hj).1
                      rwa [List.length_map] at z
                    have ev : v = .int f.1[j] := by
                      rw [List.getElem?_map, List.getElem?_eq_getElem hjl] at hj
                      exact (Option.some.inj hj).symm
                    subst ev
                    have hm : f.1[j] ∈ f.1 := List.getElem_mem hjl
                    have tk : f.1.take (j + 1) = f.1.take j ++ [f.1[j]] := by rw [List.take_add_one, List.getElem?_eq_getElem hjl]; rfl
                    rw [tk]
                    rw [lost_snoc]
                    generalize f.1[j] = n at hm
                    obtain ⟨n0, n1⟩ := ok1.fs f fmem n hm
                    refine ⟨rfl, _, rfl, _, rfl, _, _, _, _, rfl, rfl, SqL.of (s6 _ _ hP1), at_map n0 n1, _, rfl, rfl, _, rfl, ite2 (fun e3 => ?_) (fun e3 => ?_)⟩
                    · have e4 : r.places.getD n.toNat 0 = r.here := by
                        rw [dec_vi] at e3
                        exact of_decide_eq_true e3
                      refine ⟨_, rfl, _, rfl, _, rfl, rfl, szl 2 rfl, fun tp htp => ?_⟩
                      have glen : gn.length ≤ 1000 := by
                        rw [Paired.length pg]
                        exact Nat.le_trans (RS.lost_len _ _ _) (by simp; omega)
                      refine ⟨gn, kp_new htp D6, Nat.lt_of_le_of_lt glen (by decide), gn ++ [.ref tp], upd_same, ?_, fun a o h => kp_set (ne_of_none h hD) (kp_new htp (s6 _ _ h))⟩
                      have ntD : tp ≠ D := fun z => by rw [z, D6] at htp; cases htp
                      rw [if_pos e4]
                      refine Paired.snoc (Paired.mapP pg fun v p ⟨a, ea, ha⟩ => ⟨a, ea, kp_set (tup_ne ha D6) (kp_new htp ha)⟩) ⟨tp, rfl, ?_⟩
                      rw [kp_set ntD upd_same, dec_vi]
                    · have e4 : ¬ r.places.getD n.toNat 0 = r.here := fun z => e3 (by rw [dec_vi]; exact decide_eq_true z)
                      rw [if_neg e4, List.append_nil]
                      exact ⟨gn, D6, pg, s6⟩
                  · rintro H6 ⟨gn, D6, pg, s6⟩
                    have tk : f.1.take (f.1.map V.int).length = f.1 := by rw [List.length_map, List.take_length]
                    rw [tk] at pg
                    have glen : gn.length ≤ 1000 := by
                      rw [Paired.length pg]
                      exact Nat.le_trans (RS.lost_len _ _ _) flen
                    have gvlen : gv.length ≤ 1000 := by
                      rw [Paired.length R3.pg]
                      have h1 := ok1.tot
                      have h2 := ok1.pl
                      omega
                    have nFG := cn.2.2.2.2.2
                    refine ⟨_, _, _, _, rfl, rfl, s6 _ _ hG1, D6, Nat.le_trans (by omega : _ ≤ 2000) (by decide), ?_⟩
                    refine ⟨f, o, ow', gv ++ gn, _, _, rfl, eo ▸ lo, rfl, R3.drop eo (fun a u n h => kp_set (fun z => n (by simp [z])) (s6 _ _ (bF _ _ n h))) (kp_set (fun z => nFG z.symm) (s6 _ _ hF1)) upd_same ?_⟩
                    exact Paired.mapP pg fun v p ⟨a, ea, ha⟩ => ⟨a, ea, kp_set (tup_ne ha (s6 _ _ hG1)) ha⟩
            · have lo : r.turn.old.length ≤ many.toNat := by
                have : ¬ many + 1 < ((ow ++ [V.ref t']).length : Nat) := fun z => e2 (decide_eq_true z)
                rw [List.length_append, List.length_singleton] at this
                omega
              exact rest _ _ ⟨r.turn, F', c', ow, gv, t', v10, v11, rfl, R3, by rw [if_pos cnd, RS.trim_keep lo]⟩
          · have wlen : ov'.length = o.length := Paired.length R3.po
            have lo2 : o.length ≤ many.toNat := by
              have := ok1.o1
              rw [eo, List.length_cons] at this
              omega
            refine ⟨_, rfl, _, _, rfl, .inl (SqL.of R3.hF), _, rfl, _, _, rfl, rfl, _, _, rfl, rfl, _, rfl, ite2 (fun e2 => ?_) (fun e2 => ?_)⟩
            · have : many + 1 < ((ov' ++ [V.ref t']).length : Nat) := of_decide_eq_true e2
              rw [List.length_append, List.length_singleton] at this
              omega
            · exact rest _ _ ⟨r.turn.drop f o, F', c', ov', gv', t', w10, w11, rfl, R3, by rw [if_pos cnd, RS.trim_drop eo lo]⟩
      case rest =>
        rintro σ2 H2 ⟨r', F', c', ov', gv', t', w10, w11, rfl, R4, er⟩
        have pl : r'.places.length ≤ 1000 := by
          have h := ok.pl
          rw [er]
          split
          · rw [RS.trim_places]
            exact Nat.le_trans h (by omega)
          · exact Nat.le_trans h (by omega)
        have cl : r'.cur.length ≤ 1000 := by
          have h := ok.tot
          have h2 := ok.pl
          rw [er]
          split
          · have := ok.turn.trim.tot
            rw [RS.trim_places] at this
            have h3 : r.turn.places.length = r.places.length := rfl
            omega
          · omega
        have cn := R4.ne
        refine ⟨_, rfl, e.sc _, _, rfl, ?_⟩
        cases e with
        | look => exact absurd rfl el
        | rot =>
          refine iteNS rfl ?_
          have e2 : r' = RS.step S many.toNat r .rot := er.trans (if_pos (.inl rfl))
          rw [← e2]
          exact ⟨F', c', ov', gv', t', _, w10, w11, rfl, R4⟩
        | line l =>
          refine iteNA (fun z => by cases z) ?_
          have e2 : r'.add l = RS.step S many.toNat r (.line l) := by
            rw [er]
            show RS.add l _ = RS.add l _
            congr 1
            by_cases hlt : S < r.fill + l
            · rw [if_pos hlt, if_pos (.inr hlt)]
            · rw [if_neg hlt, if_neg fun z => z.elim (fun y => by cases y) hlt]
          rw [← e2]
          refine ⟨_, rfl, _, rfl, _, _, _, _, rfl, rfl, SqL.of R4.hF, atI_last _ _, ?_⟩
          refine .inr (.inl ⟨_, _, _, _, rfl, rfl, SqT.of R4.ht, atI_nat (j := 0) rfl, ?_⟩)
          refine ⟨.inl ⟨rfl, _, SqL.of R4.hc⟩, _, rfl, _, _, rfl, .inl (SqL.of R4.hP), _, _, _, rfl, rfl, R4.hc, Nat.lt_of_le_of_lt (by rw [List.length_map]; exact cl) (by decide : 1000 < sizeLine), ?_⟩
          refine ⟨_, rfl, .inl ⟨rfl, _, SqL.of (kp_set (fun z => cn.1 z.symm) R4.hP)⟩, _, rfl, _, _, _, rfl, rfl, kp_set (fun z => cn.1 z.symm) R4.hP, Nat.lt_of_le_of_lt (by rw [List.length_map]; exact pl) (by decide : 1000 < sizeLine), ?_⟩
          refine ⟨_, rfl, _, rfl, _, _, rfl, rfl, ?_⟩
          exact ⟨F', c', ov', gv', t', _, w10, w11, rfl, R4.add l (by rw [List.length_map]; show _ = (r'.cur ++ [(r'.places.length : Int)]).map V.int; rw [List.map_append]; rfl) (by show _ = (r'.places ++ [r'.here]).map V.int; rw [List.map_append]; rfl)⟩
    · rintro σ H1 ⟨F, c, ov, gv, tt, v9, v10, v11, rfl, R1⟩
      have tk : es.take (es.map Ev.v).length = es := by rw [List.length_map, List.take_length]
      rw [tk] at R1 ⊢
      have ok := RS.Ok.run S many.toNat es
      generalize RS.run S many.toNat es = r at R1 ok k
      have gl : r.gone.length ≤ 1000 := by
        have h1 := ok.tot
        have h2 := ok.pl
        omega
      have gvl : gv.length = r.gone.length := Paired.length R1.pg
      have tkg : r.gone.take gv.length = r.gone := by rw [gvl, List.take_length]
      refine ⟨_, rfl, _, rfl, ⟨_, SqL.of R1.hG⟩, fun D1 hD1 => lc_list (a := G) (xs := gv) (fun j H' => H' D1 = some (.lst ((((r.gone.take j).filter Prod.snd).map Prod.fst).map V.int)) ∧ Same H1 H') ⟨upd_same, same_new hD1⟩ (fun j H' _ ⟨_, s⟩ => SqL.of (s _ _ R1.hG)) ?_ ?_⟩
      · rintro j v H2 hj ⟨d1, s2⟩
        obtain ⟨p, hp, tp, rfl, htp⟩ := pairs_get R1.pg hj
        have ll : ((((r.gone.take j).filter Prod.snd).map Prod.fst).map V.int).length < sizeLine := by
          rw [List.length_map, List.length_map]
          refine Nat.lt_of_le_of_lt (List.length_filter_le _ _) (Nat.lt_of_le_of_lt ?_ (by decide : 1000 < sizeLine))
          rw [List.length_take]
          omega
        refine ⟨_, _, rfl, SqT.of (s2 _ _ htp), rfl, _, _, rfl, _, _, rfl, rfl, rfl, _, rfl, _, rfl, ite2 (fun e => ?_) (fun e => ?_)⟩
        · refine ⟨_, rfl, _, d1, ll, ?_, fun a o h => kp_set (ne_of_none h hD1) (s2 _ _ h)⟩
          rw [upd_same, take_at hp, List.filter_append, List.filter_cons_of_pos e, List.map_append, List.map_append]
          rfl
        · refine ⟨?_, s2⟩
          rw [take_at hp, List.filter_append, List.filter_cons_of_neg e]
          simpa using d1
      · rintro H2 ⟨d1, s2⟩
        rw [tkg] at d1
        have R2 := R1.same s2
        have fl : Paired (fun v (f : List Int × Int) => ∃ t c, v = V.ref t ∧ H2 t = some (.tup [.ref c, .int f.2]) ∧ H2 c = some (.lst (f.1.map V.int))) (ov ++ [.ref tt]) (r.old ++ [(r.cur, r.beg)]) :=
          Paired.snoc (Paired.mapP R2.po fun v f ⟨t, c, h1, h2, h3, _⟩ => ⟨t, c, h1, h2, h3⟩) ⟨tt, c, rfl, R2.ht, R2.hc⟩
        have fe : (r.old ++ [(r.cur, r.beg)]).map Prod.fst = r.old.map Prod.fst ++ [r.cur] := by rw [List.map_append]; rfl
        rw [← fe] at k
        have fll : (ov ++ [V.ref tt]).length = (r.old ++ [(r.cur, r.beg)]).length := Paired.length fl
        have fb : (r.old ++ [(r.cur, r.beg)]).length ≤ 1001 := by
          rw [List.length_append, List.length_singleton]
          have := ok.o2
          omega
        have hF2 := R2.hF
        generalize r.old ++ [(r.cur, r.beg)] = files at fl fe k fll fb
        generalize ov ++ [V.ref tt] = fv0 at fl hF2 fll
        refine ⟨_, rfl, _, rfl, ⟨_, SqL.of hF2⟩, fun D2 hD2 => lc_list (a := F) (xs := fv0) (fun j H' => ∃ acc, H' D2 = some (.lst acc) ∧ Paired (TupsAt H') acc ((files.take j).map Prod.fst) ∧ Same H2 H') ⟨[], upd_same, .nil, same_new hD2⟩ (fun j H' _ ⟨_, _, _, s⟩ => SqL.of (s _ _ hF2)) ?_ ?_⟩
        · rintro j v H3 hj ⟨acc, d2, pa, s3⟩
          obtain ⟨f, hf, tf, cf, rfl, htf, hcf⟩ := pairs_get fl hj
          refine ⟨_, _, rfl, SqT.of (s3 _ _ htf), rfl, _, _, rfl, _, _, rfl, rfl, rfl, ?_⟩
          have al : acc.length < sizeLine := by
            rw [Paired.length pa, List.length_map, List.length_take]
            exact Nat.lt_of_le_of_lt (Nat.le_trans (Nat.min_le_right _ _) fb) (by decide)
          refine ⟨_, rfl, _, _, rfl, .inl ⟨SqL.of (s3 _ _ hcf), fun u hu => ⟨acc, kp_new hu d2, al, acc ++ [.ref u], upd_same, ?_, fun a o h => kp_set (ne_of_none h hD2) (kp_new hu (s3 _ _ h))⟩⟩⟩
          have nu : u ≠ D2 := fun z => by rw [z, d2] at hu; cases hu
          rw [take_at hf, List.map_append]
          exact Paired.snoc (Paired.mapP pa fun v p ⟨a, ea, ha⟩ => ⟨a, ea, kp_set (tup_ne ha d2) (kp_new hu ha)⟩) ⟨u, rfl, kp_set nu upd_same⟩
        · rintro H3 ⟨acc, d2, pa, s3⟩
          have tkf : files.take fv0.length = files := by rw [fll, List.take_length]
          rw [tkf] at pa
          refine ⟨_, _, rfl, .inl ⟨SqL.of d2, fun fs hfs => ?_⟩⟩
          have s4 := same_new (u := HO.tup acc) hfs
          have pa4 : Paired (TupsAt (upd H3 fs (HO.tup acc))) acc (files.map Prod.fst) := Paired.mapP pa fun v p ⟨a, ea, ha⟩ => ⟨a, ea, s4 _ _ ha⟩
          have hfs4 : (upd H3 fs (HO.tup acc)) fs = some (.tup acc) := upd_same
          have d14 := s4 _ _ (s3 _ _ d1)
          have hG4 := s4 _ _ (s3 _ _ R2.hG)
          have sm4 : Same H (upd H3 fs (HO.tup acc)) := (R2.sm.trans s3).trans s4
          have R4 := (R2.same s3).same s4
          generalize upd H3 fs (HO.tup acc) = H4 at pa4 hfs4 d14 hG4 sm4 R4
          refine ⟨_, rfl, _, rfl, _, rfl, ⟨_, SqL.of hG4⟩, fun D3 hD3 => lc_list (a := G) (xs := gv) (fun j H' => H' D3 = some (.lst (((r.gone.take j).map Prod.fst).map V.int)) ∧ Same H4 H') ⟨upd_same, same_new hD3⟩ (fun j H' _ ⟨_, s⟩ => SqL.of (s _ _ hG4)) ?_ ?_⟩
          · rintro j v H5 hj ⟨d3, s5⟩
            obtain ⟨p, hp, tp, rfl, htp⟩ := pairs_get R4.pg hj
            have ll : (((r.gone.take j).map Prod.fst).map V.int).length < sizeLine := by
              rw [List.length_map, List.length_map, List.length_take]
              exact Nat.lt_of_le_of_lt (by omega) (by decide : 1000 < sizeLine)
            refine ⟨_, _, rfl, SqT.of (s5 _ _ htp), rfl, _, _, rfl, _, _, rfl, rfl, rfl, ?_⟩
            refine ⟨_, rfl, _, d3, ll, ?_, fun a o h => kp_set (ne_of_none h hD3) (s5 _ _ h)⟩
            rw [upd_same, take_at hp, List.map_append, List.map_append]
            rfl
          · rintro H5 ⟨d3, s5⟩
            rw [tkg] at d3
            refine ⟨_, _, rfl, SqL.of d3, fun ms p1 pm pw hp1 => ?_⟩
            refine ⟨_, _, rfl, .inl ⟨SqL.of upd_same, fun m2 hm2 => ?_⟩⟩
            have hm2' : (upd (upd H5 p1 (HO.lst (ms.map V.int))) m2 (HO.tup (ms.map V.int))) m2 = some (.tup (ms.map V.int)) := upd_same
            have s6 : Same H4 (upd (upd H5 p1 (HO.lst (ms.map V.int))) m2 (HO.tup (ms.map V.int))) := (s5.trans (same_new hp1)).trans (same_new hm2)
            generalize upd (upd H5 p1 (HO.lst (ms.map V.int))) m2 (HO.tup (ms.map V.int)) = H6 at hm2' s6
            refine ⟨_, rfl, _, _, rfl, SqL.of (s6 _ _ d14), fun ns p2 pn nw hp2 => ?_⟩
            refine ⟨_, _, rfl, .inl ⟨SqL.of upd_same, fun n2 hn2 => ?_⟩⟩
            have hn2' : (upd (upd H6 p2 (HO.lst (ns.map V.int))) n2 (HO.tup (ns.map V.int))) n2 = some (.tup (ns.map V.int)) := upd_same
            have s7 : Same H6 (upd (upd H6 p2 (HO.lst (ns.map V.int))) n2 (HO.tup (ns.map V.int))) := (same_new hp2).trans (same_new hn2)
            generalize upd (upd H6 p2 (HO.lst (ns.map V.int))) n2 (HO.tup (ns.map V.int)) = H7 at hn2' s7
            refine ⟨_, rfl, szl 4 rfl, fun q9 hq9 => ?_⟩
            have s8 := same_new (u := HO.tup [.ref fs, .ref m2, .ref n2, .int r.turns]) hq9
            have s68 := (s6.trans s7).trans s8
            exact k q9 fs m2 n2 acc ms ns _ upd_same (s68 _ _ hfs4) (Paired.mapP pa4 fun v p ⟨a, ea, ha⟩ => ⟨a, ea, s68 _ _ ha⟩) (s8 _ _ (s7 _ _ hm2')) pm pw (s8 _ _ hn2') pn nw (sm4.trans s68)

end
end My

namespace My
open PySem L2
section
variable {P : Program} {w : World} {K : PySem.W.Frag} {mg : Str → Option Value} {base : Heap}

theorem ok_is_rotated {f : Addr} {fd : FuncData} (T : Txt K mg) (F : Fun K "is_rotated" "is_rotated" s_is_rotated f fd) : FnOk P w K mg base CX0 1 f fd ["rules", "fill", "event"] sp_isrot := by
  refine F.ok sc_is_rotated (fun vs H Q E h => ?_) (fun cdv A outer s H vs Q E hr h => ?_)
  · obtain ⟨bk, q, S, fill, e, rfl, _⟩ := h
    rfl
  · obtain ⟨bk, q, S, fill, e, rfl, hb, k⟩ := h
    have nd := sc_is_rotated.nd
    obtain ⟨c_tk, c_ROTATE⟩ := T.c_ROTATE
    refine ⟨_, (pss_cons (ps_if (pt_val (pe_callB call_isi (by rfl) T.n_isinstance (by decide +kernel) (pa_cons (pv 2) (pa_cons (pe_bltn (v := .ty "int") (by rfl) T.n_int (by decide +kernel) rfl) pa_nil))))
(pss_one (ps_ret (pe_cmpR op_gt (pe_op op_add (pv 1) (pv 2)) (pe_ix ix_tup (pv 0) pe_int (fun _ _ => rfl)) (nomark _))))
pss_nil)
(pss_one (ps_ret (pe_cmpR op_eq (pv 2) (pe_glob (v := .str "rotate") rfl c_ROTATE ⟨_, rfl⟩) (nomark _))))), ?_⟩
    cases e with
    | line l =>
      exact ⟨_, rfl, _, _, _, _, true, rfl, .ty "int", .base (.int l), kit_ty (by decide +kernel), _, rfl, iteT ⟨_, rfl, _, rfl, _, _, rfl, rfl, _, rfl, _, _, _, _, rfl, rfl, SqT.of hb, atI_nat (j := 0) rfl, _, _, rfl, rfl, k⟩⟩
    | look =>
      exact ⟨_, rfl, _, _, _, _, false, rfl, .ty "int", .base (.str _), kit_ty (by decide +kernel), _, rfl, iteF ⟨_, rfl, rfl, k⟩⟩
    | rot =>
      exact ⟨_, rfl, _, _, _, _, false, rfl, .ty "int", .base (.str _), kit_ty (by decide +kernel), _, rfl, iteF ⟨_, rfl, rfl, k⟩⟩

theorem ok_fill_behind {f : Addr} {fd : FuncData} (T : Txt K mg) (F : Fun K "fill_behind" "fill_behind" s_fill_behind f fd) : FnOk P w K mg base CX0 2 f fd ["rules", "fill", "event"] sp_fillb := by
  refine F.ok sc_fill_behind (fun vs H Q E h => ?_) (fun cdv A outer s H vs Q E hr h => ?_)
  · obtain ⟨bk, q, S, fill, e, rfl, _⟩ := h
    rfl
  · obtain ⟨bk, q, S, fill, e, rfl, hb, k⟩ := h
    have nd := sc_fill_behind.nd
    obtain ⟨f_is_rotated, fd_is_rotated, F_is_rotated, m_is_rotated, b_is_rotated⟩ := T.d_is_rotated.ex
    have G_is_rotated := ok_is_rotated (P := P) (w := w) (mg := mg) (base := base) T F_is_rotated
    refine ⟨_, (pss_cons (ps_set (i := 3) nd rfl (Or.inl rfl) (pe_ifExp (pt_val (pe_call G_is_rotated (hr.mono (by decide)) rfl m_is_rotated F_is_rotated.kp b_is_rotated .nil pass0 (pa_cons (pv 0) (pa_cons (pv 1) (pa_cons (pv 2) pa_nil))))) pe_int (pv 1)))
(pss_one (ps_ret (pe_ifExp (pt_val (pe_callB call_isi (by rfl) T.n_isinstance (by decide +kernel) (pa_cons (pv 2) (pa_cons (pe_bltn (v := .ty "int") (by rfl) T.n_int (by decide +kernel) rfl) pa_nil)))) (pe_op op_add (pv 3) (pv 2)) (pv 3))))), ?_⟩
    refine ⟨_, rfl, _, rfl, _, rfl, bk, q, S, fill, e, rfl, hb, _, rfl, ?_⟩
    cases e with
    | line l =>
      refine ite2 (fun e1 => ?_) (fun e1 => ?_)
      · have e2 : fillB S fill (.line l) = 0 + l := by unfold fillB; rw [if_pos e1]; rfl
        exact ⟨_, rfl, _, _, _, _, true, rfl, .ty "int", .base (.int l), kit_ty (by decide +kernel), _, rfl, iteT ⟨_, rfl, _, rfl, _, _, rfl, rfl, (by rw [e2] at k; exact k)⟩⟩
      · have e2 : fillB S fill (.line l) = fill + l := by unfold fillB; rw [if_neg e1]; rfl
        exact ⟨_, rfl, _, rfl, _, _, _, _, true, rfl, .ty "int", .base (.int l), kit_ty (by decide +kernel), _, rfl, iteT ⟨_, rfl, _, rfl, _, _, rfl, rfl, (by rw [e2] at k; exact k)⟩⟩
    | look =>
      have e2 : fillB S fill .look = fill := by unfold fillB; rw [if_neg (by simp [rotd])]; exact Int.add_zero _
      exact iteF ⟨_, rfl, _, rfl, _, _, _, _, false, rfl, .ty "int", .base (.str _), kit_ty (by decide +kernel), _, rfl, iteF ⟨_, rfl, (by rw [e2] at k; exact k)⟩⟩
    | rot =>
      have e2 : fillB S fill .rot = 0 := by unfold fillB; rw [if_pos (by simp [rotd])]; rfl
      exact iteT ⟨_, rfl, _, _, _, _, false, rfl, .ty "int", .base (.str _), kit_ty (by decide +kernel), _, rfl, iteF ⟨_, rfl, (by rw [e2] at k; exact k)⟩⟩

end
end My

namespace My
open PySem L2
section
variable {P : Program} {w : World} {K : PySem.W.Frag} {mg : Str → Option Value} {base : Heap}

theorem ok_Cinit {f C : Addr} {fd : FuncData} (T : Txt K mg) (O : C_Course K mg C) (F : Fun K "__init__" "Course.__init__" s_Coursedd_initdd f fd) : FnOk P w K mg base CX0 3 f fd ["self", "rules", "history"] (sp_cinit C) := by
  refine F.ok sc_Coursedd_initdd (fun vs H Q E h => ?_) (fun cdv A outer s H vs Q E hr h => ?_)
  · obtain ⟨p, dx, bk, q, t, S, es, rfl, _⟩ := h
    rfl
  · obtain ⟨p, dx, bk, q, t, S, es, rfl, hp, hbk, ht, hes, k⟩ := h
    have nd := sc_Coursedd_initdd.nd
    obtain ⟨c_tk, c_LOOK⟩ := T.c_LOOK
    obtain ⟨f_is_rotated, fd_is_rotated, F_is_rotated, m_is_rotated, b_is_rotated⟩ := T.d_is_rotated.ex
    have G_is_rotated := ok_is_rotated (P := P) (w := w) (mg := mg) (base := base) T F_is_rotated
    obtain ⟨f_fill_behind, fd_fill_behind, F_fill_behind, m_fill_behind, b_fill_behind⟩ := T.d_fill_behind.ex
    have G_fill_behind := ok_fill_behind (P := P) (w := w) (mg := mg) (base := base) T F_fill_behind
    refine ⟨_, (pss_cons (ps_fld (pv 0) (pe_lst pa_nil) rfl)
(pss_cons (ps_fld (pv 0) (pe_lst (pa_cons pe_int pa_nil)) rfl)
(pss_cons (ps_asg (pe_tup (pa_cons pe_int (pa_cons pe_int pa_nil))) (pg_tup (by rfl) (pgs_cons (pg_name (i := 3) nd rfl (Or.inl rfl)) (pgs_cons (pg_name (i := 4) nd rfl (Or.inl rfl)) pgs_nil))))
(pss_cons (ps_for PassesOwn.never rfl (pi_tup (pv 2)) (pg_name (i := 5) nd rfl (Or.inl rfl))
(pss_cons (ps_aug (i := 4) nd rfl (Or.inl rfl) (pe_callTy call_int1 (by rfl) T.n_int (by decide +kernel) (pa_cons (pe_call G_is_rotated (hr.mono (by decide)) rfl m_is_rotated F_is_rotated.kp b_is_rotated .nil pass0 (pa_cons (pv 1) (pa_cons (pv 3) (pa_cons (pv 5) pa_nil)))) pa_nil)) ip_add)
(pss_cons (ps_set (i := 3) nd rfl (Or.inl rfl) (pe_call G_fill_behind (hr.mono (by decide)) rfl m_fill_behind F_fill_behind.kp b_fill_behind .nil pass0 (pa_cons (pv 1) (pa_cons (pv 3) (pa_cons (pv 5) pa_nil)))))
(pss_cons (ps_if (pt_cmpR op_eq (pv 5) (pe_glob (v := .str "look") rfl c_LOOK ⟨_, rfl⟩) (nomark _))
(pss_one (ps_expr (pe_bm PySem.F.plainAttrs_list PySem.F.slot_list_append PySem.F.type_list_append mt_append (pe_fld (pv 0) rfl) (pa_cons (pv 4) pa_nil))))
pss_nil)
(pss_one (ps_if (pt_val (pe_callB call_isi (by rfl) T.n_isinstance (by decide +kernel) (pa_cons (pv 5) (pa_cons (pe_bltn (v := .ty "int") (by rfl) T.n_int (by decide +kernel) rfl) pa_nil))))
(pss_one (ps_expr (pe_bm PySem.F.plainAttrs_list PySem.F.slot_list_append PySem.F.type_list_append mt_append (pe_fld (pv 0) rfl) (pa_cons (pe_tup (pa_cons (pe_op op_sub (pe_callB call_len_seq (by rfl) T.n_len (by decide +kernel) (pa_cons (pe_fld (pv 0) rfl) pa_nil)) pe_int) (pa_cons (pv 4) pa_nil))) pa_nil))))
pss_nil))))))
(pss_one (ps_expr (pe_bm PySem.F.plainAttrs_list PySem.F.slot_list_append PySem.F.type_list_append mt_append (pe_fld (pv 0) rfl) (pa_cons (pv 4) pa_nil)))))))), ?_⟩
    refine ⟨Nat.zero_le _, fun sA hsA => ?_⟩
    have nps : p ≠ sA := ne_of_none hp hsA
    refine ⟨_, rfl, p, C, dx, [], rfl, (kp_new hsA hp), O.cl, O.n_spots, (by show 0 < 1000; decide), ?_⟩
    refine ⟨szl 1 rfl, fun bA hbA => ?_⟩
    refine ⟨_, rfl, p, C, dx, _, rfl, kp_new hbA upd_same, O.cl, O.n_borders, (by show 1 < 1000; decide), ?_⟩
    refine ⟨szl 2 rfl, fun p2 hp2 => ⟨_, _, rfl, SqT.of upd_same, rfl, _, _, rfl, _, _, rfl, rfl, ?_⟩⟩
    have nsp : sA ≠ p := fun z => nps z.symm
    have hb0 : bA ≠ p := fun z => by
      rw [z, upd_same] at hbA
      cases hbA
    have hsb : sA ≠ bA := fun z => by
      rw [← z, upd_ne nsp, upd_same] at hbA
      cases hbA
    have hbH : H bA = none := by
      rw [upd_ne hb0, upd_ne (fun z => hsb z.symm)] at hbA
      exact hbA
    have u0 : ∀ a o, a ≠ p → H a = some o → (upd (upd (upd (upd (upd H sA (.lst [])) p (.ins C dx (putF "spots" (.ref sA) []))) bA (.lst [.int 0])) p (.ins C dx (putF "borders" (.ref bA) (putF "spots" (.ref sA) [])))) p2 (.tup [.int 0, .int 0])) a = some o := fun a o na h =>
      kp_new hp2 (kp_set na (kp_set (ne_of_none h hbH) (kp_set na (kp_new hsA h))))
    have e1 : (upd (upd (upd (upd (upd H sA (.lst [])) p (.ins C dx (putF "spots" (.ref sA) []))) bA (.lst [.int 0])) p (.ins C dx (putF "borders" (.ref bA) (putF "spots" (.ref sA) [])))) p2 (.tup [.int 0, .int 0])) p = some (.ins C dx (cf sA bA)) := by
      rw [← cf_mk]
      exact kp_new hp2 upd_same
    have e2 : (upd (upd (upd (upd (upd H sA (.lst [])) p (.ins C dx (putF "spots" (.ref sA) []))) bA (.lst [.int 0])) p (.ins C dx (putF "borders" (.ref bA) (putF "spots" (.ref sA) [])))) p2 (.tup [.int 0, .int 0])) sA = some (.lst []) :=
      kp_new hp2 (kp_set nsp (kp_set hsb (kp_set nsp upd_same)))
    have e3 : (upd (upd (upd (upd (upd H sA (.lst [])) p (.ins C dx (putF "spots" (.ref sA) []))) bA (.lst [.int 0])) p (.ins C dx (putF "borders" (.ref bA) (putF "spots" (.ref sA) [])))) p2 (.tup [.int 0, .int 0])) bA = some (.lst [.int 0]) :=
      kp_new hp2 (kp_set hb0 upd_same)
    generalize (upd (upd (upd (upd (upd H sA (.lst [])) p (.ins C dx (putF "spots" (.ref sA) []))) bA (.lst [.int 0])) p (.ins C dx (putF "borders" (.ref bA) (putF "spots" (.ref sA) [])))) p2 (.tup [.int 0, .int 0])) = H1 at u0 e1 e2 e3
    have ntp : t ≠ p := ne_of ht hp (by intro z; cases z)
    have nkp : bk ≠ p := ne_of hbk hp (by intro z; cases z)
    refine ⟨_, rfl, _, rfl, ⟨_, SqT.of (u0 _ _ ntp ht)⟩, for_tup (a := t) (xs := es.map Ev.v) (fun i σ H' => ∃ (sv : List V) (v5 : Option V), σ = [some (.ref p), some (.ref bk), some (.ref t), some (.int (CS.run S (es.take i)).fill), some (.int (CS.run S (es.take i)).turned), v5] ∧
        H' p = some (.ins C dx (cf sA bA)) ∧ H' sA = some (.lst sv) ∧ H' bA = some (.lst ((CS.run S (es.take i)).borders.map V.int)) ∧ Paired (SpotAt H') sv (CS.run S (es.take i)).spots ∧ But p H H')
      ⟨[], none, rfl, e1, e2, e3, .nil, u0⟩ (fun i σ H' _ ⟨_, _, _, _, _, _, _, u⟩ => SqT.of (u _ _ ntp ht)) ?_ ?_⟩
    · rintro i v σ H' hi ⟨sv, v5, rfl, h1, h2, h3, h4, u⟩
      obtain ⟨e, he, rfl⟩ := ev_at hi
      have hil : i < es.length := (List.getElem?_eq_some_iff.mp he).1
      rw [take_at he, CS.run_snoc]
      have ll := CS.lens S (es.take i)
      rw [List.length_take] at ll
      generalize CS.run S (es.take i) = c at h3 h4 ll
      have hbk' := u _ _ nkp hbk
      have svl : sv.length = c.spots.length := Paired.length h4
      refine ⟨_, rfl, _, rfl, _, rfl, _, rfl, bk, q, S, _, e, rfl, hbk', .inr ⟨_, rfl, _, _, rfl, rfl, _, rfl, _, rfl, _, rfl, bk, q, S, _, e, rfl, hbk', _, rfl, e.sc _, _, rfl, ?_⟩⟩
      cases e with
      | look =>
        refine iteA rfl ⟨_, rfl, p, C, dx, _, _, rfl, h1, O.cl, O.n_borders, cf_b _ _, .inl ⟨rfl, _, SqL.of h3⟩, _, rfl, _, _, _, rfl, rfl, h3, Nat.lt_of_le_of_lt (by rw [List.length_map]; omega : _ ≤ 1001) (by decide), ?_⟩
        refine ⟨_, rfl, _, _, _, _, false, rfl, .ty "int", .base (.str _), kit_ty (by decide +kernel), _, rfl, iteF ⟨sv, _, rfl, kp_set (fun z => hb0 z.symm) h1, kp_set hsb h2, ?_, ?_, ?_⟩⟩
        · rw [upd_same, show (CS.step S c .look).borders = c.borders ++ [c.turned + if rotd S c.fill .look = true then 1 else 0] from rfl, List.map_append]
          rfl
        · exact Paired.mapP h4 fun v x ⟨a, ea, ha⟩ => ⟨a, ea, kp_set (tup_ne ha h3) ha⟩
        · exact fun a o na h => kp_set (ne_of_none h hbH) (u _ _ na h)
      | rot =>
        refine iteN (by decide +kernel) ?_
        exact ⟨_, rfl, _, _, _, _, false, rfl, .ty "int", .base (.str _), kit_ty (by decide +kernel), _, rfl, iteF ⟨sv, _, rfl, h1, h2, h3, h4, u⟩⟩
      | line l =>
        refine iteN (fun z => by cases z) ?_
        refine ⟨_, rfl, _, _, _, _, true, rfl, .ty "int", .base (.int l), kit_ty (by decide +kernel), _, rfl, iteT ?_⟩
        refine ⟨_, rfl, p, C, dx, _, _, rfl, h1, O.cl, O.n_spots, cf_s _ _, .inl ⟨rfl, _, SqL.of h2⟩, _, rfl, p, C, dx, _, _, rfl, h1, O.cl, O.n_borders, cf_b _ _, _, _, rfl, .inl (SqL.of h3), _, _, rfl, rfl, _, rfl, szl 2 rfl, fun tp htp => ?_⟩
        have nts : tp ≠ sA := fun z => by rw [z, h2] at htp; cases htp
        refine ⟨_, _, _, rfl, rfl, kp_new htp h2, Nat.lt_of_le_of_lt (by omega : _ ≤ 1001) (by decide), ?_⟩
        refine ⟨_, _, rfl, kp_set (fun z => nsp z.symm) (kp_new htp h1), upd_same, kp_set (fun z => hsb z.symm) (kp_new htp h3), ?_, fun a o na h => kp_set (ne_of_none h hsA) (kp_new htp (u _ _ na h))⟩
        refine Paired.snoc (Paired.mapP h4 fun v x ⟨a, ea, ha⟩ => ⟨a, ea, kp_set (tup_ne ha h2) (kp_new htp ha)⟩) ⟨tp, rfl, ?_⟩
        rw [kp_set nts upd_same, List.length_map]
    · rintro σ H' ⟨sv, v5, rfl, h1, h2, h3, h4, u⟩
      have tk : es.take (es.map Ev.v).length = es := by rw [List.length_map, List.take_length]
      rw [tk] at h3 h4 ⊢
      have ll := CS.lens S es
      refine ⟨_, rfl, p, C, dx, _, _, rfl, h1, O.cl, O.n_borders, cf_b _ _, .inl ⟨rfl, _, SqL.of h3⟩, _, rfl, _, _, _, rfl, rfl, h3, Nat.lt_of_le_of_lt (by rw [List.length_map]; omega : _ ≤ 1001) (by decide), ?_⟩
      refine k sA bA _ ⟨dx, sv, kp_set (fun z => hb0 z.symm) h1, kp_set hsb h2, ?_, Paired.mapP h4 fun v x ⟨a, ea, ha⟩ => ⟨a, ea, kp_set (tup_ne ha h3) ha⟩⟩ fun a o na h => kp_set (ne_of_none h hbH) (u _ _ na h)
      rw [upd_same]
      unfold CS.ends
      rw [List.map_append]
      rfl

theorem ok_Cbehind {f C : Addr} {fd : FuncData} (T : Txt K mg) (O : C_Course K mg C) (F : Fun K "behind" "Course.behind" s_Course_behind f fd) : FnOk P w K mg base CX0 1 f fd ["self", "number", "holds"] (sp_cbehind C) := by
  refine F.ok sc_Course_behind (fun vs H Q E h => ?_) (fun cdv A outer s H vs Q E hr h => ?_)
  · obtain ⟨p, s, b, c, n, holds, rfl, _⟩ := h
    rfl
  · obtain ⟨p, s, b, c, n, holds, rfl, ⟨dx, sv, h1, h2, h3, h4⟩, ok, hn, k⟩ := h
    have nd := sc_Course_behind.nd
    refine ⟨_, (pss_cons (ps_asg (pe_ix ix_list (pe_fld (pv 0) rfl) (pv 1) (fun _ _ => rfl)) (pg_tup (by rfl) (pgs_cons (pg_name (i := 3) nd rfl (Or.inl rfl)) (pgs_cons (pg_name (i := 4) nd rfl (Or.inl rfl)) pgs_nil))))
(pss_cons (ps_if (PW.pt (pw_and (pt_val (pv 2)) (pw_and1 (pt_cmpR op_eq (pv 4) (pe_ix ix_list (pe_fld (pv 0) rfl) (pv 3) (fun _ _ => rfl)) (nomark _)))))
(pss_one (ps_ret pe_int))
pss_nil)
(pss_one (ps_ret (pe_op op_sub (pe_ix ix_list (pe_fld (pv 0) rfl) (pe_op op_add (pv 3) pe_int) (fun _ _ => rfl)) (pv 4)))))), ?_⟩
    have svl : sv.length = c.spots.length := Paired.length h4
    have hv : sv[n]? = some (sv[n]'(by omega)) := List.getElem?_eq_getElem (by omega)
    obtain ⟨x, hx, tp, ev, htp⟩ := pairs_get h4 hv
    rw [ev] at hv
    have ex1 : c.stretch n = x.1 := by unfold CS.stretch; rw [List.getD_eq_getElem?_getD, hx]; rfl
    have ex2 : c.file n = x.2 := by unfold CS.file; rw [List.getD_eq_getElem?_getD, hx]; rfl
    obtain ⟨a1, a2, a3, a4, a5⟩ := ok.ln n hn
    rw [ex1] at a1 a2
    have el : c.ends.length = c.borders.length + 1 := by unfold CS.ends; rw [List.length_append]; rfl
    have at1 : atI (c.ends.map V.int) x.1 = some (.int (c.since (c.stretch n))) := by
      rw [at_map a1 (by omega), ex1]
      rfl
    have at2 : atI (c.ends.map V.int) (x.1 + 1) = some (.int (c.upto (c.stretch n))) := by
      rw [at_map (by omega) (by omega), ex1]
      unfold CS.upto
      rw [show (x.1 + 1).toNat = x.1.toNat + 1 by omega]
    refine ⟨_, rfl, p, C, dx, _, _, rfl, h1, O.cl, O.n_spots, cf_s _ _, _, rfl, _, _, _, _, rfl, rfl, SqL.of h2, atI_nat hv, ?_⟩
    refine ⟨_, _, rfl, SqT.of htp, rfl, _, _, rfl, _, _, rfl, rfl, ?_⟩
    dsimp only [tSeq]
    refine and_if holds (decide (V.int x.2 = V.int (c.since (c.stretch n)))) (fun Q q => ⟨_, rfl, _, rfl, q⟩) (fun _ Q q => ⟨_, rfl, _, rfl, p, C, dx, _, _, rfl, h1, O.cl, O.n_borders, cf_b _ _, _, rfl, _, _, _, _, rfl, rfl, SqL.of h3, at1, rfl, _, rfl, q⟩) (fun e1 e2 => ?_) (fun e => ?_)
    · have z : c.file n = c.since (c.stretch n) := by
        rw [dec_vi] at e2
        rw [ex2]
        exact of_decide_eq_true e2
      have eb : c.behind n holds = 0 := by unfold CS.behind; rw [if_pos ⟨e1, z⟩]
      rw [eb] at k
      exact k
    · have z : ¬ (holds = true ∧ c.file n = c.since (c.stretch n)) := by
        rintro ⟨z1, z2⟩
        rw [z1, dec_vi, ← ex2, decide_eq_true z2] at e
        cases e
      have eb : c.behind n holds = c.upto (c.stretch n) - x.2 := by unfold CS.behind; rw [if_neg z, ex2]
      rw [eb] at k
      exact ⟨_, rfl, p, C, dx, _, _, rfl, h1, O.cl, O.n_borders, cf_b _ _, _, rfl, _, _, rfl, rfl, _, _, _, _, rfl, rfl, SqL.of h3, at2, _, rfl, _, _, rfl, rfl, k⟩

theorem ok_Call {f C : Addr} {fd : FuncData} (T : Txt K mg) (O : C_Course K mg C) (F : Fun K "all_behind" "Course.all_behind" s_Course_all_behind f fd) : FnOk P w K mg base CX0 2 f fd ["self", "holds"] (sp_call C) := by
  refine F.ok sc_Course_all_behind (fun vs H Q E h => ?_) (fun cdv A outer s H vs Q E hr h => ?_)
  · obtain ⟨p, s, b, c, holds, rfl, _⟩ := h
    rfl
  · obtain ⟨p, s, b, c, holds, rfl, hc, ok, hn, k⟩ := h
    have nd := sc_Course_all_behind.nd
    have cl_Course := O.cl
    obtain ⟨f_b, fd_b, F_b, b_Course_behind, M_Course_behind⟩ := O.m_behind.ex
    have G_Course_behind := ok_Cbehind (P := P) (w := w) (mg := mg) (base := base) T O F_b
    refine ⟨_, (pss_one (ps_ret (pe_lc (own := [("number", 2)]) (g := gName 2) (tt := tYes) rfl nd (pi_range1 (by rfl) T.n_range (pa_cons (pe_callB call_len_seq (by rfl) T.n_len (by decide +kernel) (pa_cons (pe_fld (pv 0) rfl) pa_nil)) pa_nil)) (blkOk_by (own := [("number", 2)]) (N := N_Course_all_behind) (sc := defScope s_Course_all_behind) (by decide +kernel)) (fun _ _ _ _ _ => pg_name (i := 2) nd rfl (Or.inl rfl)) (fun _ _ _ _ _ => pts_nil) (fun _ _ _ _ _ => (pe_meth (pv 0) cl_Course M_Course_behind G_Course_behind (hr.mono (by decide)) b_Course_behind .nil pass0 (pa_cons (pv 2) (pa_cons (pv 1) pa_nil))))))), ?_⟩
    obtain ⟨dx, sv, h1, h2, h3, h4⟩ := id hc
    have svl : sv.length = c.spots.length := Paired.length h4
    refine ⟨_, rfl, p, C, dx, _, _, rfl, h1, O.cl, O.n_spots, cf_s _ _, _, _, rfl, .inl (SqL.of h2), ?_⟩
    rw [svl]
    refine ⟨_, rfl, by omega, by omega, fun D hD => lc_range (lo := 0) (n := ((c.spots.length : Nat) : Int).toNat) (fun i H' => H' D = some (.lst ((List.range i).map fun n => .int (c.behind n holds))) ∧ Same H H') ⟨upd_same, same_new hD⟩ ?_ ?_⟩
    · rintro i H' hi ⟨D1, sm⟩
      rw [Int.zero_add]
      obtain ⟨dx', sv', g1, _⟩ := hc.same sm
      refine ⟨rfl, ?_⟩
      refine ⟨_, rfl, p, dx', _, rfl, g1, rfl, _, rfl, _, rfl, p, s, b, c, i, holds, rfl, hc.same sm, ok, by omega, ?_⟩
      show ∃ acc, _ ∧ _ ∧ _
      refine ⟨_, D1, by rw [List.length_map, List.length_range]; exact Nat.lt_of_le_of_lt (by omega : _ ≤ 1000) (by decide), ?_, fun a o h => kp_set (ne_of_none h hD) (sm _ _ h)⟩
      rw [upd_same, List.range_succ, List.map_append]
      rfl
    · rintro H' ⟨D1, sm⟩
      rw [Int.toNat_natCast] at D1
      exact k D H' D1 sm

theorem ok_missed {f : Addr} {fd : FuncData} (T : Txt K mg) (F : FunD K "missed" "missed" (defArgs s_missed) (defBody s_missed) (defScope s_missed) [] [("holds", .bl false)] f fd) : FnOk P w K mg base CX0 5 f fd ["rules", "kept", "history", "holds"] sp_missed := by
  refine F.ok sc_missed (fun vs H Q E h => ?_) (fun cdv A outer s H vs Q E hr h => ?_)
  · obtain ⟨bk, q, t, S, kept, es, holds, rfl, _⟩ := h
    rfl
  · obtain ⟨bk, q, t, S, kept, es, holds, rfl, hb, ht, hes, k⟩ := h
    have nd := sc_missed.nd
    obtain ⟨C, O⟩ := T.k_Course
    have cl_Course := O.cl
    have m_Course := O.mgC
    obtain ⟨f_i, fd_i, F_i, b_Course, M_Course⟩ := O.ini.ex
    have G_Course := ok_Cinit (P := P) (w := w) (mg := mg) (base := base) T O F_i
    obtain ⟨f_a, fd_a, F_a, b_Course_all_behind, M_Course_all_behind⟩ := O.m_all_behind.ex
    have G_Course_all_behind := ok_Call (P := P) (w := w) (mg := mg) (base := base) T O F_a
    refine ⟨_, (pss_cons (ps_set (i := 4) nd rfl (Or.inl rfl) (pe_meth (pe_make M_Course G_Course (hr.mono (by decide)) rfl m_Course b_Course .nil pass0 (pa_cons (pv 0) (pa_cons (pv 2) pa_nil))) cl_Course M_Course_all_behind G_Course_all_behind (hr.mono (by decide)) b_Course_all_behind .nil pass0 (pa_cons (pv 3) pa_nil)))
(pss_one (ps_ret (pe_callTy call_tuple_of (by rfl) T.n_tuple (by decide +kernel) (pa_cons (pe_lc (own := [("number", 5), ("count", 6)]) (g := (gTup K 2 (gCons (gName 5) (gCons (gName 6) gNil)))) rfl nd (pi_enum (by rfl) T.n_enumerate (pa_cons (pv 4) pa_nil)) (blkOk_by (own := [("number", 5), ("count", 6)]) (N := N_missed) (sc := defScope s_missed) (by decide +kernel)) (fun _ _ _ _ _ => pg_tup rfl (pgs_cons (pg_name (i := 5) nd rfl (Or.inl rfl)) (pgs_cons (pg_name (i := 6) nd rfl (Or.inl rfl)) pgs_nil))) (fun _ _ _ _ _ => pts_one (pt_cmpR op_gt (pv 6) (pv 1) (nomark _))) (fun _ _ _ _ _ => (pv 5))) pa_nil))))), ?_⟩
    have ok := CS.Ok.run S es
    have ll := CS.lens S es
    refine ⟨_, rfl, _, rfl, ?_⟩
    intro x dx nx ndx nex
    have s0 : Same H (upd (upd H dx (.own x)) x (.ins C dx [])) := fun a o h => kp_set (ne_of_none h nx) (kp_set (ne_of_none h ndx) h)
    refine ⟨x, dx, bk, q, t, S, es, rfl, upd_same, s0 _ _ hb, s0 _ _ ht, hes, fun sA bA H1 hc u => ⟨rfl, ?_⟩⟩
    have s1 : Same H H1 := fun a o h => u _ _ (ne_of_none h nx) (s0 _ _ h)
    obtain ⟨dx', sv', g1, _⟩ := id hc
    refine ⟨x, dx', _, rfl, g1, rfl, _, rfl, x, sA, bA, CS.run S es, holds, rfl, hc, ok, by omega, fun l H2 hl s2 => ?_⟩
    have s12 := s1.trans s2
    generalize CS.run S es = c at hl ll k
    have xl : ((List.range c.spots.length).map fun n => V.int (c.behind n holds)).length = c.spots.length := by rw [List.length_map, List.length_range]
    refine ⟨_, rfl, _, _, rfl, SqL.of hl, fun D hD => lc_enumL (a := l) (xs := (List.range c.spots.length).map fun n => V.int (c.behind n holds)) (fun i H' => H' D = some (.lst ((((List.range i).filter fun n => decide (kept < c.behind n holds)).map Int.ofNat).map V.int)) ∧ Same H2 H') ⟨upd_same, same_new hD⟩ (fun i H' _ ⟨_, s⟩ => SqL.of (s _ _ hl)) ?_ ?_⟩
    · rintro i y T H' hi ⟨D1, s3⟩ nT
      have hil : i < c.spots.length := by
        have z := (List.getElem?_eq_some_iff.mp hi).1
        rwa [xl] at z
      have ey : y = .int (c.behind i holds) := by
        rw [List.getElem?_map, List.getElem?_range hil] at hi
        exact (Option.some.inj hi).symm
      subst ey
      have lb : ((((List.range i).filter fun n => decide (kept < c.behind n holds)).map Int.ofNat).map V.int).length < sizeLine := by
        rw [List.length_map, List.length_map]
        refine Nat.lt_of_le_of_lt (List.length_filter_le _ _) (Nat.lt_of_le_of_lt ?_ (by decide : 1000 < sizeLine))
        rw [List.length_range]
        omega
      refine ⟨_, _, rfl, SqT.of upd_same, rfl, _, _, rfl, _, _, rfl, rfl, rfl, _, rfl, _, rfl, _, _, rfl, rfl, _, rfl, ite2 (fun e => ?_) (fun e => ?_)⟩
      · refine ⟨_, rfl, _, kp_new nT D1, lb, ?_, fun a o h => kp_set (ne_of_none h hD) (kp_new nT (s3 _ _ h))⟩
        rw [upd_same, List.range_succ, List.filter_append, List.filter_cons_of_pos (p := fun n => decide (kept < c.behind n holds)) e, List.map_append, List.map_append]
        rfl
      · refine ⟨?_, s3.trans (same_new nT)⟩
        rw [List.range_succ, List.filter_append, List.filter_cons_of_neg (p := fun n => decide (kept < c.behind n holds)) e, List.filter_nil, List.append_nil]
        exact kp_new nT D1
    · rintro H' ⟨D1, s3⟩
      rw [xl] at D1
      exact ⟨_, _, rfl, .inl ⟨SqL.of D1, fun r hr => k r _ upd_same ((s12.trans s3).trans (same_new hr))⟩⟩

end
end My

namespace My
open PySem L2

section
variable {P : Program} {w : World} {K : PySem.W.Frag} {mg : Str → Option Value} {base : Heap}
def sp_right : Sp := fun vs H Q _ => ∃ (b p : Addr) (S : Int) (ls : List Int) (n : Nat), vs = [.ref b, .ref p] ∧ BookAt H p S ls ∧ Rules S ls ∧ Box n H b ∧ n + 10000 < 2 ^ 40 ∧ ∀ H' : Hp, Box (n + 200) H' b → But b H H' → Q (.bl true) H'
def sp_law (K : PySem.W.Frag) : Sp := fun vs H Q _ => ∃ (a : Addr) (ns : List Int), vs = [.ref a] ∧ SqL K H a (ns.map V.int) ∧ ns.length ≤ 63 ∧ ∀ H', Q (.bl true) H'
theorem missed_tx (S : Int) (es : List Ev) (hes : es.length ≤ 80) (kept : Int) (holds : Bool) : Tx 500 1 (.tuple (((CS.run S es).missed kept holds).map PyData.int)) := by
  have ll := CS.lens S es
  refine (Tx.tuple (n := 4) (k := 0) (m := 80) (fun d hd => ?_) ?_).mono (by decide) (Nat.le_refl _)
  · obtain ⟨x, hx, rfl⟩ := List.mem_map.mp hd
    obtain ⟨n, rfl, hn, _⟩ := CS.mem_numbers.mp hx
    exact Tx.small (by omega)
  · rw [List.length_map]
    unfold CS.missed CS.numbers
    rw [List.length_map]
    refine Nat.le_trans (List.length_filter_le _ _) ?_
    rw [List.length_range]
    omega

theorem ok_Lright {f : Addr} {fd : FuncData} (T : Txt K mg) (F : Fun K "_law_right" "_law_right" s_Lright f fd) : FnG P w K mg base 6 f fd ["_law_box_here", "_law_book_here"] sp_right := by
  refine g_ok F sc_Lright (fun vs H Q h => ?_) (fun cdv A outer s H vs Q hg hr h => ?_)
  · obtain ⟨b, p, S, ls, n, rfl, _⟩ := h
    rfl
  · obtain ⟨b, p, S, ls, n, rfl, ⟨q, hp, hq⟩, R, hB, hn, k⟩ := h
    have nd := sc_Lright.nd
    obtain ⟨f_Ltale, fd_Ltale, F_Ltale, m_Ltale, b_Ltale⟩ := T.d_Ltale.ex
    have G_Ltale := ok_Ltale (P := P) (w := w) (mg := mg) (base := base) T F_Ltale
    obtain ⟨f_Lof, fd_Lof, F_Lof, m_Lof, b_Lof⟩ := T.d_Lof.ex
    have G_Lof := ok_Lof (P := P) (w := w) (mg := mg) (base := base) T F_Lof
    obtain ⟨f_Ltake, fd_Ltake, F_Ltake, m_Ltake, b_Ltake⟩ := T.d_Ltake.ex
    have G_Ltake := ok_Ltake (P := P) (w := w) (mg := mg) (base := base) F_Ltake
    obtain ⟨f_Lrun, fd_Lrun, F_Lrun, m_Lrun, b_Lrun⟩ := T.d_Lrun.ex
    have G_Lrun := ok_Lrun (P := P) (w := w) (mg := mg) (base := base) T F_Lrun
    obtain ⟨f_missed, fd_missed, F_missed, m_missed, ⟨ds, r_missed, b_missed⟩, kb_missed⟩ := T.d_missed.ex
    have G_missed := ok_missed (P := P) (w := w) (mg := mg) (base := base) T F_missed
    obtain ⟨bx, hbx⟩ := hB.there
    have npb := tup_ne hp hbx
    have nqb := tup_ne hq hbx
    have S1 := R.s1
    have S2 := R.s2
    refine ⟨_, (pss_cons (ps_set (i := 2) nd rfl (Or.inl rfl) (pe_call G_Lof (hr.mono (by decide)) rfl m_Lof F_Lof.kp b_Lof .nil pass0 (pa_cons (pv 0) (pa_cons (pe_lst (pa_cons (pe_ix ix_tup (pv 1) pe_int (fun _ _ => rfl)) (pa_cons (pe_op op_mul pe_int (pe_ix ix_tup (pv 1) pe_int (fun _ _ => rfl))) (pa_cons (pe_op op_pow pe_int pe_int) pa_nil)))) pa_nil))))
(pss_cons (ps_set (i := 3) nd rfl (Or.inl rfl) (pe_call G_Ltale (hr.mono (by decide)) rfl m_Ltale F_Ltale.kp b_Ltale .nil pass0 (pa_cons (pv 0) (pa_cons (pv 1) (pa_cons (pv 2) (pa_cons (pe_call G_Lof (hr.mono (by decide)) rfl m_Lof F_Lof.kp b_Lof .nil pass0 (pa_cons (pv 0) (pa_cons (pe_lst (pa_cons pe_int (pa_cons pe_int (pa_cons (pe_op op_pow pe_int pe_int) pa_nil)))) pa_nil))) (pa_cons (pe_call G_Lof (hr.mono (by decide)) rfl m_Lof F_Lof.kp b_Lof .nil pass0 (pa_cons (pv 0) (pa_cons (pe_lst (pa_cons pe_int (pa_cons pe_int (pa_cons pe_int (pa_cons pe_int pa_nil))))) pa_nil))) pa_nil)))))))
(pss_cons (ps_set (i := 4) nd rfl (Or.inl rfl) (pe_callB (call_repr hg hr) (by rfl) T.n_repr (by decide +kernel) (pa_cons (pv 3) pa_nil)))
(pss_cons (ps_for PassesOwn.never rfl (pi_tup (pe_tup (pa_cons pe_int (pa_cons pe_int (pa_cons pe_int (pa_cons (pe_call G_Ltake (hr.mono (by decide)) rfl m_Ltake F_Ltake.kp b_Ltake .nil pass0 (pa_cons (pv 0) (pa_cons pe_int pa_nil))) (pa_cons pe_int (pa_cons (pe_op op_pow pe_int pe_int) pa_nil)))))))) (pg_name (i := 5) nd rfl (Or.inl rfl))
(pss_cons (ps_asg (pe_call G_Lrun (hr.mono (by decide)) rfl m_Lrun F_Lrun.kp b_Lrun .nil pass0 (pa_cons (pv 1) (pa_cons (pv 5) (pa_cons (pv 3) pa_nil)))) (pg_tup (by rfl) (pgs_cons (pg_name (i := 6) nd rfl (Or.inl rfl)) (pgs_cons (pg_name (i := 7) nd rfl (Or.inl rfl)) (pgs_cons (pg_name (i := 8) nd rfl (Or.inl rfl)) (pgs_cons (pg_name (i := 9) nd rfl (Or.inl rfl)) pgs_nil))))))
(pss_cons (ps_set (i := 10) nd rfl (Or.inl rfl) (pe_lst (pa_cons (pe_call G_missed (hr.mono (by decide)) rfl m_missed F_missed.kp b_missed r_missed pass0 (pa_cons (pv 1) (pa_cons (pv 5) (pa_cons (pv 3) pa_nil)))) (pa_cons (pe_callN G_missed (hr.mono (by decide)) rfl m_missed F_missed.kp kb_missed pass0 (pa_cons (pv 1) (pa_cons (pv 5) (pa_cons (pv 3) pa_nil))) (pk_cons pe_bl pk_nil)) (pa_cons (pe_callN G_missed (hr.mono (by decide)) rfl m_missed F_missed.kp kb_missed pass0 (pa_cons (pv 1) (pa_cons (pv 5) (pa_cons (pv 3) pa_nil))) (pk_cons pe_bl pk_nil)) pa_nil)))))
(pss_one (ps_if (pt_cmpR op_ne (pe_callB (call_repr hg hr) (by rfl) T.n_repr (by decide +kernel) (pa_cons (pv 10) pa_nil)) (pe_callB (call_repr hg hr) (by rfl) T.n_repr (by decide +kernel) (pa_cons (pe_lst (pa_cons (pv 7) (pa_cons (pv 7) (pa_cons (pv 8) pa_nil)))) pa_nil)) (nomark _))
(pss_one (ps_ret pe_bl))
pss_nil)))))
(pss_one (ps_ret (pe_cmpR op_eq (pe_callB (call_repr hg hr) (by rfl) T.n_repr (by decide +kernel) (pa_cons (pv 3) pa_nil)) (pv 4) (nomark _)))))))), ?_⟩
    refine ⟨_, rfl, _, rfl, _, _, _, _, rfl, rfl, SqT.of hp, atI_nat (j := 0) rfl, _, rfl, _, _, _, _, rfl, rfl, SqT.of hp, atI_nat (j := 0) rfl, _, _, rfl, rfl, .inl (by decide), _, _, rfl, rfl, ⟨by decide, by decide⟩, szl 3 rfl, fun m hm => ?_⟩
    refine ⟨b, m, [.int S, .int (3 * S), .int (10 ^ (6 : Int).toNat)], n, rfl, hB.new hm, hB.ne hm, .inl upd_same, by omega, by simp, (by show 3 < 2 ^ 60; decide), fun v H1 hv B1 u1 => ?_⟩
    obtain ⟨bound, rfl, bp⟩ : ∃ bound : Int, v = .int bound ∧ 0 ≤ bound := by
      simp only [List.mem_cons, List.not_mem_nil, or_false] at hv
      rcases hv with rfl | rfl | rfl
      · exact ⟨_, rfl, by omega⟩
      · exact ⟨_, rfl, by omega⟩
      · exact ⟨_, rfl, by decide⟩
    have hp1 := u1 _ _ npb (kp_new hm hp)
    have hq1 := u1 _ _ nqb (kp_new hm hq)
    refine ⟨_, rfl, _, rfl, _, rfl, _, rfl, _, _, rfl, rfl, ⟨by decide, by decide⟩, szl 3 rfl, fun m2 hm2 => ?_⟩
    refine ⟨b, m2, [.int 0, .int 2, .int (10 ^ (6 : Int).toNat)], _, rfl, B1.new hm2, B1.ne hm2, .inl upd_same, by omega, by simp, by decide, fun v H2 hv B2 u2 => ?_⟩
    obtain ⟨often, rfl, op⟩ : ∃ often : Int, v = .int often ∧ 0 ≤ often := by
      simp only [List.mem_cons, List.not_mem_nil, or_false] at hv
      rcases hv with rfl | rfl | rfl <;> exact ⟨_, rfl, by decide⟩
    have hp2 := u2 _ _ npb (kp_new hm2 hp1)
    have hq2 := u2 _ _ nqb (kp_new hm2 hq1)
    refine ⟨_, rfl, szl 4 rfl, fun m3 hm3 => ?_⟩
    refine ⟨b, m3, [.int 0, .int 4, .int 25, .int 80], _, rfl, B2.new hm3, B2.ne hm3, .inl upd_same, by omega, by simp, by decide, fun v H3 hv B3 u3 => ?_⟩
    obtain ⟨len, rfl, l1, l2⟩ : ∃ len : Int, v = .int len ∧ 0 ≤ len ∧ len ≤ 80 := by
      simp only [List.mem_cons, List.not_mem_nil, or_false] at hv
      rcases hv with rfl | rfl | rfl | rfl <;> exact ⟨_, rfl, by decide, by decide⟩
    have hp3 := u3 _ _ npb (kp_new hm3 hp2)
    have hq3 := u3 _ _ nqb (kp_new hm3 hq2)
    refine ⟨b, p, S, ls, bound, often, len, _, rfl, ⟨q, hp3, hq3⟩, R, B3, bp, op, l1, by omega, by omega, fun t es H4 ht oks elen _ B4 u4 => ?_⟩
    have hp4 := u4 _ _ npb hp3
    have hq4 := u4 _ _ nqb hq3
    have U4 : But b H H4 := fun a o na h => u4 _ _ na (u3 _ _ na (kp_new hm3 (u2 _ _ na (kp_new hm2 (u1 _ _ na (kp_new hm h))))))
    have ntb : t ≠ b := by
      obtain ⟨by4, hby4⟩ := B4.there
      exact tup_ne ht hby4
    have txT : Tx 16777216 60 (.tuple (es.map Ev.d)) := (Tx.tuple (n := 62) (k := 0) (m := 80) (fun d hd => by
      obtain ⟨e, he, rfl⟩ := List.mem_map.mp hd
      exact Ev.tx (oks e he) fun l hl => by have := R.mem l hl; omega) (by rw [List.length_map]; omega)).mono (by decide) (by decide)
    refine ⟨_, rfl, _, _, rfl, Dp.tup (SqT.of ht) (dp_evs es), txT, ?_⟩
    refine ⟨_, rfl, b, 6, _, rfl, B4, by omega, by decide, by decide, fun r H5 r0 r1 B5 u5 => ?_⟩
    refine ⟨_, _, rfl, rfl, ⟨by decide, by decide⟩, szl 6 rfl, fun mt hmt => ?_⟩
    have ht5 := u5 _ _ ntb ht
    have hp5 := u5 _ _ npb hp4
    have hq5 := u5 _ _ nqb hq4
    have s6 := same_new (u := HO.tup [.int 0, .int 1, .int 2, .int r, .int 30, .int (10 ^ (18 : Int).toNat)]) hmt
    have hmt6 : (upd H5 mt (.tup [.int 0, .int 1, .int 2, .int r, .int 30, .int (10 ^ (18 : Int).toNat)])) mt = some (.tup [.int 0, .int 1, .int 2, .int r, .int 30, .int (10 ^ (18 : Int).toNat)]) := upd_same
    have ht6 := s6 _ _ ht5
    have hp6 := s6 _ _ hp5
    have hq6 := s6 _ _ hq5
    have B6 := B5.same s6
    have U6 : But b H (upd H5 mt (.tup [.int 0, .int 1, .int 2, .int r, .int 30, .int (10 ^ (18 : Int).toNat)])) := fun a o na h => s6 _ _ (u5 _ _ na (U4 _ _ na h))
    generalize upd H5 mt (HO.tup [.int 0, .int 1, .int 2, .int r, .int 30, .int (10 ^ (18 : Int).toNat)]) = H6 at hmt6 ht6 hp6 hq6 B6 U6
    refine ⟨_, rfl, ⟨_, SqT.of hmt6⟩, for_tup (a := mt) (xs := [.int 0, .int 1, .int 2, .int r, .int 30, .int (10 ^ (18 : Int).toNat)]) (fun i σ H' => ∃ (v5 v6 v7 v8 v9 v10 : Option V), σ = [some (.ref b), some (.ref p), some (.int bound), some (.ref t), some (.str (PyData.tuple (List.map Ev.d es)).shown), v5, v6, v7, v8, v9, v10] ∧ Same H6 H')
      ⟨_, _, _, _, _, _, rfl, Same.refl _⟩ (fun i σ H' _ ⟨_, _, _, _, _, _, _, s⟩ => SqT.of (s _ _ hmt6)) ?_ ?_⟩
    · rintro i v σ H7 hi ⟨v5, v6, v7, v8, v9, v10, rfl, s7⟩
      have hv := List.mem_of_getElem? hi
      obtain ⟨many, rfl, mp⟩ : ∃ many : Int, v = .int many ∧ 0 ≤ many := by
        simp only [List.mem_cons, List.not_mem_nil, or_false] at hv
        rcases hv with rfl | rfl | rfl | rfl | rfl | rfl
        · exact ⟨_, rfl, by decide⟩
        · exact ⟨_, rfl, by decide⟩
        · exact ⟨_, rfl, by decide⟩
        · exact ⟨_, rfl, r0⟩
        · exact ⟨_, rfl, by decide⟩
        · exact ⟨_, rfl, by decide⟩
      have es80 : es.length ≤ 80 := by omega
      refine ⟨_, rfl, _, rfl, _, rfl, p, t, S, ls, many, es, rfl, ⟨q, s7 _ _ hp6, s7 _ _ hq6⟩, mp, s7 _ _ ht6, by omega, fun rr fs ms hs fv M N H8 hr8 _ _ hms pM sM hhs pN sN s8 => ?_⟩
      have eM := CS.gone_missed pM sM
      have eN := CS.gone_held pN sN
      rw [show ((many.toNat : Nat) : Int) = many by omega] at eM eN
      subst eM eN
      have s68 := s7.trans s8
      refine ⟨_, _, rfl, SqT.of hr8, rfl, _, _, rfl, _, _, rfl, _, _, rfl, _, _, rfl, rfl, ?_⟩
      refine ⟨_, rfl, _, rfl, _, rfl, p, q, t, S, many, es, false, rfl, s68 _ _ hp6, s68 _ _ ht6, by omega, fun a1 H9 h1 s9 => ?_⟩
      have s69 := s68.trans s9
      refine ⟨_, rfl, _, rfl, _, rfl, rfl, rfl, p, q, t, S, many, es, false, rfl, s69 _ _ hp6, s69 _ _ ht6, by omega, fun a2 H10 h2 s10 => ?_⟩
      have s610 := s69.trans s10
      refine ⟨_, rfl, _, rfl, _, rfl, rfl, rfl, p, q, t, S, many, es, true, rfl, s610 _ _ hp6, s610 _ _ ht6, by omega, fun a3 H11 h3 s11 => ?_⟩
      have s611 := s610.trans s11
      have tA := missed_tx S es es80 many false
      have tB := missed_tx S es es80 many true
      have tx : Tx 16777216 60 (.list [.tuple (((CS.run S es).missed many false).map PyData.int), .tuple (((CS.run S es).missed many false).map PyData.int), .tuple (((CS.run S es).missed many true).map PyData.int)]) :=
        (Tx.list (n := 500) (k := 1) (m := 3) (fun d hd => by
          simp only [List.mem_cons, List.not_mem_nil, or_false] at hd
          rcases hd with rfl | rfl | rfl
          · exact tA
          · exact tA
          · exact tB) (Nat.le_refl _)).mono (by decide) (by decide)
      have g2 := s11 _ _ h2
      have g1 := s11 _ _ (s10 _ _ h1)
      have gm := s11 _ _ (s10 _ _ (s9 _ _ hms))
      have gh := s11 _ _ (s10 _ _ (s9 _ _ hhs))
      refine ⟨szl 3 rfl, fun l hl => ?_⟩
      refine ⟨_, rfl, _, _, rfl, Dp.lst (SqL.of upd_same) (.cons (Dp.tup (SqT.of (kp_new hl g1)) (dp_ints _)) (.cons (Dp.tup (SqT.of (kp_new hl g2)) (dp_ints _)) (.cons (Dp.tup (SqT.of (kp_new hl h3)) (dp_ints _)) .nil))), tx, ?_⟩
      refine ⟨_, rfl, _, rfl, _, rfl, szl 3 rfl, fun l2 hl2 => ?_⟩
      refine ⟨_, _, rfl, Dp.lst (SqL.of upd_same) (.cons (Dp.tup (SqT.of (kp_new hl2 (kp_new hl gm))) (dp_ints _)) (.cons (Dp.tup (SqT.of (kp_new hl2 (kp_new hl gm))) (dp_ints _)) (.cons (Dp.tup (SqT.of (kp_new hl2 (kp_new hl gh))) (dp_ints _)) .nil))), tx, rfl, _, rfl, iteNS rfl ?_⟩
      exact ⟨_, _, _, _, _, _, rfl, (s611.trans (same_new hl)).trans (same_new hl2)⟩
    · rintro σ H7 ⟨v5, v6, v7, v8, v9, v10, rfl, s7⟩
      refine ⟨_, rfl, _, _, rfl, Dp.tup (SqT.of (s7 _ _ ht6)) (dp_evs es), txT, _, rfl, rfl, ?_⟩
      have ed : decide (V.str (PyData.tuple (List.map Ev.d es)).shown = V.str (PyData.tuple (List.map Ev.d es)).shown) = true := decide_eq_true rfl
      rw [ed]
      exact k H7 ((B6.same s7).mono (by omega)) (U6.trans (But.of s7))

theorem ok_law {f : Addr} {fd : FuncData} (T : Txt K mg) (F : Fun K "law" "law" s_law f fd) : FnG P w K mg base 7 f fd ["_law_script"] (sp_law K) := by
  refine g_ok F sc_law (fun vs H Q h => ?_) (fun cdv A outer s H vs Q hg hr h => ?_)
  · obtain ⟨a, ns, rfl, _⟩ := h
    rfl
  · obtain ⟨a, ns, rfl, hS, hlen, k⟩ := h
    have nd := sc_law.nd
    obtain ⟨f_Lbox, fd_Lbox, F_Lbox, m_Lbox, b_Lbox⟩ := T.d_Lbox.ex
    have G_Lbox := ok_Lbox (P := P) (w := w) (mg := mg) (base := base) T F_Lbox
    obtain ⟨f_Lbook, fd_Lbook, F_Lbook, m_Lbook, b_Lbook⟩ := T.d_Lbook.ex
    have G_Lbook := ok_Lbook (P := P) (w := w) (mg := mg) (base := base) T F_Lbook
    obtain ⟨f_Lright, fd_Lright, F_Lright, m_Lright, b_Lright⟩ := T.d_Lright.ex
    have G_Lright := ok_Lright (P := P) (w := w) (mg := mg) (base := base) T F_Lright
    obtain ⟨f_missed, fd_missed, F_missed, m_missed, ⟨ds, r_missed, b_missed⟩, kb_missed⟩ := T.d_missed.ex
    have G_missed := ok_missed (P := P) (w := w) (mg := mg) (base := base) T F_missed
    refine ⟨_, (pss_cons (ps_for PassesOwn.never rfl (pi_range1 (by rfl) T.n_range (pa_cons (pe_callB (call_max2 rfl) (by rfl) T.n_max (by decide +kernel) (pa_cons pe_int (pa_cons (pe_callB (call_min2 rfl) (by rfl) T.n_min (by decide +kernel) (pa_cons pe_int (pa_cons (pe_callB call_len_seq (by rfl) T.n_len (by decide +kernel) (pa_cons (pv 0) pa_nil)) pa_nil))) pa_nil))) pa_nil)) (pg_name (i := 1) nd rfl (Or.inl rfl))
(pss_cons (ps_set (i := 2) nd rfl (Or.inr rfl) (pe_call G_Lbox (hr.mono (by decide)) rfl m_Lbox F_Lbox.kp b_Lbox .nil pass0 (pa_cons (pv 0) (pa_cons (pv 1) pa_nil))))
(pss_one (ps_if (pt_not (pt_val (pe_callB (cr_all rfl) (by rfl) T.n_all (by decide +kernel) (pa_cons (pe_lc (own := [("_law_turn", 3)]) (g := gName 3) (tt := tYes) rfl nd (pi_range1 (by rfl) T.n_range (pa_cons pe_int pa_nil)) (blkOk_by (own := [("_law_turn", 3)]) (N := N_law) (sc := defScope s_law) (by decide +kernel)) (fun _ _ _ _ _ => pg_name (i := 3) nd rfl (Or.inl rfl)) (fun _ _ _ _ _ => pts_nil) (fun _ _ _ _ _ => (pe_callG hg G_Lright (hr.mono (by decide)) rfl m_Lright F_Lright.kp b_Lright (pa_cons (pv 2) (pa_cons (pe_call G_Lbook (hr.mono (by decide)) rfl m_Lbook F_Lbook.kp b_Lbook .nil pass0 (pa_cons (pv 2) (pa_cons pe_int pa_nil))) pa_nil))))) pa_nil))))
(pss_one (ps_ret pe_bl))
pss_nil))))
(pss_one (ps_ret (pe_cmpR (op_eqD hr.units) (pe_call G_missed (hr.mono (by decide)) rfl m_missed F_missed.kp b_missed r_missed pass0 (pa_cons (pe_tup (pa_cons pe_int (pa_cons (pe_tup (pa_cons pe_int pa_nil)) pa_nil))) (pa_cons pe_int (pa_cons (pe_tup pa_nil) pa_nil)))) (pe_tup pa_nil) (nomark _))))), ?_⟩
    have cb := cntB_in (ns.map V.int).length
    refine ⟨_, rfl, _, _, rfl, .inl hS, _, _, rfl, _, _, rfl, cntB (ns.map V.int).length, rfl, by omega, by omega, for_range (lo := 0) (n := (cntB (ns.map V.int).length).toNat) (fun i σ H' => ∃ v1 v2 v3, σ = [some (.ref a), v1, v2, v3] ∧ Same H H') ⟨_, _, _, rfl, Same.refl _⟩ ?_ ?_⟩
    · rintro i σ H' hi ⟨v1, v2, v3, rfl, sm⟩
      refine ⟨_, rfl, _, rfl, a, ns, 0 + (i : Int), rfl, sm.seq hS, hlen, by omega, by omega, fun b H1 s1 fb B1 => ?_⟩
      refine ⟨10, rfl, by decide, by decide, fun D hD => lc_range (lo := 0) (n := (10 : Int).toNat) (fun i H' => TruesAt D i H' ∧ Box (0 + 300 * i) H' b ∧ But b H1 H') ⟨upd_same, B1.new hD, But.new hD⟩ ?_ ?_⟩
      · rintro j H2 hj ⟨D1, B2, u2⟩
        have hj : j < 10 := hj
        have nDb : D ≠ b := B1.ne hD
        refine ⟨rfl, ?_⟩
        refine ⟨_, rfl, _, rfl, b, 100, _, rfl, B2, by omega, by decide, by decide, fun p S ls H3 R _ hbk B3 u3 => ?_⟩
        refine ⟨b, p, S, ls, _, rfl, hbk, R, B3, by omega, fun H4 B4 u4 => ?_⟩
        show ∃ acc, _ ∧ _ ∧ _
        refine ⟨_, u4 _ _ nDb (u3 _ _ nDb D1), by rw [trues_len]; exact Nat.lt_trans hj (by decide), by unfold TruesAt; rw [upd_same, trues_snoc], (B4.set nDb).mono (by omega), fun x o nb h => kp_set (ne_of_none h hD) (u4 _ _ nb (u3 _ _ nb (u2 _ _ nb h)))⟩
      · rintro H2 ⟨D1, B2, u2⟩
        refine ⟨_, _, rfl, SqL.of D1, _, rfl, ?_⟩
        rw [all_true]
        refine iteF ⟨_, _, _, rfl, fun x o h => u2 _ _ (ne_of_none (sm _ _ h) fb) (s1 _ _ (sm _ _ h))⟩
    · rintro σ H' ⟨v1, v2, v3, rfl, sm⟩
      refine ⟨szl 1 rfl, fun q hq => ⟨szl 2 rfl, fun p hp => ⟨szl 0 rfl, fun t ht => ?_⟩⟩⟩
      refine ⟨p, q, t, 5, 0, [], false, rfl, kp_new ht upd_same, upd_same, Nat.zero_le _, fun r H1 h1 s1 => ⟨szl 0 rfl, fun t2 ht2 => ⟨_, _, Dp.tup (SqT.of (kp_new ht2 h1)) .nil, Dp.tup (SqT.of upd_same) .nil, rfl, rfl, k _⟩⟩⟩

end
end My

namespace My
open PySem L2
theorem all_mk {l : PySem.W.OpenLaw} {w : World} {K : PySem.W.Frag} {h : Heap} {mg : Str → Option Value} {fa f1 f2 f3 f4 f5 f6 f7 f8 f9 f10 f11 f12 f13 f14 C1 D12 : Addr} (X : K.In h) (G : h.Ns mainGlobals mg) (hfa : mg "law" = some (.ref fa))
    {od1 an1 od2 an2 od3 an3 od4 an4 od5 an5 od6 an6 od7 an7 od8 an8 od9 an9 od10 an10 od11 an11 od12 an12 od13 an13 od14 an14 : Option Addr} {sl1 sl2 sl3 sl4 sl5 sl6 sl7 sl8 sl9 sl10 sl11 sl12 sl13 sl14 : Array (Option Value)} {oc1 kV1 dc1 pm1 cd1 ct1 oc2 kV2 dc2 pm2 cd2 ct2 oc3 kV3 dc3 pm3 cd3 ct3 oc4 kV4 dc4 pm4 cd4 ct4 oc5 kV5 dc5 pm5 cd5 ct5 oc6 kV6 dc6 pm6 cd6 ct6 oc7 kV7 dc7 pm7 cd7 ct7 oc8 kV8 dc8 pm8 cd8 ct8 oc9 kV9 dc9 pm9 cd9 ct9 oc10 kV10 dc10 pm10 cd10 ct10 oc11 kV11 dc11 pm11 cd11 ct11 oc12  dc12 pm12 cd12 ct12 oc13 kV13 dc13 pm13 cd13 ct13 oc14 kV14 dc14 pm14 cd14 ct14 : Value}
    (aC1 : PySem.W.nsIn K mainGlobals "Course" = some (some (.ref C1))) (pg1 : PySem.W.plainGet K C1 Str.empty = true) (hd1 : PySem.W.hasDictIn K C1 = true) (po1 : PySem.W.plainOver K C1 = true) (sa1 : PySem.W.findIn K (.ref C1) "__setattr__" = some (some (.builtin "object.__setattr__"))) (mk1 : PySem.W.makesIn K C1 = true) (kc1 : PySem.W.keepIn K (.ref C1) = true)
    (nA1_spots : PySem.W.findIn K (.ref C1) "spots" = some none)
    (nA1_borders : PySem.W.findIn K (.ref C1) "borders" = some none)
    (a1 : PySem.W.nsIn K mainGlobals "_law_take" = some (some (.ref f1)))
    (l1 : K.lookup f1 = some ⟨oc1, od1, .func (PySem.W.fnOf "_law_take" "_law_take" (defArgs s_Ltake) (defBody s_Ltake) (defScope s_Ltake) .none kV1 dc1 pm1 an1 cd1 ct1), sl1⟩) (c1 : PySem.W.codeIn K cd1 "_law_take" = true) (k1 : PySem.W.keepIn K (.ref f1) = true)
    (a2 : PySem.W.nsIn K mainGlobals "_law_box" = some (some (.ref f2)))
    (l2 : K.lookup f2 = some ⟨oc2, od2, .func (PySem.W.fnOf "_law_box" "_law_box" (defArgs s_Lbox) (defBody s_Lbox) (defScope s_Lbox) .none kV2 dc2 pm2 an2 cd2 ct2), sl2⟩) (c2 : PySem.W.codeIn K cd2 "_law_box" = true) (k2 : PySem.W.keepIn K (.ref f2) = true)
    (a3 : PySem.W.nsIn K mainGlobals "_law_of" = some (some (.ref f3)))
    (l3 : K.lookup f3 = some ⟨oc3, od3, .func (PySem.W.fnOf "_law_of" "_law_of" (defArgs s_Lof) (defBody s_Lof) (defScope s_Lof) .none kV3 dc3 pm3 an3 cd3 ct3), sl3⟩) (c3 : PySem.W.codeIn K cd3 "_law_of" = true) (k3 : PySem.W.keepIn K (.ref f3) = true)
    (a4 : PySem.W.nsIn K mainGlobals "_law_book" = some (some (.ref f4)))
    (l4 : K.lookup f4 = some ⟨oc4, od4, .func (PySem.W.fnOf "_law_book" "_law_book" (defArgs s_Lbook) (defBody s_Lbook) (defScope s_Lbook) .none kV4 dc4 pm4 an4 cd4 ct4), sl4⟩) (c4 : PySem.W.codeIn K cd4 "_law_book" = true) (k4 : PySem.W.keepIn K (.ref f4) = true)
    (a5 : PySem.W.nsIn K mainGlobals "_law_tale" = some (some (.ref f5)))
    (l5 : K.lookup f5 = some ⟨oc5, od5, .func (PySem.W.fnOf "_law_tale" "_law_tale" (defArgs s_Ltale) (defBody s_Ltale) (defScope s_Ltale) .none kV5 dc5 pm5 an5 cd5 ct5), sl5⟩) (c5 : PySem.W.codeIn K cd5 "_law_tale" = true) (k5 : PySem.W.keepIn K (.ref f5) = true)
    (a6 : PySem.W.nsIn K mainGlobals "_law_run" = some (some (.ref f6)))
    (l6 : K.lookup f6 = some ⟨oc6, od6, .func (PySem.W.fnOf "_law_run" "_law_run" (defArgs s_Lrun) (defBody s_Lrun) (defScope s_Lrun) .none kV6 dc6 pm6 an6 cd6 ct6), sl6⟩) (c6 : PySem.W.codeIn K cd6 "_law_run" = true) (k6 : PySem.W.keepIn K (.ref f6) = true)
    (a7 : PySem.W.nsIn K mainGlobals "is_rotated" = some (some (.ref f7)))
    (l7 : K.lookup f7 = some ⟨oc7, od7, .func (PySem.W.fnOf "is_rotated" "is_rotated" (defArgs s_is_rotated) (defBody s_is_rotated) (defScope s_is_rotated) .none kV7 dc7 pm7 an7 cd7 ct7), sl7⟩) (c7 : PySem.W.codeIn K cd7 "is_rotated" = true) (k7 : PySem.W.keepIn K (.ref f7) = true)
    (a8 : PySem.W.nsIn K mainGlobals "fill_behind" = some (some (.ref f8)))
    (l8 : K.lookup f8 = some ⟨oc8, od8, .func (PySem.W.fnOf "fill_behind" "fill_behind" (defArgs s_fill_behind) (defBody s_fill_behind) (defScope s_fill_behind) .none kV8 dc8 pm8 an8 cd8 ct8), sl8⟩) (c8 : PySem.W.codeIn K cd8 "fill_behind" = true) (k8 : PySem.W.keepIn K (.ref f8) = true)
    (a9 : PySem.W.findIn K (.ref C1) "__init__" = some (some (.ref f9))) (i9 : PySem.W.isFn K (.ref f9) = true)
    (l9 : K.lookup f9 = some ⟨oc9, od9, .func (PySem.W.fnOf "__init__" "Course.__init__" (defArgs s_Coursedd_initdd) (defBody s_Coursedd_initdd) (defScope s_Coursedd_initdd) .none kV9 dc9 pm9 an9 cd9 ct9), sl9⟩) (c9 : PySem.W.codeIn K cd9 "Course.__init__" = true) (k9 : PySem.W.keepIn K (.ref f9) = true)
    (a10 : PySem.W.findIn K (.ref C1) "behind" = some (some (.ref f10))) (i10 : PySem.W.isFn K (.ref f10) = true)
    (l10 : K.lookup f10 = some ⟨oc10, od10, .func (PySem.W.fnOf "behind" "Course.behind" (defArgs s_Course_behind) (defBody s_Course_behind) (defScope s_Course_behind) .none kV10 dc10 pm10 an10 cd10 ct10), sl10⟩) (c10 : PySem.W.codeIn K cd10 "Course.behind" = true) (k10 : PySem.W.keepIn K (.ref f10) = true)
    (a11 : PySem.W.findIn K (.ref C1) "all_behind" = some (some (.ref f11))) (i11 : PySem.W.isFn K (.ref f11) = true)
    (l11 : K.lookup f11 = some ⟨oc11, od11, .func (PySem.W.fnOf "all_behind" "Course.all_behind" (defArgs s_Course_all_behind) (defBody s_Course_all_behind) (defScope s_Course_all_behind) .none kV11 dc11 pm11 an11 cd11 ct11), sl11⟩) (c11 : PySem.W.codeIn K cd11 "Course.all_behind" = true) (k11 : PySem.W.keepIn K (.ref f11) = true)
    (a12 : PySem.W.nsIn K mainGlobals "missed" = some (some (.ref f12)))
    (l12 : K.lookup f12 = some ⟨oc12, od12, .func (PySem.W.fnOf "missed" "missed" (defArgs s_missed) (defBody s_missed) (defScope s_missed) .none (.ref D12) dc12 pm12 an12 cd12 ct12), sl12⟩) (c12 : PySem.W.codeIn K cd12 "missed" = true) (k12 : PySem.W.keepIn K (.ref f12) = true)
    (w12_holds : PySem.W.nsIn K D12 "holds" = some (some (.bool false)))
    (a13 : PySem.W.nsIn K mainGlobals "_law_right" = some (some (.ref f13)))
    (l13 : K.lookup f13 = some ⟨oc13, od13, .func (PySem.W.fnOf "_law_right" "_law_right" (defArgs s_Lright) (defBody s_Lright) (defScope s_Lright) .none kV13 dc13 pm13 an13 cd13 ct13), sl13⟩) (c13 : PySem.W.codeIn K cd13 "_law_right" = true) (k13 : PySem.W.keepIn K (.ref f13) = true)
    (a14 : PySem.W.nsIn K mainGlobals "law" = some (some (.ref f14)))
    (l14 : K.lookup f14 = some ⟨oc14, od14, .func (PySem.W.fnOf "law" "law" (defArgs s_law) (defBody s_law) (defScope s_law) .none kV14 dc14 pm14 an14 cd14 ct14), sl14⟩) (c14 : PySem.W.codeIn K cd14 "law" = true) (k14 : PySem.W.keepIn K (.ref f14) = true)
    (z_abs : PySem.W.nsIn K mainGlobals "abs" = some none)
    (z_int : PySem.W.nsIn K mainGlobals "int" = some none)
    (z_len : PySem.W.nsIn K mainGlobals "len" = some none)
    (z_tuple : PySem.W.nsIn K mainGlobals "tuple" = some none)
    (z_sorted : PySem.W.nsIn K mainGlobals "sorted" = some none)
    (z_range : PySem.W.nsIn K mainGlobals "range" = some none)
    (z_max : PySem.W.nsIn K mainGlobals "max" = some none)
    (z_isinstance : PySem.W.nsIn K mainGlobals "isinstance" = some none)
    (z_enumerate : PySem.W.nsIn K mainGlobals "enumerate" = some none)
    (z_repr : PySem.W.nsIn K mainGlobals "repr" = some none)
    (z_min : PySem.W.nsIn K mainGlobals "min" = some none)
    (z_all : PySem.W.nsIn K mainGlobals "all" = some none)
    {t_ROTATE : Tok} (v_ROTATE : PySem.W.nsIn K mainGlobals "ROTATE" = some (some (Value.str "rotate" t_ROTATE)))
    {t_LOOK : Tok} (v_LOOK : PySem.W.nsIn K mainGlobals "LOOK" = some (some (Value.str "look" t_LOOK)))
    : ∃ fd : FuncData, (∀ (s : Shared) (v : Value), BindsTo s fd ⟨[v], []⟩ [("_law_script", v)]) ∧ ∀ base : Heap, K.In base → base.Ns mainGlobals mg → FnG l.prog w K mg base 7 fa fd ["_law_script"] (sp_law K) := by
  have e := hfa.symm.trans (PySem.W.mg_of X G a14)
  cases e
  have F1 := fun_mk (st := s_Ltake) l1 c1 k1
  have b1 := F1.binds (ps := ["_law_box_here", "_law_many"]) fun _ _ _ _ _ _ us hl => match us, hl with | [_, _], _ => rfl
  have F2 := fun_mk (st := s_Lbox) l2 c2 k2
  have b2 := F2.binds (ps := ["_law_script", "_law_k"]) fun _ _ _ _ _ _ us hl => match us, hl with | [_, _], _ => rfl
  have F3 := fun_mk (st := s_Lof) l3 c3 k3
  have b3 := F3.binds (ps := ["_law_box_here", "_law_some"]) fun _ _ _ _ _ _ us hl => match us, hl with | [_, _], _ => rfl
  have F4 := fun_mk (st := s_Lbook) l4 c4 k4
  have b4 := F4.binds (ps := ["_law_box_here", "_law_top"]) fun _ _ _ _ _ _ us hl => match us, hl with | [_, _], _ => rfl
  have F5 := fun_mk (st := s_Ltale) l5 c5 k5
  have b5 := F5.binds (ps := ["_law_box_here", "_law_book_here", "_law_bound", "_law_often", "_law_many"]) fun _ _ _ _ _ _ us hl => match us, hl with | [_, _, _, _, _], _ => rfl
  have F6 := fun_mk (st := s_Lrun) l6 c6 k6
  have b6 := F6.binds (ps := ["_law_book_here", "_law_many", "_law_tale_here"]) fun _ _ _ _ _ _ us hl => match us, hl with | [_, _, _], _ => rfl
  have F7 := fun_mk (st := s_is_rotated) l7 c7 k7
  have b7 := F7.binds (ps := ["rules", "fill", "event"]) fun _ _ _ _ _ _ us hl => match us, hl with | [_, _, _], _ => rfl
  have F8 := fun_mk (st := s_fill_behind) l8 c8 k8
  have b8 := F8.binds (ps := ["rules", "fill", "event"]) fun _ _ _ _ _ _ us hl => match us, hl with | [_, _, _], _ => rfl
  have F9 := fun_mk (st := s_Coursedd_initdd) l9 c9 k9
  have b9 := F9.binds (ps := ["self", "rules", "history"]) fun _ _ _ _ _ _ us hl => match us, hl with | [_, _, _], _ => rfl
  have F10 := fun_mk (st := s_Course_behind) l10 c10 k10
  have b10 := F10.binds (ps := ["self", "number", "holds"]) fun _ _ _ _ _ _ us hl => match us, hl with | [_, _, _], _ => rfl
  have F11 := fun_mk (st := s_Course_all_behind) l11 c11 k11
  have b11 := F11.binds (ps := ["self", "holds"]) fun _ _ _ _ _ _ us hl => match us, hl with | [_, _], _ => rfl
  have F12 : FunD K "missed" "missed" (defArgs s_missed) (defBody s_missed) (defScope s_missed) [] [("holds", .bl false)] f12 _ := ⟨⟨_, _, _, _, _, _, _, _, _, _, rfl, l12, c12, .inl ⟨rfl, rfl⟩, .inr ⟨D12, rfl, fun q hq => by
    simp only [List.mem_cons, List.not_mem_nil, or_false] at hq
    rcases hq with rfl
    · exact ⟨_, w12_holds, rfl⟩
    ⟩⟩, k12⟩
  have b12 := F12.binds0 (ps := ["rules", "kept", "history", "holds"]) 3 (by simp) rfl fun _ _ _ _ _ _ us ks h1 h2 => match us, ks, h1, h2 with | [_, _, _], [_], _, _ => ⟨_, _, _, _, _, _, rfl, rfl, rfl⟩
  have e12 : KBn K _ ["rules", "kept", "history", "holds"] 3 ["holds"] (fun us ws => us ++ ws) (fun vs zs => vs ++ zs) := kw_all F12 3 ["holds"] fun _ _ _ _ _ _ us ws h1 h2 => match us, ws, h1, h2 with | [_, _, _], [_], _, _ => rfl
  have F13 := fun_mk (st := s_Lright) l13 c13 k13
  have b13 := F13.binds (ps := ["_law_box_here", "_law_book_here"]) fun _ _ _ _ _ _ us hl => match us, hl with | [_, _], _ => rfl
  have F14 := fun_mk (st := s_law) l14 c14 k14
  have T : Txt K mg := ⟨⟨⟨_, _, F1, PySem.W.mg_of X G a1, b1⟩⟩,
    ⟨⟨_, _, F2, PySem.W.mg_of X G a2, b2⟩⟩,
    ⟨⟨_, _, F3, PySem.W.mg_of X G a3, b3⟩⟩,
    ⟨⟨_, _, F4, PySem.W.mg_of X G a4, b4⟩⟩,
    ⟨⟨_, _, F5, PySem.W.mg_of X G a5, b5⟩⟩,
    ⟨⟨_, _, F6, PySem.W.mg_of X G a6, b6⟩⟩,
    ⟨⟨_, _, F7, PySem.W.mg_of X G a7, b7⟩⟩,
    ⟨⟨_, _, F8, PySem.W.mg_of X G a8, b8⟩⟩,
    ⟨⟨_, _, F12, PySem.W.mg_of X G a12, b12, e12⟩⟩,
    ⟨⟨_, _, F13, PySem.W.mg_of X G a13, b13⟩⟩,
    ⟨_, ⟨pg1, hd1, po1, sa1⟩, PySem.W.mg_of X G aC1, ⟨⟨_, _, F9, b9, ⟨mk1, a9, i9, kc1⟩⟩⟩, ⟨⟨_, _, F10, b10, ⟨a10, i10, k10⟩⟩⟩, ⟨⟨_, _, F11, b11, ⟨a11, i11, k11⟩⟩⟩, nA1_spots, nA1_borders⟩,
    PySem.W.mg_none_of X G z_abs,
    PySem.W.mg_none_of X G z_int,
    PySem.W.mg_none_of X G z_len,
    PySem.W.mg_none_of X G z_tuple,
    PySem.W.mg_none_of X G z_sorted,
    PySem.W.mg_none_of X G z_range,
    PySem.W.mg_none_of X G z_max,
    PySem.W.mg_none_of X G z_isinstance,
    PySem.W.mg_none_of X G z_enumerate,
    PySem.W.mg_none_of X G z_repr,
    PySem.W.mg_none_of X G z_min,
    PySem.W.mg_none_of X G z_all,
    ⟨_, PySem.W.mg_of X G v_ROTATE⟩,
    ⟨_, PySem.W.mg_of X G v_LOOK⟩⟩
  exact ⟨PySem.W.fnOf "law" "law" (defArgs s_law) (defBody s_law) (defScope s_law) .none kV14 dc14 pm14 an14 cd14 ct14, fun s v => .of_eq rfl, fun base _ _ => ok_law T F14⟩
end My
open PySem PySem.W PyProof.Rows in
set_option maxRecDepth 100000 in
set_option maxHeartbeats 0 in
theorem PySem.Challenge.cw_rotatedlogs_k30_missed_lines_holds : PySem.Challenge.rw_rotatedlogs_k30_missed_lines.Holds := by
  w_on; o_law; k_head; (case hw => w_witness2)
  k_fill
  refine My.walk_g (l := PySem.Challenge.rw_rotatedlogs_k30_missed_lines) (k := 7) (x := "_law_script") (sp := My.sp_law) rfl rfl ⟨rfl, by decide, by decide⟩ (fun w h Y => PySem.W.kIn_of Y) ?F (fun K H a ns hl _ hS => ⟨a, ns, rfl, hS, hl, fun _ => rfl⟩)
  case F =>
    intro w mg fa h KX G hmg
    refine' My.all_mk KX G hmg ?aC1 ?pg1 ?hd1 ?po1 ?sa1 ?mk1 ?kc1 ?nA1_spots ?nA1_borders ?a1 ?l1 ?c1 ?k1 ?a2 ?l2 ?c2 ?k2 ?a3 ?l3 ?c3 ?k3 ?a4 ?l4 ?c4 ?k4 ?a5 ?l5 ?c5 ?k5 ?a6 ?l6 ?c6 ?k6 ?a7 ?l7 ?c7 ?k7 ?a8 ?l8 ?c8 ?k8 ?a9 ?i9 ?l9 ?c9 ?k9 ?a10 ?i10 ?l10 ?c10 ?k10 ?a11 ?i11 ?l11 ?c11 ?k11 ?a12 ?l12 ?c12 ?k12 ?w12_holds ?a13 ?l13 ?c13 ?k13 ?a14 ?l14 ?c14 ?k14 ?z_abs ?z_int ?z_len ?z_tuple ?z_sorted ?z_range ?z_max ?z_isinstance ?z_enumerate ?z_repr ?z_min ?z_all ?v_ROTATE ?v_LOOK
    (case aC1 => k_is)
    (case pg1 => k_is)
    (case hd1 => k_is)
    (case po1 => k_is)
    (case sa1 => k_is)
    (case mk1 => k_is)
    (case kc1 => k_is)
    (case nA1_spots => k_is)
    (case nA1_borders => k_is)
    (case a1 => k_is)
    (case l1 => k_is)
    (case c1 => k_is)
    (case k1 => k_is)
    (case a2 => k_is)
    (case l2 => k_is)
    (case c2 => k_is)
    (case k2 => k_is)
    (case a3 => k_is)
    (case l3 => k_is)
    (case c3 => k_is)
    (case k3 => k_is)
    (case a4 => k_is)
    (case l4 => k_is)
    (case c4 => k_is)
    (case k4 => k_is)
    (case a5 => k_is)
    (case l5 => k_is)
    (case c5 => k_is)
    (case k5 => k_is)
    (case a6 => k_is)
    (case l6 => k_is)
    (case c6 => k_is)
    (case k6 => k_is)
    (case a7 => k_is)
    (case l7 => k_is)
    (case c7 => k_is)
    (case k7 => k_is)
    (case a8 => k_is)
    (case l8 => k_is)
    (case c8 => k_is)
    (case k8 => k_is)
    (case a9 => k_is)
    (case i9 => k_is)
    (case l9 => k_is)
    (case c9 => k_is)
    (case k9 => k_is)
    (case a10 => k_is)
    (case i10 => k_is)
    (case l10 => k_is)
    (case c10 => k_is)
    (case k10 => k_is)
    (case a11 => k_is)
    (case i11 => k_is)
    (case l11 => k_is)
    (case c11 => k_is)
    (case k11 => k_is)
    (case a12 => k_is)
    (case l12 => k_is)
    (case c12 => k_is)
    (case k12 => k_is)
    (case w12_holds => k_is)
    (case a13 => k_is)
    (case l13 => k_is)
    (case c13 => k_is)
    (case k13 => k_is)
    (case a14 => k_is)
    (case l14 => k_is)
    (case c14 => k_is)
    (case k14 => k_is)
    (case z_abs => k_is)
    (case z_int => k_is)
    (case z_len => k_is)
    (case z_tuple => k_is)
    (case z_sorted => k_is)
    (case z_range => k_is)
    (case z_max => k_is)
    (case z_isinstance => k_is)
    (case z_enumerate => k_is)
    (case z_repr => k_is)
    (case z_min => k_is)
    (case z_all => k_is)
    (case v_ROTATE => k_is)
    (case v_LOOK => k_is)
#print axioms PySem.Challenge.cw_rotatedlogs_k30_missed_lines_holds

