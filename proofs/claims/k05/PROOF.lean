import PyProof.Rows.All
import Wide.All
import OpenK.AllK
import Wide.FinOn
import HandS.ForMost
import HandS.Wide
import HandS.More
import HandS.Style
import HandS.Star
import HandS.IsInst
import KE.KTupSum
import HandS.Defaults
import HandS.Zip
import PySem.Challenge.RW_rotatedlogs_k05_turns
set_option Elab.async false
set_option linter.all false
set_option maxRecDepth 100000
set_option maxHeartbeats 4000000
namespace My
open PySem L2

/-! ### heaps -/
theorem kp_same {H H' : Hp} {a : Addr} {o : HO} (s : Same H H') (h : H a = some o) : H' a = some o := s a o h
theorem kp_new {H : Hp} {p a : Addr} {o u : HO} (n : H p = none) (h : H a = some o) : upd H p u a = some o := by
  rw [upd_ne (ne_of_none h n)]; exact h
theorem kp_set {H : Hp} {p a : Addr} {o u : HO} (ne : a ≠ p) (h : H a = some o) : upd H p u a = some o := by
  rw [upd_ne ne]; exact h
theorem same_new {H : Hp} {p : Addr} {u : HO} (n : H p = none) : Same H (upd H p u) := fun _ _ h => kp_new n h
/-- all but what stands at b is as it was -/
def But (b : Addr) (H H' : Hp) : Prop := ∀ a o, a ≠ b → H a = some o → H' a = some o
theorem But.refl (b : Addr) (H : Hp) : But b H H := fun _ _ _ h => h
theorem But.trans {b : Addr} {H H1 H2 : Hp} (x : But b H H1) (y : But b H1 H2) : But b H H2 := fun a o n h => y a o n (x a o n h)
theorem But.of {b : Addr} {H H' : Hp} (s : Same H H') : But b H H' := fun a o _ h => s a o h
theorem But.set {b : Addr} {H : Hp} {u : HO} : But b H (upd H b u) := fun a o n h => kp_set n h
theorem But.new {b p : Addr} {H : Hp} {u : HO} (n : H p = none) : But b H (upd H p u) := But.of (same_new n)
theorem But.free {b p : Addr} {H H' : Hp} (x : But b H H') (e : H' p = none) (n : p ≠ b) : H p = none := by
  cases q : H p with
  | none => rfl
  | some o => rw [x p o n q] at e; cases e
theorem kp_but {b a : Addr} {H H' : Hp} {o : HO} (x : But b H H') (n : a ≠ b) (h : H a = some o) : H' a = some o := x a o n h
theorem tup_ne {H : Hp} {a b : Addr} {xs ys : List V} (h : H a = some (.tup xs)) (h' : H b = some (.lst ys)) : a ≠ b := ne_of h h' (by intro z; cases z)

/-! ### the box of draws -/
def Box (n : Nat) (H : Hp) (b : Addr) : Prop := ∃ o m c : Int, H b = some (.lst [.int o, .int m, .int c]) ∧ 0 ≤ o ∧ 0 ≤ m ∧ m < 2 ^ 62 ∧ 0 ≤ c ∧ c ≤ n
theorem Box.mono {n k : Nat} {H : Hp} {b : Addr} (h : Box n H b) (l : n ≤ k) : Box k H b := by
  obtain ⟨o, m, c, h1, h2, h3, h4, h5, h6⟩ := h
  exact ⟨o, m, c, h1, h2, h3, h4, h5, by omega⟩
theorem Box.same {n : Nat} {H H' : Hp} {b : Addr} (h : Box n H b) (s : Same H H') : Box n H' b := by
  obtain ⟨o, m, c, h1, r⟩ := h
  exact ⟨o, m, c, s _ _ h1, r⟩
theorem Box.there {n : Nat} {H : Hp} {b : Addr} (h : Box n H b) : ∃ xs, H b = some (.lst xs) := by
  obtain ⟨o, m, c, h1, r⟩ := h
  exact ⟨_, h1⟩
theorem Box.new {n : Nat} {H : Hp} {b p : Addr} {u : HO} (h : Box n H b) (x : H p = none) : Box n (upd H p u) b := h.same (same_new x)

theorem Box.ne {n : Nat} {H : Hp} {b p : Addr} (h : Box n H b) (x : H p = none) : p ≠ b := (ne_of_none h.there.choose_spec x).symm
theorem Box.set {n : Nat} {H : Hp} {b p : Addr} {u : HO} (h : Box n H b) (x : p ≠ b) : Box n (upd H p u) b := by
  obtain ⟨o, m, c, h1, r⟩ := h
  exact ⟨o, m, c, kp_set x.symm h1, r⟩
/-! ### promises of the draws -/
def sp_take : Sp := fun vs H Q _ => ∃ (b : Addr) (many : Int) (n : Nat), vs = [.ref b, .int many] ∧ Box n H b ∧ n < 2 ^ 40 ∧ 0 < many ∧ many < 2 ^ 64 ∧
  ∀ (r : Int) (H' : Hp), 0 ≤ r → r < many → Box (n + 1) H' b → But b H H' → Q (.int r) H'

/-- from the script: the cell is any int -/
def sp_box (K : PySem.W.Frag) : Sp := fun vs H Q _ => ∃ (a : Addr) (ns : List Int) (k : Int), vs = [.ref a, .int k] ∧ SqL K H a (ns.map V.int) ∧ ns.length ≤ 63 ∧ 0 ≤ k ∧ k < 1000 ∧
  ∀ (b : Addr) (H' : Hp), Same H H' → H b = none → Box 0 H' b → Q (.ref b) H'
def sp_of (K : PySem.W.Frag) : Sp := fun vs H Q _ => ∃ (b a : Addr) (xs : List V) (n : Nat), vs = [.ref b, .ref a] ∧ Box n H b ∧ a ≠ b ∧ (H a = some (.lst xs) ∨ H a = some (.tup xs)) ∧ n < 2 ^ 40 ∧ xs ≠ [] ∧ xs.length < 2 ^ 60 ∧
  ∀ (v : V) (H' : Hp), v ∈ xs → Box (n + 1) H' b → But b H H' → Q v H'

/-- two ways that go on alike -/
theorem join {α : Type} {G : Prop} (P : α → Prop) (rest : ∀ x, P x) (use : (∀ x, P x) → G) : G := use rest
theorem b2_w (c : Bool) : -(2 ^ 64) < (if c = true then (1 : Int) else 0) ∧ (if c = true then (1 : Int) else 0) < 2 ^ 64 := by cases c <;> decide
theorem b2_nn (c : Bool) : (0 : Int) ≤ (if c = true then (1 : Int) else 0) := by cases c <;> decide
theorem szl {α : Type} {xs : List α} (n : Nat) (h : xs.length = n) (h2 : n ≤ sizeLine := by decide) : xs.length ≤ sizeLine := by rw [h]; exact h2
theorem nle {n : Nat} (m : Nat) (h : n = m) (h2 : m ≤ sizeLine := by decide) : n ≤ sizeLine := by rw [h]; exact h2
theorem one_of {z r : Int} {v : V} (r0 : 0 ≤ r) (z0 : 0 ≤ z) (z1 : z < 1 + r)
    (h : v ∈ ([.int (1 + z), .int (1 + z), .int (1 + z), .int (1 + z), .int ((1 + r) / 2 + 1), .int 1, .int (1 + r), .int (if (1 + r) / 2 > 1 then (1 + r) / 2 else 1), .int (if (1 + r) / 3 > 1 then (1 + r) / 3 else 1)] : List V)) :
    ∃ x : Int, v = .int x ∧ 1 ≤ x ∧ x ≤ 1 + r := by
  simp only [List.mem_cons, List.not_mem_nil, or_false] at h
  rcases h with h | h | h | h | h | h | h | h | h
  all_goals first
    | exact ⟨_, h, by omega, by omega⟩
    | (refine ⟨_, h, ?_, ?_⟩ <;> (split <;> omega))
theorem or_read {tA tB : TT} {σ : St} {H : Hp} {Q : Bool → Hp → Prop} (a c : Bool) (hA : ∀ Q : Bool → Hp → Prop, Q a H → tA σ H Q) (hB : a = false → ∀ Q : Bool → Hp → Prop, Q c H → tB σ H Q) (h : Q (a || c) H) : tOr tA tB σ H Q := by
  refine hA _ ?_
  cases a with
  | true => exact h
  | false => exact hB rfl _ h
theorem and_read {tA tB : TT} {σ : St} {H : Hp} {Q : Bool → Hp → Prop} (a c : Bool) (hA : ∀ Q : Bool → Hp → Prop, Q a H → tA σ H Q) (hB : a = true → ∀ Q : Bool → Hp → Prop, Q c H → tB σ H Q) (h : Q (a && c) H) : tAnd tA tB σ H Q := by
  refine hA _ ?_
  cases a with
  | true => exact hB rfl _ h
  | false => exact h
theorem or_if {tA tB : TT} {t u : TS} {D : Ends} {σ : St} {H : Hp} (a c : Bool) (hA : ∀ Q : Bool → Hp → Prop, Q a H → tA σ H Q) (hB : a = false → ∀ Q : Bool → Hp → Prop, Q c H → tB σ H Q) (h1 : (a || c) = true → t D σ H) (h2 : (a || c) = false → u D σ H) : tIfS (tOr tA tB) t u D σ H := by
  refine or_read a c hA hB ?_
  cases e : (a || c) with
  | true => exact h1 e
  | false => exact h2 e
theorem and_if {tA tB : TT} {t u : TS} {D : Ends} {σ : St} {H : Hp} (a c : Bool) (hA : ∀ Q : Bool → Hp → Prop, Q a H → tA σ H Q) (hB : a = true → ∀ Q : Bool → Hp → Prop, Q c H → tB σ H Q) (h1 : a = true → c = true → t D σ H) (h2 : (a && c) = false → u D σ H) : tIfS (tAnd tA tB) t u D σ H := by
  refine and_read a c hA hB ?_
  cases a with
  | true =>
    cases c with
    | true => exact h1 rfl rfl
    | false => exact h2 rfl
  | false => exact h2 rfl
/-! ### rules of more -/
section
variable {X : Cx}
def CPowW (i j : Int) : Prop := 0 ≤ j ∧ (Builtin.Int.intBits i : Int) * j ≤ 2 ^ 27
theorem op_powW : OpR X (binaryOp .Pow) (rI CPowW fun i j => .int (i ^ j.toNat)) := opI fun _ _ _ _ _ _ _ hc q => PyProof.Rows.pow_int hc.1 hc.2 q
end
theorem atI_in {α : Type} {xs : List α} {r : Int} (h0 : 0 ≤ r) (h1 : r < xs.length) : ∃ v, atI xs r = some v ∧ v ∈ xs := by
  obtain ⟨n, rfl⟩ : ∃ n : Nat, r = n := ⟨r.toNat, by omega⟩
  have h2 : n < xs.length := by omega
  exact ⟨xs[n], atI_nat (List.getElem?_eq_getElem h2), List.getElem_mem h2⟩

/-! ### rules of a log -/
structure Rules (S : Int) (ls : List Int) : Prop where
  s1 : 1 ≤ S
  s2 : S ≤ 100
  ne : ls ≠ []
  six : ls.length ≤ 6
  mem : ∀ l ∈ ls, 1 ≤ l ∧ l ≤ S
  asc : ls.Pairwise (· < ·)
def BookAt (H : Hp) (p : Addr) (S : Int) (ls : List Int) : Prop := ∃ q, H p = some (.tup [.int S, .ref q]) ∧ H q = some (.tup (ls.map V.int))
/-- all tuples stand -/
def Tups (H H' : Hp) : Prop := ∀ a xs, H a = some (.tup xs) → H' a = some (.tup xs)
theorem Tups.refl (H : Hp) : Tups H H := fun _ _ h => h
theorem Tups.trans {H H1 H2 : Hp} (x : Tups H H1) (y : Tups H1 H2) : Tups H H2 := fun a o h => y a o (x a o h)
theorem Same.tups {H H' : Hp} (s : Same H H') : Tups H H' := fun _ _ h => s _ _ h
theorem Tups.but {b : Addr} {H H' : Hp} {xs : List V} (s : But b H H') (h : H b = some (.lst xs)) : Tups H H' := fun _ _ q => s _ _ (tup_ne q h) q
theorem BookAt.tups {H H' : Hp} {p : Addr} {S : Int} {ls : List Int} (h : BookAt H p S ls) (t : Tups H H') : BookAt H' p S ls := by
  obtain ⟨q, h1, h2⟩ := h
  exact ⟨q, t _ _ h1, t _ _ h2⟩

def insL (ks : List Int) (k : Int) : List Int := if k ∈ ks then ks else ks ++ [k]
def dT (ks : List Int) : List (Key × V) := ks.map fun k => (Sum.inl k, V.bl true)
theorem dT_keys (ks : List Int) : (dT ks).map (·.1) = ks.map Sum.inl := by
  unfold dT
  rw [List.map_map]
  rfl
theorem dT_put (ks : List Int) (k : Int) : putK (dT ks) (Sum.inl k) (V.bl true) = dT (insL ks k) := by
  unfold putK insL dT
  by_cases h : k ∈ ks
  · rw [if_pos h, if_pos]
    · rw [List.map_map]
      apply List.map_congr_left
      intro a _
      show (if (Sum.inl a : Key) = Sum.inl k then ((Sum.inl a : Key), V.bl true) else (Sum.inl a, V.bl true)) = (Sum.inl a, V.bl true)
      split <;> rfl
    · rw [List.any_eq_true]
      exact ⟨(Sum.inl k, V.bl true), List.mem_map.mpr ⟨k, h, rfl⟩, decide_eq_true rfl⟩
  · rw [if_neg h, if_neg]
    · rw [List.map_append]
      rfl
    · rw [List.any_eq_true]
      rintro ⟨x, hx, e⟩
      obtain ⟨a, ha, rfl⟩ := List.mem_map.mp hx
      have e1 : (Sum.inl a : Key) = Sum.inl k := of_decide_eq_true e
      exact h (Sum.inl.inj e1 ▸ ha)
theorem insL_nd {ks : List Int} {k : Int} (h : ks.Nodup) : (insL ks k).Nodup := by
  unfold insL
  split
  · exact h
  · rename_i hk
    rw [List.nodup_append]
    refine ⟨h, by simp, ?_⟩
    intro a ha b hb e
    have : b = k := by simpa using hb
    exact hk (by rw [← this, ← e]; exact ha)
theorem insL_mem {ks : List Int} {k a : Int} (h : a ∈ insL ks k) : a ∈ ks ∨ a = k := by
  unfold insL at h
  split at h
  · exact .inl h
  · rcases List.mem_append.mp h with h | h
    · exact .inl h
    · exact .inr (by simpa using h)
theorem insL_len (ks : List Int) (k : Int) : (insL ks k).length ≤ ks.length + 1 := by
  unfold insL
  split
  · omega
  · simp
theorem insL_ne (ks : List Int) (k : Int) : insL ks k ≠ [] := by
  unfold insL
  split
  · rename_i h
    exact List.ne_nil_of_mem h
  · simp
theorem asc_of {ys ks : List Int} (p : ys.Perm ks) (h : ks.Nodup) (s : ys.Pairwise (· ≤ ·)) : ys.Pairwise (· < ·) := by
  have n : ys.Nodup := p.nodup_iff.mpr h
  have b := List.pairwise_and_iff.mpr ⟨s, n⟩
  exact b.imp fun {x y} ⟨h1, h2⟩ => by omega

def sp_book : Sp := fun vs H Q _ => ∃ (b : Addr) (top : Int) (n : Nat), vs = [.ref b, .int top] ∧ Box n H b ∧ n + 100 < 2 ^ 40 ∧ 1 ≤ top ∧ top ≤ 100 ∧
  ∀ (p : Addr) (S : Int) (ls : List Int) (H' : Hp), Rules S ls → S ≤ top → BookAt H' p S ls → Box (n + 14) H' b → But b H H' → Q (.ref p) H'

/-! ### events -/
inductive Ev where
  | line (l : Int)
  | look
  | rot
  deriving DecidableEq
def Ev.v : Ev → V
  | .line l => .int l
  | .look => .str "look"
  | .rot => .str "rotate"
def Ev.ok (ls : List Int) : Ev → Prop
  | .line l => l ∈ ls
  | _ => True
/-- bytes and rotations by hand since the last look -/
def Ev.st : Int × Int → Ev → Int × Int
  | (s, h), .line l => (s + l, h)
  | _, .look => (0, 0)
  | (s, h), .rot => (s, h + 1)
def stOf (es : List Ev) : Int × Int := es.foldl Ev.st (0, 0)
theorem stOf_snoc (es : List Ev) (e : Ev) : stOf (es ++ [e]) = Ev.st (stOf es) e := by
  unfold stOf
  rw [List.foldl_append]
  rfl
def Tame (bound often : Int) (es : List Ev) : Prop := ∀ j, j ≤ es.length → (stOf (es.take j)).1 ≤ bound ∧ (stOf (es.take j)).2 ≤ often
theorem Tame.nil {bound often : Int} (h1 : 0 ≤ bound) (h2 : 0 ≤ often) : Tame bound often [] := fun j hj => by
  have : j = 0 := by simpa using hj
  subst this
  exact ⟨h1, h2⟩
theorem Tame.snoc {bound often : Int} {es : List Ev} {e : Ev} (h : Tame bound often es) (h1 : (Ev.st (stOf es) e).1 ≤ bound) (h2 : (Ev.st (stOf es) e).2 ≤ often) : Tame bound often (es ++ [e]) := fun j hj => by
  by_cases hl : j ≤ es.length
  · rw [List.take_append_of_le_length hl]
    exact h j hl
  · have e1 : (es ++ [e]).take j = es ++ [e] := List.take_of_length_le (by simp at hj ⊢; omega)
    rw [e1, stOf_snoc]
    exact ⟨h1, h2⟩
def sp_tale : Sp := fun vs H Q _ => ∃ (b bk : Addr) (S : Int) (ls : List Int) (bound often many : Int) (n : Nat), vs = [.ref b, .ref bk, .int bound, .int often, .int many] ∧ BookAt H bk S ls ∧ Rules S ls ∧ Box n H b ∧
  0 ≤ bound ∧ 0 ≤ often ∧ 0 ≤ many ∧ many ≤ 1000 ∧ n + 2000 < 2 ^ 40 ∧
  ∀ (t : Addr) (es : List Ev) (H' : Hp), H' t = some (.tup (es.map Ev.v)) → (∀ e ∈ es, Ev.ok ls e) → (es.length : Int) ≤ many → Tame bound often es → Box (n + 2 * many.toNat) H' b → But b H H' → Q (.ref t) H'
end My

namespace My
open PySem PySem.Spec PyProof.Rows L2

/-! ### defs that want to know that no repr is under way (they call repr) -/
structure FnG (P : Program) (w : World) (K : PySem.W.Frag) (mg : Str → Option Value) (base : Heap) (k : Nat) (f : Addr) (fd : FuncData) (ps : List Str) (sp : Sp) : Prop where
  len : ∀ vs H Q, sp vs H Q E0 → vs.length = ps.length
  go : ∀ {A : Around} {out : List Env} {s : Shared} {H : Hp} {as : Args} {us : List Value} {vs : List V} {Q : VK}, A.guards = some [] → Room k A → Env0 P w K mg base A out s H →
    BindsTo s fd as (ps.zip us) → Vals vs us → sp vs H Q E0 → codeAny (model P w) A (.call (.ref f) as) (CR CX0 out P w H s Q E0) s
theorem FnOk.g {P : Program} {w : World} {K : PySem.W.Frag} {mg : Str → Option Value} {base : Heap} {k : Nat} {f : Addr} {fd : FuncData} {ps : List Str} {sp : Sp} (F : FnOk P w K mg base CX0 k f fd ps sp) : FnG P w K mg base k f fd ps sp :=
  ⟨fun vs H Q h => F.len vs H Q _ h, fun _ hr he hb hv h => F.run _ _ _ _ _ _ _ _ _ hr he hb hv h⟩

section
variable {P : Program} {w : World} {K : PySem.W.Frag} {mg : Str → Option Value} {base : Heap}
theorem g_ok {nm qual : Str} {st : Stmt} {f : Addr} {fd : FuncData} {N ps : List Str} {k : Nat} {sp : Sp} (F : Fun K nm qual st f fd) (S : FnScope N ps (defScope st)) (len : ∀ vs H Q, sp vs H Q E0 → vs.length = ps.length)
    (body : ∀ (cdv : Value) (A : Around) (out : List Env) (s : Shared) (H : Hp) (vs : List V) (Q : VK), (A.deeper (envOfC qual (defScope st) s.heap.objs.size f cdv)).guards = some [] →
      Room k (A.deeper (envOfC qual (defScope st) s.heap.objs.size f cdv)) → sp vs H Q E0 →
      ∃ t, PSs (cxOf CX0 P w K mg base N qual (defScope st) f cdv A out s H E0).nox (defBody st) t ∧ t { nx := fun _ H' => Q .non H', rt := Q } (start N vs) H) :
    FnG P w K mg base (k + 1) f fd ps sp := by
  obtain ⟨oc, od, kV, doc, pm, an, cdv, ct, osl, rfl, lk, hcd⟩ := F.ex
  refine ⟨len, ?_⟩
  intro A out s H as us vs Q hg hr e0 hb rv hsp
  have hst : ∀ b o, base.get? b = some o → s.heap.get? b = some o := fun b o e => (e0.bs b o e).1
  have hK : K.In s.heap := e0.mod.kin.keeps hst
  have places : ∀ y ∈ ps.zip us, (defScope st).names.lookup y.1 = some .local ∨ ((defScope st).names.lookup y.1 = some .cell ∧ ((cellsFrom (s.heap.objs.size + 1) (defScope st).names []).lookup y.1).isSome = true) := by
    intro y hy
    obtain ⟨n, v⟩ := y
    exact (S.par n (List.of_mem_zip hy).1).imp id fun q => ⟨q, PySem.W.cellsFrom_some _ _ _ (.inl q)⟩
  refine codeAny_call_function hr.depth (hK _ _ lk) rfl S.co S.gen rfl (PySem.W.codeRec_of hK hcd) (hb _ _ _ _ (wpAny_newFunctionEnv_cells S.kind places fun env he s2 x => ?_))
  cases he
  refine ⟨(e0.mod.nolimit.keeps hst).keeps x.toInCall.keep, codeAny_func ?_⟩
  obtain ⟨t, ht, ht2⟩ := body cdv A out s H vs Q hg (hr.deeper _) hsp
  have I := inv_start (CX := CX0) (E := E0) S hr.hd e0 (len _ _ _ hsp) rv x
  refine wpAny_mono (ht.nox.run [] s2 _ H _ I ht2) ?_ fun _ _ h => h
  intro fl s3 h3
  cases fl with
  | next =>
    obtain ⟨σ3, H3, J, q⟩ := h3
    exact ⟨V.non, H3, J.os, J.bare, J.base, J.hok, rfl, q⟩
  | ret u =>
    obtain ⟨v3, σ3, H3, J, r3, q⟩ := h3
    exact ⟨v3, H3, J.os, J.bare, J.base, J.hok, r3, q⟩
  | brk => exact (h3.choose_spec.choose_spec.2 : False).elim
  | cont => exact (h3.choose_spec.choose_spec.2 : False).elim
end

section
variable {X : Cx} {k : Nat} {f : Addr} {fd : FuncData} {ps : List Str} {sp : Sp} {x : Str} {p pos : Pos} {e : Expr} {es : List Expr} {t : TA}
theorem runG {pins : List (Addr × Obj)} {σ : L2.St} {H : Hp} {s : Shared} {Q : VK} {us : List Value} {vs : List V} (hg : X.A.guards = some []) (F : FnG X.prog X.w X.K X.mg X.base k f fd ps sp) (hr : Room k X.A) (hb : Binds X.K fd ps [])
    (I : Inv X pins σ H s) (r : Vals vs us) (h : sp vs H Q E0) : wpAny (model X.prog X.w) X.A (call (.ref f) us) (EP X pins σ Q) X.xe s := by
  have hlen : (us ++ []).length = ps.length := by
    rw [List.append_nil, ← r.length]
    exact F.len _ _ _ h
  have hbt := hb s us I.kIn hlen
  rw [List.append_nil] at hbt
  refine wpAny_call (codeAny_mono (F.go hg hr I.env0 hbt r h) ?_)
  intro res s2 hq
  match res, hq with
  | .error _, hq => exact hq.elim
  | .ok (.ret u), hq => exact I.after hq
/-- f(e, ..) of such a def -/
theorem pe_callG (hg : X.A.guards = some []) (F : FnG X.prog X.w X.K X.mg X.base k f fd ps sp) (hr : Room k X.A) (hgl : Gl X x) (hm : X.mg x = some (.ref f)) (hk : PySem.W.keepIn X.K (.ref f) = true) (hb : Binds X.K fd ps [])
    (ha : PA X (e :: es) t) (he : starEach (e :: es) X.env = (false, eval e X.env) :: starEach es X.env := by rfl) (hpl : (backTo pos (starEach es X.env)).any (·.1) = false := by rfl)
    (hdb : (x == ("__debug__" : Str)) = false := by decide) : PE X (.Call (.Name x p) (e :: es) [] pos) (tCall sp [] E0 t) := by
  constructor
  intro pins s σ H Q I want
  have step : ∀ (us : List Value) (s2 : Shared), AP X pins σ (fun vs H2 => sp (vs ++ []) H2 Q E0) us s2 → X.K.In s2.heap ∧ wpAny (model X.prog X.w) X.A (call (.ref f) us) (EP X pins σ Q) X.xe s2 := by
    rintro us s2 ⟨vs, H2, I2, r2, q2⟩
    rw [List.append_nil] at q2
    exact ⟨I2.kIn, runG hg F hr hb I2 r2 q2⟩
  exact wpAny_Call_Name_kw (ld_glob I hgl hm (PySem.W.callWith_K (h₀ := X.base) I.ok.mod.kin hk (thn (ha.run pos pins s σ H _ I want) step) he hpl) hdb)
end

/-! ### the law's own call -/
theorem top_run {P : Program} {w : World} {K : PySem.W.Frag} {mg mb : Str → Option Value} {k : Nat} {fa a : Addr} {fd : FuncData} {x : Str} {sp : Sp} {s : Shared} {vs : List Value} {H : Hp}
    (kin : K.In s.heap) (ng : s.heap.Ns mainGlobals mg) (nb : s.heap.Ns builtinsNs mb) (eb : ∀ y : Str, y ≠ "__name__" → mb y = bootBuiltins y) (nl : s.heap.NoLimit) (gs : s.gens = #[])
    (sa : s.heap.get? a = some { cls := .type "list", data := .seq vs.toArray }) (rm : Room k callerA)
    (F : ∀ base : Heap, K.In base → base.Ns mainGlobals mg → FnG P w K mg base k fa fd [x] sp) (bt : ∀ (s : Shared) (u : Value), BindsTo s fd ⟨[u], []⟩ [(x, u)])
    (only : Only H) (hok : HOk P w H s.heap) (alone : ∀ b, H b ≠ none → b = a) (noK : H a ≠ none → K.lookup a = none) (due : sp [.ref a] H (fun v _ => v = .bl true) E0) :
    codeAny (model P w) callerA (.call (.ref fa) ⟨[.ref a], []⟩) (fun r s' => r = .ok (.ret (.bool true)) ∧ OldK s.heap s'.heap ∧ s'.os = s.os ∧ AllBare s'.gens) s := by
  have isA : ∀ {b : Addr} {u : HO}, H b = some u → b = a := fun {b u} q => alone b (by rw [q]; exact fun z => nomatch z)
  have dictFree : ∀ {b : Addr} {m : Str → Option Value}, s.heap.Ns b m → H b = none := by
    rintro b m ⟨o, es, ep, e, d, _⟩
    cases q : H b with
    | none => rfl
    | some u =>
      have eb := isA q
      subst eb
      rw [sa] at e
      cases e
      cases d
  have still : ∀ {b : Addr} {m : Str → Option Value}, s.heap.Ns b m → (hidT s.heap H).Ns b m := by
    intro b m n
    have fr := dictFree n
    obtain ⟨o, es, ep, e, r⟩ := n
    exact ⟨o, es, ep, hidT_get e fr, r⟩
  have kb : K.In (hidT s.heap H) := by
    intro b o e
    refine hidT_get (kin b o e) ?_
    cases q : H b with
    | none => rfl
    | some u =>
      have eb := isA q
      subst eb
      have z := noK (by rw [q]; exact fun z => nomatch z)
      rw [z] at e
      cases e
  obtain ⟨ml, l1, l2⟩ := nl
  have env : Env0 P w K mg (hidT s.heap H) callerA [] s H :=
    { frames := rfl, mod := ⟨kb, still ng, ⟨mb, still nb, eb⟩, ⟨ml, still l1, l2⟩⟩, bs := fun b o e => of_hidT e, bsz := Nat.le_of_eq (hidT_size _ _), funs := trivial, frf := fun b hb => (nomatch hb), hok := hok, bare := .of_eq gs }
  refine codeAny_mono ((F _ kb (still ng)).go (us := [Value.ref a]) (vs := [V.ref a]) rfl rm env (bt s (.ref a)) (Paired.cons rfl Paired.nil) due) ?_
  intro r s' hq
  match r, hq with
  | .error _, hq => exact hq.elim
  | .ok (.ret u), ⟨v, H', os, bare, un, hok', rv, q⟩ =>
    have q : v = .bl true := q
    subst q
    cases rv
    refine ⟨rfl, OldK.of_keep ?_, os, bare⟩
    intro b o e
    cases qb : H b with
    | none => exact un.keep b o e qb (fun z => nomatch z) (fun z => nomatch z)
    | some u =>
      rcases only b with z | ⟨ob, xs, z⟩
      · rw [qb] at z
        cases z
      · obtain ⟨e1, _⟩ := hok b _ z
        rw [e] at e1
        cases e1
        exact (hok' b _ (un.frzs b o _ z)).1

theorem top_call {P : Program} {w : World} {K : PySem.W.Frag} {mg mb : Str → Option Value} {k : Nat} {fa a : Addr} {fd : FuncData} {x : Str} {sp : Sp} {s : Shared} {vs : List Value} {ns : List Int}
    (kin : K.In s.heap) (ng : s.heap.Ns mainGlobals mg) (nb : s.heap.Ns builtinsNs mb) (eb : ∀ y : Str, y ≠ "__name__" → mb y = bootBuiltins y) (nl : s.heap.NoLimit) (gs : s.gens = #[])
    (sa : s.heap.get? a = some { cls := .type "list", data := .seq vs.toArray }) (ia : IntsAre vs ns) (len : ns.length ≤ sizeLine) (rm : Room k callerA)
    (F : ∀ base : Heap, K.In base → base.Ns mainGlobals mg → FnG P w K mg base k fa fd [x] sp) (bt : ∀ (s : Shared) (u : Value), BindsTo s fd ⟨[u], []⟩ [(x, u)])
    (due : ∀ H : Hp, Only H → SqL K H a (ns.map V.int) → sp [.ref a] H (fun v _ => v = .bl true) E0) :
    codeAny (model P w) callerA (.call (.ref fa) ⟨[.ref a], []⟩) (fun r s' => r = .ok (.ret (.bool true)) ∧ OldK s.heap s'.heap ∧ s'.os = s.os ∧ AllBare s'.gens) s := by
  have rv := vals_ints ia
  cases hk : K.lookup a with
  | some o =>
    have e := kin a o hk
    rw [sa] at e
    cases e
    have on : Only (fun _ => none) := fun _ => .inl rfl
    refine top_run kin ng nb eb nl gs sa rm F bt on (fun b u z => ?_) (fun b z => absurd rfl z) (fun z => absurd rfl z) (due _ on (.inr ⟨_, vs.toArray, _, hk, rfl, rfl, rfl, ?_, ?_⟩))
    · exact nomatch z
    · rw [List.size_toArray, ia.length]
      exact len
    · simpa using rv
  | none =>
    have at_ : (fun b => if b = a then some (HO.frz { cls := .type "list", data := .seq vs.toArray } (.lst (ns.map V.int))) else none) a = some (HO.frz { cls := .type "list", data := .seq vs.toArray } (.lst (ns.map V.int))) := if_pos rfl
    have off : ∀ b, b ≠ a → (fun b => if b = a then some (HO.frz { cls := .type "list", data := .seq vs.toArray } (.lst (ns.map V.int))) else none) b = none := fun b n => if_neg n
    generalize (fun b => if b = a then some (HO.frz { cls := .type "list", data := .seq vs.toArray } (.lst (ns.map V.int))) else none) = H at at_ off
    have on : Only H := fun b => by
      by_cases n : b = a
      · subst n
        exact .inr ⟨_, _, at_⟩
      · exact .inl (off b n)
    refine top_run kin ng nb eb nl gs sa rm F bt on (fun b u z => ?_) (fun b z => ?_) (fun _ => hk) (due _ on (.inl (.inr ⟨_, at_⟩)))
    · by_cases n : b = a
      · subst n
        rw [at_] at z
        cases z
        exact ⟨sa, by rw [List.length_map]; exact len, vs, _, rv, sa⟩
      · rw [off b n] at z
        cases z
    · by_cases n : b = a
      · exact n
      · exact absurd (off b n) z

theorem walk_g {l : PySem.W.OpenLaw} {k : Nat} {q : Program} {loose : List Str} {XP : (Str → Option Value) → Heap → Prop} {YP : World → Heap → Prop} {d : DefRec} {K : Params → PySem.W.Frag} {sp : PySem.W.Frag → Sp} {x : Str}
    (hn : l.most = some 63) (hdf : d.params.defaults = []) (hr : Room k callerA) (hY : ∀ (w : World) (h : Heap), YP w h → (K w.params).In h)
    (F : ∀ (w : World) (mg : Str → Option Value) (fa : Addr) (h : Heap), (K w.params).In h → h.Ns mainGlobals mg → mg d.name = some (.ref fa) →
      ∃ fd : FuncData, (∀ (s : Shared) (u : Value), BindsTo s fd ⟨[u], []⟩ [(x, u)]) ∧ ∀ base : Heap, (K w.params).In base → base.Ns mainGlobals mg → FnG l.prog w (K w.params) mg base k fa fd [x] (sp (K w.params)))
    (due : ∀ (K : PySem.W.Frag) (H : Hp) (a : Addr) (ns : List Int), ns.length ≤ 63 → Only H → SqL K H a (ns.map V.int) → sp K [.ref a] H (fun v _ => v = .bl true) E0) :
    PySem.W.WalkO q loose XP YP l.row.toRowW d [] (fun f vs => PySem.call f vs) := by
  apply Att.attach_call hn hdf
  intro w s0 s1 mg mb fa o pm cd doc a vs ns G Y ho hd hcd hmg ha hi hlen hg
  have kx := hY w _ Y
  obtain ⟨fd, hb, hF⟩ := F w mg fa _ kx G.T.g hmg
  exact top_call kx G.T.g G.T.b G.T.builtins G.T.nolimit hg ha hi (Nat.le_trans hlen (by decide)) hr hF hb fun H hO hS => due _ H a ns hlen hO hS

/-! ### repr of data -/
structure Tx (n k : Nat) (d : PyData) : Prop where
  sh : d.showable = true
  nd : d.hasDict = false
  dp : d.depth ≤ k
  ln : d.shown.length ≤ n
theorem call_repr {X : Cx} {k : Nat} (hg : X.A.guards = some []) (hr : Room k X.A) : CallR X (.builtin "repr") (fun xs H Q => ∃ (x : V) (d : PyData), xs = [x] ∧ Dp X.K H x d ∧ Tx 16777216 60 d ∧ Q (.str d.shown) H) := by
  intro pins s σ H xs us Q I r q
  obtain ⟨x, d, rfl, hd, tx, q⟩ := q
  obtain ⟨u, rfl, rx⟩ := vals1 r
  have hu := hr.units
  have hz : d.shown.length ≤ sizeLine := by
    rw [sizeLine_eq]
    exact tx.ln
  obtain ⟨as, rd⟩ := Dp.reads I d x u hd rx
  have dp := tx.dp
  have big : ∀ a, u = .ref a → wpAny (model X.prog X.w) X.A (call (.builtin "repr") [u]) (EP X pins σ Q) X.xe s := by
    rintro a rfl
    exact repr_of_reads' rd tx.sh (PyData.noDict_hsm tx.nd) hg (by omega) (fun _ _ e => e) (fun h' u tk hk => ⟨.str _, H, I.kept hk, ⟨_, rfl⟩, q⟩) hz
  have sh := tx.sh
  cases rd with
  | none => exact PySem.P.repr_of_none ⟨.str _, H, I.tok _, ⟨_, rfl⟩, by simpa only [PyData.shown_none] using q⟩
  | bool b => exact PySem.P.repr_of_bool ⟨.str _, H, I.tok _, ⟨_, rfl⟩, by simpa only [PyData.shown_bool] using q⟩
  | int i t => exact PySem.P.repr_of_int (by simpa only [PyData.showable, decide_eq_true_eq] using sh) ⟨.str _, H, I.tok _, ⟨_, rfl⟩, by simpa only [PyData.shown_int] using q⟩
  | str z t => exact PySem.P.repr_of_str ⟨.str _, H, I.tok _, ⟨_, rfl⟩, by simpa only [PyData.shown_str] using q⟩ (by simpa only [PyData.shown_str] using hz)
  | list _ _ _ _ => exact big _ rfl
  | tuple _ _ _ _ => exact big _ rfl
  | dict _ _ _ _ _ => exact big _ rfl

theorem showableAll_iff : ∀ ds : List PyData, PyData.showableAll ds = true ↔ ∀ d ∈ ds, d.showable = true
  | [] => by simp [PyData.showableAll]
  | d :: ds => by simp only [PyData.showableAll, Bool.and_eq_true, showableAll_iff ds, List.mem_cons, forall_eq_or_imp]
theorem hasDictAll_iff : ∀ ds : List PyData, PyData.hasDictAll ds = false ↔ ∀ d ∈ ds, d.hasDict = false
  | [] => by simp [PyData.hasDictAll]
  | d :: ds => by simp only [PyData.hasDictAll, Bool.or_eq_false_iff, hasDictAll_iff ds, List.mem_cons, forall_eq_or_imp]
theorem depthAll_le {k : Nat} : ∀ ds : List PyData, (∀ d ∈ ds, d.depth ≤ k) → PyData.depthAll ds ≤ k
  | [], _ => by simp [PyData.depthAll]
  | d :: ds, h => by
    simp only [PyData.depthAll]
    have h1 := h d List.mem_cons_self
    have h2 := depthAll_le ds fun x hx => h x (List.mem_cons_of_mem _ hx)
    exact Nat.max_le.mpr ⟨h1, h2⟩
theorem shownAll_map : ∀ ds : List PyData, PyData.shownAll ds = ds.map PyData.shown
  | [] => by simp [PyData.shownAll]
  | d :: ds => by simp only [PyData.shownAll, shownAll_map ds, List.map_cons]
theorem join_le (n : Nat) : ∀ ts : List Str, (∀ t ∈ ts, t.length ≤ n) → (Str.join ", " ts).length ≤ ts.length * (n + 2)
  | [], _ => Nat.zero_le _
  | t :: r, h => by
    have h1 := join_length_add (t :: r) (by simp)
    have h2 : ∀ us : List Str, (∀ t ∈ us, t.length ≤ n) → piled us ≤ us.length * (n + 2) := by
      intro us
      induction us with
      | nil => intro _; exact Nat.zero_le _
      | cons u us ih =>
        intro hu
        have a := hu u List.mem_cons_self
        have b := ih fun x hx => hu x (List.mem_cons_of_mem _ hx)
        rw [piled_cons, List.length_cons, Nat.succ_mul]
        omega
    have h3 := h2 _ h
    omega
theorem Tx.mono {n m k l : Nat} {d : PyData} (t : Tx n k d) (h : n ≤ m) (h2 : k ≤ l) : Tx m l d := ⟨t.sh, t.nd, Nat.le_trans t.dp h2, Nat.le_trans t.ln h⟩
theorem Tx.int {i : Int} {n : Nat} (h0 : 0 < n) (h1 : n ≤ 500) (h : i.natAbs < 10 ^ n) : Tx (n + 1) 0 (.int i) := by
  refine ⟨?_, by simp only [PyData.hasDict], by simp only [PyData.depth]; exact Nat.le_refl _, ?_⟩
  · simp only [PyData.showable, decide_eq_true_eq]
    have h2 : i.natAbs < 2 ^ 1920 := Nat.lt_of_lt_of_le h (Nat.le_trans (Nat.pow_le_pow_right (by decide) h1) (by decide +kernel))
    by_cases z : i.natAbs = 0
    · rw [z]
      decide
    · exact (Nat.log2_lt z).mpr h2
  · rw [PyData.shown_int]
    have e := PySem.int_text_length_le10 h0 h
    show (Str.ofString (toString i)).length ≤ n + 1
    rw [PySem.ofString_length]
    exact e
theorem Tx.bool {b : Bool} : Tx 5 0 (.bool b) := by
  refine ⟨by simp only [PyData.showable], by simp only [PyData.hasDict], by simp only [PyData.depth]; exact Nat.le_refl _, ?_⟩
  rw [PyData.shown_bool]
  cases b <;> decide +kernel
theorem Tx.none : Tx 4 0 .none := by
  refine ⟨by simp only [PyData.showable], by simp only [PyData.hasDict], by simp only [PyData.depth]; exact Nat.le_refl _, ?_⟩
  rw [PyData.shown_none]
  decide +kernel
theorem Tx.str {x : Str} (h : ∀ c ∈ x.cps.toList, c < 16 ^ 8) : Tx (10 * x.length + 2) 0 (.str x) := by
  refine ⟨by simp only [PyData.showable], by simp only [PyData.hasDict], by simp only [PyData.depth]; exact Nat.le_refl _, ?_⟩
  rw [PyData.shown_str]
  exact StrLaws.reprText_len x h
theorem Tx.list {n k m : Nat} {ds : List PyData} (h : ∀ d ∈ ds, Tx n k d) (hm : ds.length ≤ m) : Tx (m * (n + 2) + 2) (k + 1) (.list ds) := by
  refine ⟨by simp only [PyData.showable]; exact (showableAll_iff ds).mpr fun d hd => (h d hd).sh, by simp only [PyData.hasDict]; exact (hasDictAll_iff ds).mpr fun d hd => (h d hd).nd, ?_, ?_⟩
  · simp only [PyData.depth]
    exact Nat.succ_le_succ (depthAll_le ds fun d hd => (h d hd).dp)
  · rw [PyData.shown_list, strLen_append, strLen_append, shownAll_map]
    have e1 : ((("[" : String) : Str)).length = 1 := rfl
    have e2 : ((("]" : String) : Str)).length = 1 := rfl
    have e3 := join_le n (ds.map PyData.shown) fun t ht => by
      obtain ⟨d, hd, rfl⟩ := List.mem_map.mp ht
      exact (h d hd).ln
    rw [List.length_map] at e3
    have e4 := Nat.mul_le_mul_right (n + 2) hm
    omega
theorem Tx.tuple {n k m : Nat} {ds : List PyData} (h : ∀ d ∈ ds, Tx n k d) (hm : ds.length ≤ m) : Tx (m * (n + 2) + 3) (k + 1) (.tuple ds) := by
  refine ⟨by simp only [PyData.showable]; exact (showableAll_iff ds).mpr fun d hd => (h d hd).sh, by simp only [PyData.hasDict]; exact (hasDictAll_iff ds).mpr fun d hd => (h d hd).nd, ?_, ?_⟩
  · simp only [PyData.depth]
    exact Nat.succ_le_succ (depthAll_le ds fun d hd => (h d hd).dp)
  · rw [PyData.shown_tuple, strLen_append, strLen_append, shownAll_map]
    have e1 : ((("(" : String) : Str)).length = 1 := rfl
    have e2 : (((if ds.length == 1 then ",)" else ")" : String) : Str)).length ≤ 2 := by split <;> decide
    have e3 := join_le n (ds.map PyData.shown) fun t ht => by
      obtain ⟨d, hd, rfl⟩ := List.mem_map.mp ht
      exact (h d hd).ln
    rw [List.length_map] at e3
    have e4 := Nat.mul_le_mul_right (n + 2) hm
    omega

/-! ### data that lie in the heap -/
theorem dp_map {α : Type} {K : PySem.W.Frag} {H : Hp} {f : α → V} {g : α → PyData} : ∀ {xs : List α}, (∀ x ∈ xs, Dp K H (f x) (g x)) → DpAll K H (xs.map f) (xs.map g)
  | [], _ => .nil
  | x :: xs, h => .cons (h x List.mem_cons_self) (dp_map fun y hy => h y (List.mem_cons_of_mem _ hy))
theorem dp_ints {K : PySem.W.Frag} {H : Hp} (ns : List Int) : DpAll K H (ns.map V.int) (ns.map PyData.int) := dp_map fun n _ => .int n
def Ev.d : Ev → PyData
  | .line l => .int l
  | .look => .str "look"
  | .rot => .str "rotate"
theorem dp_ev {K : PySem.W.Frag} {H : Hp} (e : Ev) : Dp K H e.v e.d := by
  cases e with
  | line l => exact .int l
  | look => exact .str _
  | rot => exact .str _
theorem dp_evs {K : PySem.W.Frag} {H : Hp} (es : List Ev) : DpAll K H (es.map Ev.v) (es.map Ev.d) := dp_map fun e _ => dp_ev e
theorem Ev.tx {e : Ev} {ls : List Int} (h : Ev.ok ls e) (hl : ∀ l ∈ ls, 1 ≤ l ∧ l ≤ 100) : Tx 62 0 e.d := by
  cases e with
  | line l =>
    have := hl l h
    exact (Tx.int (n := 3) (by decide) (by decide) (by omega)).mono (by decide) (Nat.le_refl _)
  | look => exact (Tx.str (x := "look") (by decide +kernel)).mono (by decide) (Nat.le_refl _)
  | rot => exact (Tx.str (x := "rotate") (by decide +kernel)).mono (by decide) (Nat.le_refl _)

theorem inV_int {z : Int} {ls : List Int} (h : z ∈ ls) : inV (.int z) (ls.map V.int) = true := by
  unfold inV
  rw [List.any_map, List.any_eq_true]
  exact ⟨z, h, by show eqV (.int z) (.int z) = true; simp [eqV]⟩
theorem flat_ints (ls : List Int) : (ls.map V.int).all flatV = true := by
  rw [List.all_map, List.all_eq_true]
  intro z _
  rfl
theorem all_true (n : Nat) : (List.replicate n true).all id = true := by
  rw [List.all_eq_true]
  intro b hb
  exact (List.mem_replicate.mp hb).2
theorem trues_snoc (n : Nat) : (List.replicate n true).map V.bl ++ [V.bl true] = (List.replicate (n + 1) true).map V.bl := by
  rw [List.replicate_succ', List.map_append]
  rfl
theorem trues_len (n : Nat) : ((List.replicate n true).map V.bl).length = n := by simp
/-- a list of trues at D, everything that stood stands -/
def TruesAt (D : Addr) (n : Nat) (H : Hp) : Prop := H D = some (.lst ((List.replicate n true).map V.bl))
theorem Tx.small {i : Int} (h : i.natAbs < 10 ^ 3) : Tx 4 0 (.int i) := Tx.int (by decide) (by decide) h

/-- max(1, min(len(script), 3)), max(1, min(3, len(script))) -/
def cntA (n : Nat) : Int := if (if (3 : Int) < (n : Int) then (3 : Int) else (n : Int)) > 1 then (if (3 : Int) < (n : Int) then (3 : Int) else (n : Int)) else 1
def cntB (n : Nat) : Int := if (if (n : Int) < (3 : Int) then (n : Int) else (3 : Int)) > 1 then (if (n : Int) < (3 : Int) then (n : Int) else (3 : Int)) else 1
theorem cntA_in (n : Nat) : 1 ≤ cntA n ∧ cntA n ≤ 3 := by
  unfold cntA
  split <;> (try split) <;> omega
theorem cntB_in (n : Nat) : 1 ≤ cntB n ∧ cntB n ≤ 3 := by
  unfold cntB
  split <;> (try split) <;> omega
end My

namespace My
open PySem L2

/-! ### the layer's rules with the written part named: within a comprehension's block it is not X's own field -/
section
variable {X : Cx} {K : PySem.W.Frag}
theorem ix_listK (h : X.K = K) : IxR X (rIxL K) := h ▸ ix_list
theorem ix_tupK (h : X.K = K) : IxR X (rIxT K) := h ▸ ix_tup
theorem ix_seqK (h : X.K = K) : IxR X (rIx K) := h ▸ ix_seq
theorem sl_tupK (h : X.K = K) : SlR X (rSlT K) := h ▸ sl_tup
theorem sl_listK (h : X.K = K) : SlR X (rSlL K) := h ▸ sl_list
theorem op_inK (h : X.K = K) : OpR X (compareOp .In) (rIn K false) := h ▸ op_in_seq
theorem op_notInK (h : X.K = K) : OpR X (compareOp .NotIn) (rIn K true) := h ▸ op_notIn_seq
theorem op_eqDK (h : X.K = K) (hu : X.A.units + 64 < cLine) : OpR X (compareOp .Eq) (rEqD K) := h ▸ op_eqD hu
theorem op_neDK (h : X.K = K) (hu : X.A.units + 64 < cLine) : OpR X (compareOp .NotEq) (rNeD K) := h ▸ op_neD hu
theorem op_catTK (h : X.K = K) : OpR X (binaryOp .Add) (rCatT K) := h ▸ op_catT
def rLen (K : PySem.W.Frag) : List V → Hp → VK → Prop := fun xs H Q => ∃ p ys, xs = [.ref p] ∧ (SqL K H p ys ∨ SqT K H p ys) ∧ Q (.int ys.length) H
theorem call_lenK (h : X.K = K) : CallR X (.builtin "len") (rLen K) := h ▸ call_len_seq
theorem cr_sumK (h : X.K = K) (hc : X.calm = true) : CallR X (.builtin "sum") (rSum K) := h ▸ cr_sum hc
theorem cr_allK (h : X.K = K) (hc : X.calm = true) : CallR X (.builtin "all") (rAll K) := h ▸ cr_all hc
theorem cr_anyK (h : X.K = K) (hc : X.calm = true) : CallR X (.builtin "any") (rAny K) := h ▸ cr_any hc
theorem cr_maxK (h : X.K = K) (hc : X.calm = true) : CallR X (.builtin "max") (rMax K) := h ▸ cr_max hc
theorem cr_minK (h : X.K = K) (hc : X.calm = true) : CallR X (.builtin "min") (rMin K) := h ▸ cr_min hc
theorem call_isiK (h : X.K = K) : CallR X (.builtin "isinstance") (rIsi K) := h ▸ call_isi
def rTupleOf (K : PySem.W.Frag) : List V → Hp → VK → Prop := fun xs H Q => ∃ p ys, xs = [.ref p] ∧ ((SqL K H p ys ∧ ∀ l, H l = none → Q (.ref l) (upd H l (.tup ys))) ∨ (SqT K H p ys ∧ Q (.ref p) H))
theorem call_tupleK (h : X.K = K) : CallR X (.type "tuple") (rTupleOf K) := h ▸ call_tuple_of
def rListOf (K : PySem.W.Frag) : List V → Hp → VK → Prop := fun xs H Q => ∃ p ys, xs = [.ref p] ∧ (SqL K H p ys ∨ SqT K H p ys) ∧ ∀ l, H l = none → Q (.ref l) (upd H l (.lst ys))
theorem call_listK (h : X.K = K) : CallR X (.type "list") (rListOf K) := h ▸ call_list_of
theorem pe_fldK {e : Expr} {ta : TE} {f : Str} {pos : Pos} (h : X.K = K) (he : PE X e ta) (hb : attributeBase e f X.env (eval e X.env) = eval e X.env) : PE X (.Attribute e f pos) (tFld K ta f) := h ▸ pe_fld he hb
theorem pi_listK {tg l : Expr} {tl : TE} (h : X.K = K) (hl : PE X l tl) : PI X tg l (iList K tl) := h ▸ pi_list hl
theorem pi_tupK {tg l : Expr} {tl : TE} (h : X.K = K) (hl : PE X l tl) : PI X tg l (iTup K tl) := h ▸ pi_tup hl
def rRepr (K : PySem.W.Frag) : List V → Hp → VK → Prop := fun xs H Q => ∃ (x : V) (d : PyData), xs = [x] ∧ Dp K H x d ∧ Tx 16777216 60 d ∧ Q (.str d.shown) H
theorem call_reprK {k : Nat} (h : X.K = K) (hg : X.A.guards = some []) (hr : Room k X.A) : CallR X (.builtin "repr") (rRepr K) := h ▸ call_repr hg hr

/-- sum of a tuple of ints -/
def rSumT (K : PySem.W.Frag) : List V → Hp → VK → Prop := fun vs H Q => ∃ (a : Addr) (ns : List Int), vs = [V.ref a] ∧ SqT K H a (ns.map V.int) ∧ Q (.int ns.sum) H
theorem cr_sumT (hc : X.calm = true) : CallR X (.builtin "sum") (rSumT X.K) := by
  intro pins s σ H xs us Q I r q
  obtain ⟨a, ns, rfl, hq, q⟩ := q
  have eu := Vals.ref1 r
  subst eu
  obtain ⟨its, rv, it, _⟩ := I.tuple hq
  have hi := rv.ints
  obtain ⟨ys, ey⟩ := hi.allInts.items
  have it2 : s.heap.IsTuple a its.toArray := by
    obtain ⟨o, h1, h2, n, h3⟩ := it
    exact ⟨o, h1, h2, n, h3⟩
  have en : PySem.numsOf its.toArray.toList = ns := hi.numsOf
  rw [ey] at it2 en
  rw [PySem.nums_intItems] at en
  refine PySem.W.ktm_sumG (I.ok.hd hc) it2 fun h' tk t' hk => ?_
  rw [PySem.preSum_eq, List.take_of_length_le (by simp), en]
  exact ⟨.int _, H, I.kept hk, ⟨_, rfl⟩, q⟩
theorem cr_sumTK {K : PySem.W.Frag} (h : X.K = K) (hc : X.calm = true) : CallR X (.builtin "sum") (rSumT K) := h ▸ cr_sumT hc
end
end My

namespace My
open PySem L2

/-! ### totals of files that begin with a line -/
def Reach (ls : List Int) (x t : Int) : Prop := ∃ zs : List Int, (∀ z ∈ zs, z ∈ ls) ∧ t = x + zs.sum
theorem Reach.self {ls : List Int} {x : Int} : Reach ls x x := ⟨[], fun _ h => absurd h (by simp), by simp⟩
theorem Reach.add {ls : List Int} {x t l : Int} (h : Reach ls x t) (hl : l ∈ ls) : Reach ls x (t + l) := by
  obtain ⟨zs, h1, rfl⟩ := h
  refine ⟨l :: zs, fun z hz => ?_, by rw [List.sum_cons]; omega⟩
  rcases List.mem_cons.mp hz with rfl | hz
  · exact hl
  · exact h1 z hz
theorem Reach.last {ls : List Int} {x t : Int} (h : Reach ls x t) (n : t ≠ x) : ∃ l, l ∈ ls ∧ Reach ls x (t - l) := by
  obtain ⟨zs, h1, rfl⟩ := h
  cases zs with
  | nil => exact absurd (by simp) n
  | cons l zs =>
    refine ⟨l, h1 l List.mem_cons_self, zs, fun z hz => h1 z (List.mem_cons_of_mem _ hz), ?_⟩
    rw [List.sum_cons]
    omega
theorem sum_nn : ∀ {zs : List Int}, (∀ z ∈ zs, 1 ≤ z) → 0 ≤ zs.sum
  | [], _ => by simp
  | z :: zs, h => by
    have h1 := h z List.mem_cons_self
    have h2 := sum_nn (zs := zs) fun y hy => h y (List.mem_cons_of_mem _ hy)
    rw [List.sum_cons]
    omega
theorem Reach.ge {ls : List Int} {x t : Int} (hp : ∀ l ∈ ls, 1 ≤ l) (h : Reach ls x t) : x ≤ t := by
  obtain ⟨zs, h1, rfl⟩ := h
  have := sum_nn fun z hz => hp z (h1 z hz)
  omega
theorem Reach.iff {ls : List Int} {x t : Int} (n : t ≠ x) : Reach ls x t ↔ ∃ l, l ∈ ls ∧ Reach ls x (t - l) := by
  constructor
  · exact fun h => h.last n
  · rintro ⟨l, hl, h⟩
    have := h.add hl
    rw [Int.sub_add_cancel] at this
    exact this

/-! ### a list by a function of the place -/
def ov : Option Int → V
  | some i => .int i
  | none => .non
def tab (n : Nat) (g : Nat → Option Int) : List V := (List.range n).map fun i => ov (g i)
theorem tab_len (n : Nat) (g : Nat → Option Int) : (tab n g).length = n := by simp [tab]
theorem tab_at {n : Nat} {g : Nat → Option Int} {i : Int} (h0 : 0 ≤ i) (h1 : i < n) : atI (tab n g) i = some (ov (g i.toNat)) := by
  obtain ⟨k, rfl⟩ : ∃ k : Nat, i = k := ⟨i.toNat, by omega⟩
  refine atI_nat ?_
  unfold tab
  rw [List.getElem?_map, List.getElem?_range (by omega)]
  rfl
def put {α : Type} (g : Nat → α) (k : Nat) (v : α) : Nat → α := fun i => if i = k then v else g i
theorem put_same {α : Type} {g : Nat → α} {k : Nat} {v : α} : put g k v k = v := if_pos rfl
theorem put_ne {α : Type} {g : Nat → α} {k i : Nat} {v : α} (h : i ≠ k) : put g k v i = g i := if_neg h
theorem tab_set {n : Nat} {g : Nat → Option Int} {k : Nat} {l : Int} : (tab n g).set k (.int l) = tab n (put g k (some l)) := by
  apply List.ext_getElem?
  intro i
  unfold tab
  by_cases hi : i < n
  · by_cases e : k = i
    · subst e
      rw [List.getElem?_set_self (by simpa using hi), List.getElem?_map, List.getElem?_range hi]
      show _ = some (ov (put g k (some l) k))
      rw [put_same]
      rfl
    · rw [List.getElem?_set_ne e, List.getElem?_map, List.getElem?_map, List.getElem?_range hi]
      show some (ov (g i)) = some (ov (put g k (some l) i))
      rw [put_ne (Ne.symm e)]
  · rw [List.getElem?_eq_none (by simp; omega), List.getElem?_eq_none (by simp; omega)]
theorem tab_new (n : Nat) : (List.replicate n [V.non]).flatten = tab n fun _ => none := by
  apply List.ext_getElem?
  intro i
  have e : (List.replicate n [V.non]).flatten = List.replicate n V.non := by
    induction n with
    | zero => rfl
    | succ n ih => rw [List.replicate_succ, List.flatten_cons, ih, List.replicate_succ]; rfl
  rw [e]
  unfold tab
  by_cases hi : i < n
  · rw [List.getElem?_replicate, if_pos hi, List.getElem?_map, List.getElem?_range hi]
    rfl
  · rw [List.getElem?_eq_none (by simp; omega), List.getElem?_eq_none (by simp; omega)]
theorem ixN_in {n : Nat} {i : Int} (h0 : 0 ≤ i) (h1 : i < n) : ixN n i = some i.toNat := by
  unfold ixN
  rw [if_pos h0, if_pos h1]

/-- what last_lines finds: for each total the last line -/
def LastOk (ls : List Int) (x : Int) (g : Nat → Option Int) (t : Nat) : Prop :=
  ((g t).isSome = true ↔ Reach ls x t) ∧ ∀ l, g t = some l → l ∈ ls ∧ ((t : Int) = x ∨ Reach ls x (t - l))
def Lasts (S : Int) (ls : List Int) (x : Int) (g : Nat → Option Int) : Prop := ∀ t : Nat, (t : Int) ≤ S → LastOk ls x g t

/-- the totals of turns, in ascending order -/
def Totals (S : Int) (ls : List Int) (x y : Int) (ts : List Int) : Prop := ts.Pairwise (· < ·) ∧ ∀ t, t ∈ ts ↔ (S - y < t ∧ t ≤ S ∧ Reach ls x t)
theorem asc_ext : ∀ {xs ys : List Int}, xs.Pairwise (· < ·) → ys.Pairwise (· < ·) → (∀ t, t ∈ xs ↔ t ∈ ys) → xs = ys
  | [], [], _, _, _ => rfl
  | [], y :: ys, _, _, h => absurd ((h y).mpr List.mem_cons_self) (by simp)
  | x :: xs, [], _, _, h => absurd ((h x).mp List.mem_cons_self) (by simp)
  | x :: xs, y :: ys, hx, hy, h => by
    obtain ⟨hx1, hx2⟩ := List.pairwise_cons.mp hx
    obtain ⟨hy1, hy2⟩ := List.pairwise_cons.mp hy
    have e : x = y := by
      rcases List.mem_cons.mp ((h x).mp List.mem_cons_self) with e | e
      · exact e
      · rcases List.mem_cons.mp ((h y).mpr List.mem_cons_self) with e2 | e2
        · exact e2.symm
        · have a := hy1 x e
          have b := hx1 y e2
          omega
    subst e
    congr 1
    refine asc_ext hx2 hy2 fun t => ?_
    constructor
    · intro ht
      rcases List.mem_cons.mp ((h t).mp (List.mem_cons_of_mem _ ht)) with e | e
      · have := hx1 t ht
        omega
      · exact e
    · intro ht
      rcases List.mem_cons.mp ((h t).mpr (List.mem_cons_of_mem _ ht)) with e | e
      · have := hy1 t ht
        omega
      · exact e
theorem Totals.uniq {S x y : Int} {ls ts us : List Int} (h1 : Totals S ls x y ts) (h2 : Totals S ls x y us) : ts = us :=
  asc_ext h1.1 h2.1 fun t => (h1.2 t).trans (h2.2 t).symm
/-- there always is one -/
theorem turn_there {S : Int} {ls : List Int} {x y : Int} (hx : x ≤ S) (hy : y ∈ ls) (y1 : 1 ≤ y) : ∃ t, S - y < t ∧ t ≤ S ∧ Reach ls x t := by
  have : ∀ n : Nat, ∀ t : Int, (S - t).toNat = n → t ≤ S → Reach ls x t → ∃ t, S - y < t ∧ t ≤ S ∧ Reach ls x t := by
    intro n
    induction n using Nat.strongRecOn with
    | _ n ih =>
      intro t e ht h
      by_cases q : S - y < t
      · exact ⟨t, q, ht, h⟩
      · exact ih (S - (t + y)).toNat (by omega) (t + y) rfl (by omega) (h.add hy)
  exact this _ x rfl hx Reach.self
theorem Totals.ne {S x y : Int} {ls ts : List Int} (h : Totals S ls x y ts) (hx : x ≤ S) (hy : y ∈ ls) (y1 : 1 ≤ y) : ts ≠ [] := by
  obtain ⟨t, h1, h2, h3⟩ := turn_there hx hy y1
  exact List.ne_nil_of_mem ((h.2 t).mpr ⟨h1, h2, h3⟩)
/-- the least fill of a turn -/
structure Least (S : Int) (ls : List Int) (x y c : Int) : Prop where
  lo : S - y < c
  hi : c ≤ S
  re : Reach ls x c
  le : ∀ t, S - y < t → t ≤ S → Reach ls x t → c ≤ t
structure Greatest (S : Int) (ls : List Int) (x y c : Int) : Prop where
  lo : S - y < c
  hi : c ≤ S
  re : Reach ls x c
  le : ∀ t, S - y < t → t ≤ S → Reach ls x t → t ≤ c
theorem Least.uniq {S x y c d : Int} {ls : List Int} (h : Least S ls x y c) (h2 : Least S ls x y d) : c = d := by
  have a := h.le d h2.lo h2.hi h2.re
  have b := h2.le c h.lo h.hi h.re
  omega
theorem Greatest.uniq {S x y c d : Int} {ls : List Int} (h : Greatest S ls x y c) (h2 : Greatest S ls x y d) : c = d := by
  have a := h.le d h2.lo h2.hi h2.re
  have b := h2.le c h.lo h.hi h.re
  omega
theorem Totals.first {S x y : Int} {ls ts : List Int} (h : Totals S ls x y ts) (n : ts ≠ []) : ∃ c, atI (ts.map V.int) 0 = some (.int c) ∧ Least S ls x y c ∧ ts[0]? = some c := by
  cases ts with
  | nil => exact absurd rfl n
  | cons c ts =>
    obtain ⟨a1, a2, a3⟩ := (h.2 c).mp List.mem_cons_self
    refine ⟨c, atI_nat (j := 0) rfl, ⟨a1, a2, a3, fun t b1 b2 b3 => ?_⟩, rfl⟩
    rcases List.mem_cons.mp ((h.2 t).mpr ⟨b1, b2, b3⟩) with rfl | e
    · exact Int.le_refl _
    · exact Int.le_of_lt ((List.pairwise_cons.mp h.1).1 t e)
theorem Totals.last {S x y : Int} {ls ts : List Int} (h : Totals S ls x y ts) (n : ts ≠ []) : ∃ c, atI (ts.map V.int) (-1) = some (.int c) ∧ Greatest S ls x y c ∧ ts.getLast? = some c := by
  obtain ⟨init, c, rfl⟩ : ∃ init c, ts = init ++ [c] := ⟨ts.dropLast, ts.getLast n, (List.dropLast_concat_getLast n).symm⟩
  obtain ⟨a1, a2, a3⟩ := (h.2 c).mp (by simp)
  refine ⟨c, by rw [List.map_append]; exact atI_last _ _, ⟨a1, a2, a3, fun t b1 b2 b3 => ?_⟩, by simp⟩
  rcases List.mem_append.mp ((h.2 t).mpr ⟨b1, b2, b3⟩) with e | e
  · exact Int.le_of_lt ((List.pairwise_append.mp h.1).2.2 t e c (by simp))
  · have : t = c := by simpa using e
    omega

/-! ### promises -/
def sp_last_lines : Sp := fun vs H Q _ => ∃ (p : Addr) (S : Int) (ls : List Int) (x : Int), vs = [.ref p, .int x] ∧ BookAt H p S ls ∧ Rules S ls ∧ x ∈ ls ∧
  ∀ (l : Addr) (g : Nat → Option Int) (H' : Hp), Lasts S ls x g → H l = none → H' l = some (.lst (tab (S + 1).toNat g)) → Same H H' → Q (.ref l) H'
def sp_totals_for : Sp := fun vs H Q _ => ∃ (l : Addr) (S : Int) (ls : List Int) (x y : Int) (g : Nat → Option Int), vs = [.ref l, .int y] ∧ H l = some (.lst (tab (S + 1).toNat g)) ∧ Lasts S ls x g ∧ Rules S ls ∧ 1 ≤ y ∧ y ≤ S ∧
  ∀ (r : Addr) (ts : List Int) (H' : Hp), Totals S ls x y ts → H r = none → H' r = some (.lst (ts.map V.int)) → Same H H' → Q (.ref r) H'
def sp_total (G : Int → List Int → Int → Int → Int → Prop) : Sp := fun vs H Q _ => ∃ (p : Addr) (S : Int) (ls : List Int) (x y : Int), vs = [.ref p, .int x, .int y] ∧ BookAt H p S ls ∧ Rules S ls ∧ x ∈ ls ∧ y ∈ ls ∧
  ∀ (c : Int) (H' : Hp), G S ls x y c → Same H H' → Q (.int c) H'
def sp_least_file : Sp := fun vs H Q _ => ∃ (p : Addr) (S : Int) (ls : List Int) (x y : Int), vs = [.ref p, .int x, .int y] ∧ BookAt H p S ls ∧ Rules S ls ∧ x ∈ ls ∧ y ∈ ls ∧
  ∀ (t : Addr) (zs : List Int) (H' : Hp), (∀ z ∈ zs, z ∈ ls) → Least S ls x y (x + zs.sum) → H t = none → H' t = some (.tup ((x :: zs).map V.int)) → Same H H' → Q (.ref t) H'
/-- the rows of turns, in the order of the pairs -/
def TurnRow (S : Int) (ls : List Int) (x y : Int) (r : List Int) : Prop := ∃ lo hi, r = [x, y, lo, hi] ∧ Least S ls x y lo ∧ Greatest S ls x y hi
/-- a row of tuples of ints -/
def RowsAt (H : Hp) : List V → List (List Int) → Prop := Paired fun v r => ∃ a, v = .ref a ∧ H a = some (.tup (r.map V.int))
theorem RowsAt.same {H H' : Hp} {vs : List V} {rs : List (List Int)} (h : RowsAt H vs rs) (s : Same H H') : RowsAt H' vs rs :=
  Paired.mapP h fun v r ⟨a, e, h1⟩ => ⟨a, e, s _ _ h1⟩
theorem Paired.snoc {α β : Type} {R : α → β → Prop} : ∀ {xs : List α} {ys : List β} {x : α} {y : β}, Paired R xs ys → R x y → Paired R (xs ++ [x]) (ys ++ [y])
  | _, _, _, _, .nil, r => .cons r .nil
  | _, _, _, _, .cons q t, r => .cons q (Paired.snoc t r)
theorem RowsAt.dp {K : PySem.W.Frag} {H : Hp} : ∀ {vs : List V} {rs : List (List Int)}, RowsAt H vs rs → DpAll K H vs (rs.map fun r => .tuple (r.map PyData.int))
  | _, _, .nil => .nil
  | _, _, .cons ⟨a, e, h⟩ t => by
    subst e
    exact .cons (.tup (SqT.of h) (dp_ints _)) (RowsAt.dp t)
/-- all pairs, in order -/
def TurnsOf (S : Int) (ls : List Int) (rs : List (List Int)) : Prop := Paired (fun (p : Int × Int) r => TurnRow S ls p.1 p.2 r) (ls.flatMap fun x => ls.map fun y => (x, y)) rs
def sp_turns : Sp := fun vs H Q _ => ∃ (p : Addr) (S : Int) (ls : List Int), vs = [.ref p] ∧ BookAt H p S ls ∧ Rules S ls ∧
  ∀ (t : Addr) (xs : List V) (rs : List (List Int)) (H' : Hp), H' t = some (.tup xs) → RowsAt H' xs rs → TurnsOf S ls rs → Same H H' → Q (.ref t) H'
/-- the law's own totals -/
def sp_Ltotals : Sp := fun vs H Q _ => ∃ (p : Addr) (S : Int) (ls : List Int) (x y : Int), vs = [.ref p, .int x, .int y] ∧ BookAt H p S ls ∧ Rules S ls ∧ x ∈ ls ∧ y ∈ ls ∧
  ∀ (r : Addr) (ts : List Int) (H' : Hp), Totals S ls x y ts → H r = none → H' r = some (.lst (ts.map V.int)) → Same H H' → Q (.ref r) H'
theorem turnsOf_uniq {S : Int} {ls : List Int} : ∀ {ps : List (Int × Int)} {rs us : List (List Int)}, Paired (fun (p : Int × Int) r => TurnRow S ls p.1 p.2 r) ps rs → Paired (fun (p : Int × Int) r => TurnRow S ls p.1 p.2 r) ps us → rs = us
  | _, _, _, .nil, .nil => rfl
  | _, _, _, .cons ⟨a, b, e1, l1, g1⟩ t1, .cons ⟨c, d, e2, l2, g2⟩ t2 => by
    rw [e1, e2, l1.uniq l2, g1.uniq g2, turnsOf_uniq t1 t2]

def tabB (n : Nat) (g : Nat → Bool) : List V := (List.range n).map fun i => V.bl (g i)
theorem tabB_len (n : Nat) (g : Nat → Bool) : (tabB n g).length = n := by simp [tabB]
theorem tabB_at {n : Nat} {g : Nat → Bool} {i : Int} (h0 : 0 ≤ i) (h1 : i < n) : atI (tabB n g) i = some (.bl (g i.toNat)) := by
  obtain ⟨k, rfl⟩ : ∃ k : Nat, i = k := ⟨i.toNat, by omega⟩
  refine atI_nat ?_
  unfold tabB
  rw [List.getElem?_map, List.getElem?_range (by omega)]
  rfl
theorem tabB_set {n : Nat} {g : Nat → Bool} {k : Nat} {l : Bool} : (tabB n g).set k (.bl l) = tabB n (put g k l) := by
  apply List.ext_getElem?
  intro i
  unfold tabB
  by_cases hi : i < n
  · by_cases e : k = i
    · subst e
      rw [List.getElem?_set_self (by simpa using hi), List.getElem?_map, List.getElem?_range hi]
      show _ = some (V.bl (put g k l k))
      rw [put_same]
    · rw [List.getElem?_set_ne e, List.getElem?_map, List.getElem?_map, List.getElem?_range hi]
      show some (V.bl (g i)) = some (V.bl (put g k l i))
      rw [put_ne (Ne.symm e)]
  · rw [List.getElem?_eq_none (by simp; omega), List.getElem?_eq_none (by simp; omega)]
end My

namespace My
open PySem L2
def top (i : Nat) : Stmt := PySem.Challenge.pw_rotatedlogs_k05_turns.main.body.getD i (.Pass ⟨0, 0, 0, 0⟩)
structure Df (K : PySem.W.Frag) (mg : Str → Option Value) (x : Str) (st : Stmt) (ps : List Str) : Prop where
  ex : ∃ (f : Addr) (fd : FuncData), Fun K x x st f fd ∧ mg x = some (.ref f) ∧ Binds K fd ps []
abbrev s_Ltake : Stmt := top 9
abbrev N_Ltake : List Str := ["_law_box_here", "_law_many", "_law_digit", "_law_mixed"]
theorem sc_Ltake : FnScope N_Ltake ["_law_box_here", "_law_many"] (defScope s_Ltake) := ⟨rfl, rfl, rfl, by decide +kernel, rfl, by decide +kernel, by decide +kernel⟩
abbrev s_Lbox : Stmt := top 8
abbrev N_Lbox : List Str := ["_law_script", "_law_k", "_law_cell", "_law_own"]
theorem sc_Lbox : FnScope N_Lbox ["_law_script", "_law_k"] (defScope s_Lbox) := ⟨rfl, rfl, rfl, by decide +kernel, rfl, by decide +kernel, by decide +kernel⟩
abbrev s_Lof : Stmt := top 10
abbrev N_Lof : List Str := ["_law_box_here", "_law_some"]
theorem sc_Lof : FnScope N_Lof ["_law_box_here", "_law_some"] (defScope s_Lof) := ⟨rfl, rfl, rfl, by decide +kernel, rfl, by decide +kernel, by decide +kernel⟩
abbrev s_Lbook : Stmt := top 11
abbrev N_Lbook : List Str := ["_law_box_here", "_law_top", "_law_size", "_law_found", "_law_turn", "_law_some"]
theorem sc_Lbook : FnScope N_Lbook ["_law_box_here", "_law_top"] (defScope s_Lbook) := ⟨rfl, rfl, rfl, by decide +kernel, rfl, by decide +kernel, by decide +kernel⟩
abbrev s_last_lines : Stmt := top 1
abbrev N_last_lines : List Str := ["rules", "first", "size", "lengths", "found", "total", "length"]
theorem sc_last_lines : FnScope N_last_lines ["rules", "first"] (defScope s_last_lines) := ⟨rfl, rfl, rfl, by decide +kernel, rfl, by decide +kernel, by decide +kernel⟩
abbrev s_totals_for : Stmt := top 2
abbrev N_totals_for : List Str := ["lasts", "later", "size", "total"]
theorem sc_totals_for : FnScope N_totals_for ["lasts", "later"] (defScope s_totals_for) := ⟨rfl, rfl, rfl, by decide +kernel, rfl, by decide +kernel, by decide +kernel⟩
abbrev s_least_total : Stmt := top 3
abbrev N_least_total : List Str := ["rules", "first", "later"]
theorem sc_least_total : FnScope N_least_total ["rules", "first", "later"] (defScope s_least_total) := ⟨rfl, rfl, rfl, by decide +kernel, rfl, by decide +kernel, by decide +kernel⟩
abbrev s_greatest_total : Stmt := top 4
abbrev N_greatest_total : List Str := ["rules", "first", "later"]
theorem sc_greatest_total : FnScope N_greatest_total ["rules", "first", "later"] (defScope s_greatest_total) := ⟨rfl, rfl, rfl, by decide +kernel, rfl, by decide +kernel, by decide +kernel⟩
abbrev s_least_file : Stmt := top 5
abbrev N_least_file : List Str := ["rules", "first", "later", "lasts", "lines", "total"]
theorem sc_least_file : FnScope N_least_file ["rules", "first", "later"] (defScope s_least_file) := ⟨rfl, rfl, rfl, by decide +kernel, rfl, by decide +kernel, by decide +kernel⟩
abbrev s_turns : Stmt := top 6
abbrev N_turns : List Str := ["rules", "found", "first", "lasts", "later", "totals"]
theorem sc_turns : FnScope N_turns ["rules"] (defScope s_turns) := ⟨rfl, rfl, rfl, by decide +kernel, rfl, by decide +kernel, by decide +kernel⟩
abbrev s_Ltotals : Stmt := top 12
abbrev N_Ltotals : List Str := ["_law_book_here", "_law_begin", "_law_end", "_law_size", "_law_kinds", "_law_total", "_law_known", "_law_kind"]
theorem sc_Ltotals : FnScope N_Ltotals ["_law_book_here", "_law_begin", "_law_end"] (defScope s_Ltotals) := ⟨rfl, rfl, rfl, by decide +kernel, rfl, by decide +kernel, by decide +kernel⟩
abbrev s_Lpair_right : Stmt := top 13
abbrev N_Lpair_right : List Str := ["_law_book_here", "_law_begin", "_law_end", "_law_totals_here", "_law_lines", "_law_told", "_law_line"]
theorem sc_Lpair_right : FnScope N_Lpair_right ["_law_book_here", "_law_begin", "_law_end"] (defScope s_Lpair_right) := ⟨rfl, rfl, rfl, by decide +kernel, rfl, by decide +kernel, by decide +kernel⟩
abbrev s_Lright : Stmt := top 14
abbrev N_Lright : List Str := ["_law_box_here", "_law_turn", "_law_book_here", "_law_due", "_law_begin", "_law_end", "_law_totals_here"]
theorem sc_Lright : FnScope N_Lright ["_law_box_here"] (defScope s_Lright) := ⟨rfl, rfl, rfl, by decide +kernel, rfl, by decide +kernel, by decide +kernel⟩
abbrev s_law : Stmt := top 15
abbrev N_law : List Str := ["_law_script", "_law_k"]
theorem sc_law : FnScope N_law ["_law_script"] (defScope s_law) := ⟨rfl, rfl, rfl, by decide +kernel, rfl, by decide +kernel, by decide +kernel⟩
structure Txt (K : PySem.W.Frag) (mg : Str → Option Value) : Prop where
  d_Ltake : Df K mg "_law_take" s_Ltake ["_law_box_here", "_law_many"]
  d_Lbox : Df K mg "_law_box" s_Lbox ["_law_script", "_law_k"]
  d_Lof : Df K mg "_law_of" s_Lof ["_law_box_here", "_law_some"]
  d_Lbook : Df K mg "_law_book" s_Lbook ["_law_box_here", "_law_top"]
  d_last_lines : Df K mg "last_lines" s_last_lines ["rules", "first"]
  d_totals_for : Df K mg "totals_for" s_totals_for ["lasts", "later"]
  d_least_total : Df K mg "least_total" s_least_total ["rules", "first", "later"]
  d_greatest_total : Df K mg "greatest_total" s_greatest_total ["rules", "first", "later"]
  d_least_file : Df K mg "least_file" s_least_file ["rules", "first", "later"]
  d_turns : Df K mg "turns" s_turns ["rules"]
  d_Ltotals : Df K mg "_law_totals" s_Ltotals ["_law_book_here", "_law_begin", "_law_end"]
  d_Lpair_right : Df K mg "_law_pair_right" s_Lpair_right ["_law_book_here", "_law_begin", "_law_end"]
  d_Lright : Df K mg "_law_right" s_Lright ["_law_box_here"]
  n_abs : mg "abs" = none
  n_int : mg "int" = none
  n_len : mg "len" = none
  n_tuple : mg "tuple" = none
  n_sorted : mg "sorted" = none
  n_range : mg "range" = none
  n_max : mg "max" = none
  n_any : mg "any" = none
  n_all : mg "all" = none
  n_sum : mg "sum" = none
  n_isinstance : mg "isinstance" = none
  n_repr : mg "repr" = none
  n_min : mg "min" = none

section
variable {P : Program} {w : World} {K : PySem.W.Frag} {mg : Str → Option Value} {base : Heap}

theorem ok_Ltake {f : Addr} {fd : FuncData} (F : Fun K "_law_take" "_law_take" s_Ltake f fd) : FnOk P w K mg base CX0 1 f fd ["_law_box_here", "_law_many"] sp_take := by
  refine F.ok sc_Ltake (fun vs H Q E h => ?_) (fun cdv A outer s H vs Q E hr h => ?_)
  · obtain ⟨b, many, n, rfl, _⟩ := h
    rfl
  · obtain ⟨b, many, n, rfl, ⟨o, m, c, h1, ho, hm0, hm, hc0, hc⟩, hn, hm1, hm2, k⟩ := h
    have nd := sc_Ltake.nd
    refine ⟨_, (pss_cons (ps_if (pt_cmpR op_gt (pe_ix ix_list (pv 0) pe_int (fun _ _ => rfl)) pe_int (nomark _))
(pss_cons (ps_set (i := 2) nd rfl (Or.inl rfl) (pe_op op_mod (pe_ix ix_list (pv 0) pe_int (fun _ _ => rfl)) (pv 1)))
(pss_cons (ps_asg (pe_op op_fdivW (pe_ix ix_list (pv 0) pe_int (fun _ _ => rfl)) (pv 1)) (pg_sub (pv 0) pe_int set_list))
(pss_one (ps_ret (pv 2)))))
pss_nil)
(pss_cons (ps_asg (pe_op op_add (pe_ix ix_list (pv 0) pe_int (fun _ _ => rfl)) pe_int) (pg_sub (pv 0) pe_int set_list))
(pss_cons (ps_set (i := 3) nd rfl (Or.inl rfl) (pe_op op_mod (pe_op op_mul (pe_op op_add (pe_op op_add (pe_ix ix_list (pv 0) pe_int (fun _ _ => rfl)) (pe_op op_mul (pe_op op_mul pe_int (pe_ix ix_list (pv 0) pe_int (fun _ _ => rfl))) (pe_ix ix_list (pv 0) pe_int (fun _ _ => rfl)))) pe_int) pe_int) pe_int))
(pss_cons (ps_set (i := 3) nd rfl (Or.inl rfl) (pe_op op_mod (pe_op op_mul (pv 3) (pe_op op_add (pe_op op_mod (pv 3) pe_int) (pe_op op_mul pe_int (pe_ix ix_list (pv 0) pe_int (fun _ _ => rfl))))) pe_int))
(pss_one (ps_ret (pe_op op_mod (pe_op op_add (pe_op op_fdiv (pv 3) pe_int) (pe_op op_fdiv (pv 3) pe_int)) (pv 1)))))))), ?_⟩
    refine ⟨_, rfl, _, _, _, _, rfl, rfl, SqL.of h1, rfl, _, _, rfl, rfl, _, rfl, ite2 (fun e => ?_) (fun e => ?_)⟩
    · refine ⟨_, rfl, _, _, _, _, rfl, rfl, SqL.of h1, rfl, _, rfl, _, _, rfl, rfl, hm1, ?_⟩
      refine ⟨_, rfl, _, _, _, _, rfl, rfl, SqL.of h1, rfl, _, rfl, _, _, rfl, rfl, wide_div hm1 (b := 64) (by omega) (by decide) (by decide), _, rfl, _, _, _, _, rfl, rfl, h1, rfl, ?_⟩
      refine ⟨_, rfl, k _ _ (Int.emod_nonneg _ (by omega)) (Int.emod_lt_of_pos _ hm1) ⟨_, _, _, upd_same, Int.ediv_nonneg ho (by omega), hm0, hm, hc0, by omega⟩ But.set⟩
    · refine ⟨_, rfl, _, _, _, _, rfl, rfl, SqL.of h1, rfl, _, _, rfl, rfl, _, rfl, _, _, _, _, rfl, rfl, h1, rfl, ?_⟩
      -- the mixed number
      refine ⟨_, rfl, _, _, _, _, rfl, rfl, SqL.of upd_same, rfl, _, rfl, _, _, _, _, rfl, rfl, SqL.of upd_same, rfl, _, _, rfl, rfl, .inl (by decide), _, rfl, _, _, _, _, rfl, rfl, SqL.of upd_same, rfl, _, _, rfl, rfl, .inr (by omega), _, _, rfl, rfl, _, _, rfl, rfl, _, _, rfl, rfl, .inr (by decide), _, _, rfl, rfl, (by show (0 : Int) < _; decide), ?_⟩
      generalize ((m + 65557 * (c + 1) * (c + 1) + 19) * 48311) = z
      have z0 : 0 ≤ z % 2305843009213693921 := Int.emod_nonneg _ (by decide)
      have z1 : z % 2305843009213693921 < 2305843009213693921 := Int.emod_lt_of_pos _ (by decide)
      refine ⟨_, rfl, _, rfl, _, _, rfl, rfl, (by show (0 : Int) < _; decide), _, rfl, _, _, _, _, rfl, rfl, SqL.of upd_same, rfl, _, _, rfl, rfl, .inl (by decide), _, _, rfl, rfl, _, _, rfl, rfl, .inl (by omega), _, _, rfl, rfl, (by show (0 : Int) < _; decide), ?_⟩
      refine ⟨_, rfl, _, _, rfl, rfl, ⟨by decide, by decide⟩, _, rfl, _, _, rfl, rfl, ⟨by decide, by decide⟩, _, _, rfl, rfl, _, rfl, _, _, rfl, rfl, hm1, ?_⟩
      exact k _ _ (Int.emod_nonneg _ (by omega)) (Int.emod_lt_of_pos _ hm1) ⟨_, _, _, upd_same, ho, hm0, hm, by omega, by omega⟩ But.set

theorem ok_Lbox {f : Addr} {fd : FuncData} (T : Txt K mg) (F : Fun K "_law_box" "_law_box" s_Lbox f fd) : FnOk P w K mg base CX0 1 f fd ["_law_script", "_law_k"] (sp_box K) := by
  refine F.ok sc_Lbox (fun vs H Q E h => ?_) (fun cdv A outer s H vs Q E hr h => ?_)
  · obtain ⟨a, ns, j, rfl, _⟩ := h
    rfl
  · obtain ⟨a, ns, j, rfl, hS, hlen, hj, hj2, k⟩ := h
    have nd := sc_Lbox.nd
    refine ⟨_, (pss_cons (ps_set (i := 2) nd rfl (Or.inl rfl) (pe_ifExp (pt_cmpR op_lt (pv 1) (pe_callB call_len_seq (by rfl) T.n_len (by decide +kernel) (pa_cons (pv 0) pa_nil)) (nomark _)) (pe_ix ix_list (pv 0) (pv 1) (fun _ _ => rfl)) (pe_op op_add (pe_op op_mul pe_int (pv 1)) pe_int)))
(pss_cons (ps_set (i := 3) nd rfl (Or.inl rfl) (pe_op op_mul (pe_op op_mod (pe_callB call_abs (by rfl) T.n_abs (by decide +kernel) (pa_cons (pv 2) pa_nil)) (pe_op op_powW (pe_op op_pow pe_int pe_int) pe_int)) (pe_callTy call_int1 (by rfl) T.n_int (by decide +kernel) (pa_cons (pe_cmpR op_ge (pe_callB call_abs (by rfl) T.n_abs (by decide +kernel) (pa_cons (pv 2) pa_nil)) (pe_op op_pow pe_int pe_int) (nomark _)) pa_nil))))
(pss_one (ps_ret (pe_lst (pa_cons (pv 3) (pa_cons (pe_op op_mod (pe_op op_add (pe_op op_add (pe_op op_mul (pe_op op_mod (pv 2) pe_int) pe_int) (pe_op op_mul (pe_op op_mul pe_int (pv 1)) (pv 1))) pe_int) pe_int) (pa_cons pe_int pa_nil)))))))), ?_⟩
    refine ⟨_, rfl, _, rfl, _, _, rfl, .inl hS, _, _, rfl, rfl, _, rfl, ?_⟩
    apply @join Int
    case use =>
      intro rest
      refine ite2 (fun e => ?_) (fun e => ?_)
      · have hlt : j < ((ns.map V.int).length : Nat) := of_decide_eq_true e
        obtain ⟨v, hv, hm⟩ := atI_in hj hlt
        obtain ⟨cell, _, rfl⟩ := List.mem_map.mp hm
        exact ⟨_, rfl, _, rfl, _, _, _, _, rfl, rfl, hS, hv, rest cell⟩
      · exact ⟨_, rfl, _, _, rfl, rfl, .inl (by decide), _, _, rfl, rfl, rest _⟩
    case rest =>
      intro cell
      refine ⟨_, rfl, _, rfl, _, _, rfl, rfl, ⟨by decide, by decide +kernel⟩, _, _, rfl, rfl, ⟨by decide, by decide +kernel⟩, _, _, rfl, rfl, (by show (0 : Int) < _; decide +kernel), _, rfl, _, rfl, _, _, rfl, rfl, ⟨by decide, by decide +kernel⟩, _, _, rfl, rfl, ?_⟩
      have p5 : (0 : Int) < ((10 : Int) ^ (60 : Int).toNat) ^ (5 : Int).toNat := by decide +kernel
      generalize ((10 : Int) ^ (60 : Int).toNat) ^ (5 : Int).toNat = B at p5
      refine .inr ⟨_, rfl, _, _, rfl, rfl, .inr (b2_w _), ?_⟩
      refine ⟨_, rfl, _, rfl, _, _, rfl, rfl, (by show (0 : Int) < _; decide), _, _, rfl, rfl, .inr (by decide), _, rfl, _, _, rfl, rfl, .inl (by decide), _, rfl, _, _, rfl, rfl, .inl (by omega), _, _, rfl, rfl, _, _, rfl, rfl, _, _, rfl, rfl, (by show (0 : Int) < _; decide), szl 3 rfl, fun p hp => ?_⟩
      exact k p _ (same_new hp) hp ⟨_, _, _, upd_same, Int.mul_nonneg (Int.emod_nonneg _ (by omega)) (b2_nn _), Int.emod_nonneg _ (by decide), Int.lt_trans (Int.emod_lt_of_pos _ (by decide)) (by decide), by omega, by omega⟩

theorem ok_Lof {f : Addr} {fd : FuncData} (T : Txt K mg) (F : Fun K "_law_of" "_law_of" s_Lof f fd) : FnOk P w K mg base CX0 2 f fd ["_law_box_here", "_law_some"] (sp_of K) := by
  refine F.ok sc_Lof (fun vs H Q E h => ?_) (fun cdv A outer s H vs Q E hr h => ?_)
  · obtain ⟨b, a, xs, n, rfl, _⟩ := h
    rfl
  · obtain ⟨b, a, xs, n, rfl, hB, nab, hx, hn, hne, hlen, k⟩ := h
    have nd := sc_Lof.nd
    obtain ⟨f_Ltake, fd_Ltake, F_Ltake, m_Ltake, b_Ltake⟩ := T.d_Ltake.ex
    have G_Ltake := ok_Ltake (P := P) (w := w) (mg := mg) (base := base) F_Ltake
    have hpos : 0 < xs.length := List.length_pos_iff.mpr hne
    refine ⟨_, (pss_one (ps_ret (pe_ix ix_seq (pv 1) (pe_call G_Ltake (hr.mono (by decide)) rfl m_Ltake F_Ltake.kp b_Ltake .nil pass0 (pa_cons (pv 0) (pa_cons (pe_callB call_len_seq (by rfl) T.n_len (by decide +kernel) (pa_cons (pv 1) pa_nil)) pa_nil))) (fun _ _ => rfl)))), ?_⟩
    refine ⟨_, rfl, _, rfl, _, rfl, _, xs, rfl, hx.elim (fun h => .inl (SqL.of h)) (fun h => .inr (SqT.of h)), b, _, n, rfl, hB, hn, by omega, by omega, fun r H' h0 h1 hB' hb => ?_⟩
    obtain ⟨v, hv, hm⟩ := atI_in h0 h1
    rcases hx with hx | hx
    · exact .inl ⟨_, _, _, _, rfl, rfl, SqL.of (hb _ _ nab hx), hv, k v H' hm hB' hb⟩
    · exact .inr (.inl ⟨_, _, _, _, rfl, rfl, SqT.of (hb _ _ nab hx), hv, k v H' hm hB' hb⟩)

theorem ok_Lbook {f : Addr} {fd : FuncData} (T : Txt K mg) (F : Fun K "_law_book" "_law_book" s_Lbook f fd) : FnOk P w K mg base CX0 3 f fd ["_law_box_here", "_law_top"] sp_book := by
  refine F.ok sc_Lbook (fun vs H Q E h => ?_) (fun cdv A outer s H vs Q E hr h => ?_)
  · obtain ⟨b, top, n, rfl, _⟩ := h
    rfl
  · obtain ⟨b, top, n, rfl, hB, hn, h1, h2, k⟩ := h
    have nd := sc_Lbook.nd
    obtain ⟨f_Ltake, fd_Ltake, F_Ltake, m_Ltake, b_Ltake⟩ := T.d_Ltake.ex
    have G_Ltake := ok_Ltake (P := P) (w := w) (mg := mg) (base := base) F_Ltake
    obtain ⟨f_Lof, fd_Lof, F_Lof, m_Lof, b_Lof⟩ := T.d_Lof.ex
    have G_Lof := ok_Lof (P := P) (w := w) (mg := mg) (base := base) T F_Lof
    refine ⟨_, (pss_cons (ps_par (i := 2) (j := 3) (by rfl) nd rfl rfl (by decide) rfl rfl (pa_cons (pe_op op_add pe_int (pe_call G_Ltake (hr.mono (by decide)) rfl m_Ltake F_Ltake.kp b_Ltake .nil pass0 (pa_cons (pv 0) (pa_cons (pv 1) pa_nil)))) (pa_cons pe_dnewK pa_nil)) (by rfl))
(pss_cons (ps_for PassesOwn.never rfl (pi_range1 (by rfl) T.n_range (pa_cons (pe_op op_add pe_int (pe_call G_Ltake (hr.mono (by decide)) rfl m_Ltake F_Ltake.kp b_Ltake .nil pass0 (pa_cons (pv 0) (pa_cons pe_int pa_nil)))) pa_nil)) (pg_name (i := 4) nd rfl (Or.inl rfl))
(pss_cons (ps_set (i := 5) nd rfl (Or.inl rfl) (pe_lst (pa_cons (pe_op op_add pe_int (pe_call G_Ltake (hr.mono (by decide)) rfl m_Ltake F_Ltake.kp b_Ltake .nil pass0 (pa_cons (pv 0) (pa_cons (pv 2) pa_nil)))) (pa_cons (pe_op op_add (pe_op op_fdiv (pv 2) pe_int) pe_int) (pa_cons pe_int (pa_cons (pv 2) (pa_cons (pe_callB (call_max2 rfl) (by rfl) T.n_max (by decide +kernel) (pa_cons pe_int (pa_cons (pe_op op_fdiv (pv 2) pe_int) pa_nil))) (pa_cons (pe_callB (call_max2 rfl) (by rfl) T.n_max (by decide +kernel) (pa_cons pe_int (pa_cons (pe_op op_fdiv (pv 2) pe_int) pa_nil))) pa_nil))))))))
(pss_one (ps_dput (hu_of hr) (pv 3) (pe_call G_Lof (hr.mono (by decide)) rfl m_Lof F_Lof.kp b_Lof .nil pass0 (pa_cons (pv 0) (pa_cons (pe_op op_cat (pe_op op_rep (pe_slice sl_list (pv 5) po_none (po_some pe_int)) pe_int) (pv 5)) pa_nil))) pe_bl rfl))))
(pss_one (ps_ret (pe_tup (pa_cons (pv 2) (pa_cons (pe_callTy call_tuple_of (by rfl) T.n_tuple (by decide +kernel) (pa_cons (pe_callB (call_sortedDI rfl) (by rfl) T.n_sorted (by decide +kernel) (pa_cons (pv 3) pa_nil)) pa_nil)) pa_nil))))))), ?_⟩
    refine ⟨_, rfl, _, rfl, b, top, n, rfl, hB, by omega, by omega, by omega, fun r H1 r0 r1 B1 u1 => ?_⟩
    refine ⟨_, _, rfl, rfl, fun d hd => ⟨_, _, rfl, ?_⟩⟩
    have hdb : d ≠ b := (ne_of_none (B1.there.choose_spec) hd).symm
    have B2 : Box (n + 1) (upd H1 d (.dK [])) b := B1.new hd
    refine ⟨_, rfl, b, 6, n + 1, rfl, B2, by omega, by omega, by omega, fun c H2 c0 c1 B3 u2 => ?_⟩
    refine ⟨_, _, rfl, rfl, _, rfl, by omega, by omega, for_range (n := (1 + c).toNat) (fun i σ H' => ∃ (ks : List Int) (v4 v5 : Option V), σ = [some (.ref b), some (.int top), some (.int (1 + r)), some (.ref d), v4, v5] ∧ Box (n + 2 + 2 * i) H' b ∧ H' d = some (.dK (dT ks)) ∧ But b H H' ∧
      ks.Nodup ∧ ks.length ≤ i ∧ (0 < i → ks ≠ []) ∧ ∀ x ∈ ks, 1 ≤ x ∧ x ≤ 1 + r)
      ⟨[], none, none, rfl, B3.mono (by omega), u2 _ _ hdb upd_same, (u1.trans (But.new hd)).trans u2, List.nodup_nil, Nat.le_refl _, fun z => absurd z (by omega), fun _ z => absurd z (by simp)⟩ ?_ ?_⟩
    · rintro i σ H' hi ⟨ks, v4, v5, rfl, BB, D, u, kn, kl, kz, km⟩
      have r3 : (1 + r) / 2 + 1 ≤ 1 + r ∨ 1 + r = 1 := by omega
      refine ⟨_, rfl, _, rfl, b, 1 + r, _, rfl, BB, by omega, by omega, by omega, fun z H3 z0 z1 B4 u3 => ?_⟩
      refine ⟨_, _, rfl, rfl, _, rfl, _, _, rfl, rfl, ⟨by decide, by decide⟩, _, _, rfl, rfl, _, rfl, _, rfl, _, _, rfl, rfl, ⟨by decide, by decide⟩, _, _, rfl, _, rfl, _, _, rfl, rfl, ⟨by decide, by decide⟩, _, _, rfl, szl 6 rfl, fun p hp => ?_⟩
      have D3 : H3 d = some (.dK (dT ks)) := u3 _ _ hdb D
      refine ⟨_, rfl, _, rfl, _, rfl, _, rfl, _, _, rfl, SqL.of upd_same, fun p1 hp1 => ⟨_, _, _, rfl, rfl, upd_same, by decide, by decide, nle 3 rfl, fun p2 hp2 => ⟨_, rfl, _, _, _, _, rfl, rfl, upd_same, kp_new hp2 (kp_new hp1 upd_same), nle 9 rfl, fun p3 hp3 => ?_⟩⟩⟩
      refine ⟨b, p3, _, n + 2 + 2 * i + 1, rfl, (((B4.new hp).new hp1).new hp2).new hp3, (((B4.new hp).new hp1).new hp2).ne hp3, .inl upd_same, by omega, by simp, by show 9 < 2 ^ 60; decide, fun v H6 hv B6 u6 => ?_⟩
      obtain ⟨x, rfl, x1, x2⟩ := one_of r0 z0 z1 hv
      refine ⟨d, _, rfl, DPut.k (k := Sum.inl x) (u6 _ _ hdb (kp_new hp3 (kp_new hp2 (kp_new hp1 (kp_new hp D3))))) (Nat.lt_of_le_of_lt (by unfold dT; rw [List.length_map]; omega) (by decide : 100 < sizeLine)), ?_⟩
      have e1 : putK (dT ks) (Sum.inl x) (V.bl true) = dT (insL ks x) := dT_put ks x
      refine ⟨insL ks x, _, _, rfl, (B6.set hdb).mono (by omega), by rw [e1]; exact upd_same, fun a o na h => ?_, insL_nd kn, Nat.le_trans (insL_len _ _) (by omega), fun _ => insL_ne _ _, fun y hy => (insL_mem hy).elim (km y) (fun e => by omega)⟩
      exact kp_set (ne_of_none h (u1.free hd hdb)) (u6 _ _ na (kp_new hp3 (kp_new hp2 (kp_new hp1 (kp_new hp (u3 _ _ na (u _ _ na h)))))))
    · rintro σ H' ⟨ks, v4, v5, rfl, BB, D, u, kn, kl, kz, km⟩
      have hcn : ((1 + c).toNat : Int) = 1 + c := by omega
      refine ⟨_, rfl, _, rfl, d, dT ks, ks, rfl, .of D, dT_keys ks, by omega, fun ys p pm py hp => ?_⟩
      refine ⟨p, _, rfl, .inl ⟨SqL.of upd_same, fun q hq => ⟨szl 2 rfl, fun t ht => ?_⟩⟩⟩
      refine k t (1 + r) ys _ ⟨by omega, by omega, ?_, ?_, fun l hl => km l (pm.mem_iff.mp hl), asc_of pm kn py⟩ (by omega) ⟨q, upd_same, kp_new ht upd_same⟩ ((((BB.new hp).new hq).new ht).mono (by omega)) fun a o na h => kp_new ht (kp_new hq (kp_new hp (u _ _ na h)))
      · intro e
        rw [e] at pm
        exact kz (by omega) pm.symm.eq_nil
      · rw [pm.length_eq]
        omega

end
end My

namespace My
open PySem L2
section
variable {P : Program} {w : World} {K : PySem.W.Frag} {mg : Str → Option Value} {base : Heap}

theorem ok_last_lines {f : Addr} {fd : FuncData} (T : Txt K mg) (F : Fun K "last_lines" "last_lines" s_last_lines f fd) : FnOk P w K mg base CX0 1 f fd ["rules", "first"] sp_last_lines := by
  refine F.ok sc_last_lines (fun vs H Q E h => ?_) (fun cdv A outer s H vs Q E hr h => ?_)
  · obtain ⟨p, S, ls, x, rfl, _⟩ := h
    rfl
  · obtain ⟨p, S, ls, x, rfl, ⟨q, hp, hq⟩, R, hx, k⟩ := h
    have nd := sc_last_lines.nd
    have S1 := R.s1
    have S2 := R.s2
    obtain ⟨x1, x2⟩ := R.mem x hx
    have pos : ∀ l ∈ ls, 1 ≤ l := fun l hl => (R.mem l hl).1
    refine ⟨_, (pss_cons (ps_asg (pv 0) (pg_tup (by rfl) (pgs_cons (pg_name (i := 2) nd rfl (Or.inl rfl)) (pgs_cons (pg_name (i := 3) nd rfl (Or.inl rfl)) pgs_nil))))
(pss_cons (ps_set (i := 4) nd rfl (Or.inl rfl) (pe_op op_rep (pe_lst (pa_cons pe_non pa_nil)) (pe_op op_add (pv 2) pe_int)))
(pss_cons (ps_asg (pv 1) (pg_sub (pv 4) (pv 1) set_list))
(pss_cons (ps_for PassesOwn.never rfl (pi_range2 (by rfl) T.n_range (pa_cons (pe_op op_add (pv 1) pe_int) (pa_cons (pe_op op_add (pv 2) pe_int) pa_nil))) (pg_name (i := 5) nd rfl (Or.inl rfl))
(pss_one (ps_for PassesOwn.never rfl (pi_tup (pv 3)) (pg_name (i := 6) nd rfl (Or.inl rfl))
(pss_one (ps_if (PW.pt (pw_and (pt_cmpR op_le (pv 6) (pv 5) (nomark _)) (pw_and1 (pt_cmpR op_notN (pe_ix ix_list (pv 4) (pe_op op_sub (pv 5) (pv 6)) (fun _ _ => rfl)) pe_non (nomark _)))))
(pss_one (ps_asg (pv 6) (pg_sub (pv 4) (pv 5) set_list)))
pss_nil)))))
(pss_one (ps_ret (pv 4))))))), ?_⟩
    refine ⟨_, rfl, _, _, rfl, SqT.of hp, rfl, _, _, rfl, _, _, rfl, rfl, ?_⟩
    refine ⟨Nat.le_of_lt (by decide), fun p1 hp1 => ⟨_, rfl, _, _, rfl, rfl, _, _, _, rfl, rfl, upd_same, by omega, by omega, ?_, fun l hl => ?_⟩⟩
    · show 1 * (S + 1).toNat ≤ sizeLine
      exact Nat.le_trans (by omega : _ ≤ 101) (by decide)
    have t0 : (List.replicate (S + 1).toNat [V.non]).flatten = tab (S + 1).toNat fun _ => none := tab_new _
    refine ⟨_, rfl, _, rfl, _, rfl, l, tab (S + 1).toNat fun _ => none, x, x.toNat, rfl, rfl, by rw [← t0]; exact upd_same, by rw [tab_len]; exact ixN_in (by omega) (by omega), ?_⟩
    rw [tab_set]
    have hlH : H l = none := by
      cases e : H l with
      | none => rfl
      | some o => rw [kp_new hp1 e] at hl; cases hl
    -- what holds before the total t
    let OK := fun (t : Nat) (g : Nat → Option Int) => (∀ u : Nat, (u : Int) < x + 1 + t → LastOk ls x g u) ∧ ∀ u : Nat, x + 1 + t ≤ (u : Int) → g u = none
    have ok0 : OK 0 (put (fun _ => none) x.toNat (some x)) := by
      refine ⟨fun u hu => ?_, fun u hu => put_ne (by omega)⟩
      by_cases e : u = x.toNat
      · subst e
        have ex : ((x.toNat : Nat) : Int) = x := by omega
        refine ⟨?_, fun m hm => ?_⟩
        · rw [put_same, ex]
          exact ⟨fun _ => Reach.self, fun _ => rfl⟩
        · rw [put_same] at hm
          cases hm
          exact ⟨hx, .inl ex⟩
      · refine ⟨?_, fun m hm => ?_⟩
        · rw [put_ne e]
          constructor
          · intro z
            cases z
          · intro z
            have := z.ge pos
            omega
        · rw [put_ne e] at hm
          cases hm
    refine ⟨_, rfl, _, _, rfl, rfl, _, rfl, _, _, rfl, rfl, _, _, rfl, ⟨by omega, by omega, by omega, by omega⟩, for_range (lo := x + 1) (n := (S + 1 - (x + 1)).toNat) (fun i σ H' => ∃ (g : Nat → Option Int) (v5 v6 : Option V), σ = [some (.ref p), some (.int x), some (.int S), some (.ref q), some (.ref l), v5, v6] ∧ H' l = some (.lst (tab (S + 1).toNat g)) ∧ Same H H' ∧ OK i g)
      ⟨_, none, none, rfl, upd_same, fun a o h => kp_set (ne_of_none h hlH) (kp_set (ne_of_none h hlH) (kp_new hp1 h)), ok0⟩ ?_ ?_⟩
    · rintro i σ H' hi ⟨g, v5, v6, rfl, D, sm, ok1, ok2⟩
      have ht : ∃ t : Nat, (t : Int) = x + 1 + i := ⟨(x + 1 + i).toNat, by omega⟩
      obtain ⟨t, ht⟩ := ht
      refine ⟨_, rfl, _, rfl, ⟨_, SqT.of (sm _ _ hq)⟩, for_tup (a := q) (xs := ls.map V.int) (fun j σ H' => ∃ (g' : Nat → Option Int) (v6 : Option V), σ = [some (.ref p), some (.int x), some (.int S), some (.ref q), some (.ref l), some (.int (x + 1 + i)), v6] ∧ H' l = some (.lst (tab (S + 1).toNat g')) ∧ Same H H' ∧
          (∀ u, u ≠ t → g' u = g u) ∧ ((g' t).isSome = true ↔ ∃ m, m ∈ ls.take j ∧ Reach ls x (t - m)) ∧ ∀ m, g' t = some m → m ∈ ls ∧ Reach ls x (t - m))
        ⟨g, v6, rfl, D, sm, fun _ _ => rfl, ?_, ?_⟩ (fun j σ H' _ ⟨_, _, _, _, s2, _⟩ => SqT.of (s2 _ _ hq)) ?_ ?_⟩
      · rw [ok2 t (by omega)]
        simp
      · intro m hm
        rw [ok2 t (by omega)] at hm
        cases hm
      · rintro j y σ H' hj ⟨g', v6, rfl, D', sm', e1, e2, e3⟩
        have hjl : j < ls.length := by
          have z := (List.getElem?_eq_some_iff.mp hj).1
          rwa [List.length_map] at z
        have ej : y = .int ls[j] := by
          rw [List.getElem?_map, List.getElem?_eq_getElem hjl] at hj
          exact (Option.some.inj hj).symm
        subst ej
        have hm : ls[j] ∈ ls := List.getElem_mem hjl
        generalize hmj : ls[j] = m at hm
        obtain ⟨m1, m2⟩ := R.mem m hm
        have tk : ls.take (j + 1) = ls.take j ++ [m] := by rw [List.take_add_one, List.getElem?_eq_getElem hjl, hmj]; rfl
        have gt : m ≤ x + 1 + i → (g' (t - m.toNat)) = g (t - m.toNat) := fun _ => e1 _ (by omega)
        have rch : m ≤ x + 1 + i → ((g' (x + 1 + (i : Int) - m).toNat).isSome = true ↔ Reach ls x (t - m)) := fun hle => by
          have e : (x + 1 + (i : Int) - m).toNat = t - m.toNat := by omega
          rw [e, gt hle]
          have q := (ok1 (t - m.toNat) (by omega)).1
          have e2 : ((t - m.toNat : Nat) : Int) = t - m := by omega
          rw [e2] at q
          exact q
        have skip : ¬ Reach ls x (t - m) → (((g' t).isSome = true ↔ ∃ m, m ∈ ls.take (j + 1) ∧ Reach ls x (t - m)) ∧ ∀ m, g' t = some m → m ∈ ls ∧ Reach ls x (t - m)) := fun nr => by
          refine ⟨e2.trans ⟨fun ⟨z, z1, z2⟩ => ⟨z, by rw [tk]; exact List.mem_append_left _ z1, z2⟩, fun ⟨z, z1, z2⟩ => ?_⟩, e3⟩
          rw [tk] at z1
          rcases List.mem_append.mp z1 with z1 | z1
          · exact ⟨z, z1, z2⟩
          · have : z = m := by simpa using z1
            subst this
            exact absurd z2 nr
        refine and_if _ _ (fun Q q => ⟨_, rfl, _, rfl, _, _, rfl, rfl, _, rfl, q⟩) (fun e0 Q q => ⟨_, rfl, _, rfl, _, rfl, _, _, rfl, rfl, _, _, _, _, rfl, rfl, SqL.of D', tab_at (by have := of_decide_eq_true e0; omega) (by omega), rfl, _, rfl, q⟩) (fun f0 f1 => ?_) (fun f0 => ?_)
        · have hle : m ≤ x + 1 + i := of_decide_eq_true f0
          refine ⟨_, rfl, _, rfl, _, rfl, l, _, _, t, rfl, rfl, D', by rw [tab_len, ixN_in (by omega) (by omega)]; congr 1; omega, ?_⟩
          rw [tab_set]
          have rm : Reach ls x (t - m) := (rch hle).mp (by
            cases e : g' (x + 1 + (i : Int) - m).toNat with
            | none => rw [e] at f1; cases f1
            | some _ => rfl)
          refine ⟨put g' t (some m), _, rfl, upd_same, fun a o h => kp_set (ne_of_none h hlH) (sm' _ _ h), fun u hu => by rw [put_ne hu]; exact e1 u hu, ?_, ?_⟩
          · rw [put_same]
            exact ⟨fun _ => ⟨m, by rw [tk]; simp, rm⟩, fun _ => rfl⟩
          · intro z hz
            rw [put_same] at hz
            cases hz
            exact ⟨hm, rm⟩
        · refine ⟨g', _, rfl, D', sm', e1, skip ?_⟩
          intro rm
          have := rm.ge pos
          have hle : m ≤ x + 1 + i := by omega
          have f1 := (rch hle).mpr rm
          rw [Bool.and_eq_false_iff] at f0
          rcases f0 with f0 | f0
          · exact of_decide_eq_false f0 hle
          · cases e : g' (x + 1 + (i : Int) - m).toNat with
            | none => rw [e] at f1; cases f1
            | some _ => rw [e] at f0; cases f0
      · rintro σ H' ⟨g', v6, rfl, D', sm', e1, e2, e3⟩
        have tk : ls.take (ls.map V.int).length = ls := by rw [List.length_map, List.take_length]
        rw [tk] at e2
        refine ⟨g', _, _, rfl, D', sm', fun u hu => ?_, fun u hu => by rw [e1 u (by omega)]; exact ok2 u (by omega)⟩
        by_cases eu : u = t
        · subst eu
          exact ⟨e2.trans (Reach.iff (by omega)).symm, fun m hm => ⟨(e3 m hm).1, .inr (e3 m hm).2⟩⟩
        · obtain ⟨a1, a2⟩ := ok1 u (by omega)
          unfold LastOk
          rw [e1 u eu]
          exact ⟨a1, a2⟩
    · rintro σ H' ⟨g, v5, v6, rfl, D, sm, ok1, ok2⟩
      exact ⟨_, rfl, k l g H' (fun u hu => ok1 u (by omega)) hlH D sm⟩

theorem ok_totals_for {f : Addr} {fd : FuncData} (T : Txt K mg) (F : Fun K "totals_for" "totals_for" s_totals_for f fd) : FnOk P w K mg base CX0 1 f fd ["lasts", "later"] sp_totals_for := by
  refine F.ok sc_totals_for (fun vs H Q E h => ?_) (fun cdv A outer s H vs Q E hr h => ?_)
  · obtain ⟨l, S, ls, x, y, g, rfl, _⟩ := h
    rfl
  · obtain ⟨l, S, ls, x, y, g, rfl, hl, hg, R, y1, y2, k⟩ := h
    have nd := sc_totals_for.nd
    have S1 := R.s1
    have S2 := R.s2
    have lenI : (((tab (S + 1).toNat g).length : Nat) : Int) = S + 1 := by rw [tab_len]; omega
    refine ⟨_, (pss_cons (ps_set (i := 2) nd rfl (Or.inl rfl) (pe_op op_sub (pe_callB call_len_seq (by rfl) T.n_len (by decide +kernel) (pa_cons (pv 0) pa_nil)) pe_int))
(pss_one (ps_ret (pe_lc (own := [("total", 3)]) (g := gName 3) rfl nd (pi_range2 (by rfl) T.n_range (pa_cons (pe_op op_add (pe_op op_sub (pv 2) (pv 1)) pe_int) (pa_cons (pe_op op_add (pv 2) pe_int) pa_nil))) (blkOk_by (own := [("total", 3)]) (N := N_totals_for) (sc := defScope s_totals_for) (by decide +kernel)) (fun _ _ _ _ _ => pg_name (i := 3) nd rfl (Or.inl rfl)) (fun _ _ _ _ _ => pts_one (pt_cmpR op_notN (pe_ix (ix_listK (K := K) rfl) (pv 0) (pv 3) (fun _ _ => rfl)) pe_non (nomark _))) (fun _ _ _ _ _ => (pv 3)))))), ?_⟩
    refine ⟨_, rfl, _, _, rfl, .inl (SqL.of hl), _, _, rfl, rfl, ?_⟩
    rw [lenI]
    have e1 : S + 1 - 1 = S := by omega
    dsimp only
    rw [e1]
    refine ⟨_, rfl, _, rfl, _, _, rfl, rfl, _, _, rfl, rfl, _, rfl, _, _, rfl, rfl, _, _, rfl, ⟨by omega, by omega, by omega, by omega⟩, fun D hD => lc_range (lo := S - y + 1) (n := (S + 1 - (S - y + 1)).toNat) (fun i H' => ∃ ts : List Int, H' D = some (.lst (ts.map V.int)) ∧ Same H H' ∧ ts.Pairwise (· < ·) ∧ ts.length ≤ i ∧ ∀ t, t ∈ ts ↔ (S - y < t ∧ t < S - y + 1 + i ∧ Reach ls x t))
      ⟨[], upd_same, same_new hD, .nil, Nat.le_refl _, fun t => ⟨fun z => absurd z (by simp), fun z => by omega⟩⟩ ?_ ?_⟩
    · rintro i H' hi ⟨ts, D1, sm, pw, ln, mm⟩
      refine ⟨rfl, ?_⟩
      obtain ⟨t, ht⟩ : ∃ t : Nat, (t : Int) = S - y + 1 + i := ⟨(S - y + 1 + i).toNat, by omega⟩
      have et : (S - y + 1 + (i : Int)).toNat = t := by omega
      have rt := (hg t (by omega)).1
      refine ⟨_, rfl, _, rfl, _, _, _, _, rfl, rfl, SqL.of (sm _ _ hl), tab_at (by omega) (by omega), rfl, _, rfl, ?_⟩
      rw [et]
      cases e : g t with
      | none =>
        rw [e] at rt
        refine iteF ⟨ts, D1, sm, pw, by omega, fun u => ?_⟩
        rw [mm u]
        constructor
        · exact fun ⟨a, b, c⟩ => ⟨a, by omega, c⟩
        · rintro ⟨a, b, c⟩
          refine ⟨a, ?_, c⟩
          have : u ≠ t := by
            intro z
            rw [z] at c
            exact absurd (rt.mpr c) (by simp)
          omega
      | some v =>
        rw [e] at rt
        have rt2 := rt.mp rfl
        refine iteT ⟨_, rfl, _, D1, Nat.lt_of_le_of_lt (by rw [List.length_map]; omega : _ ≤ 1000) (by decide), ts ++ [(t : Int)], by rw [upd_same, List.map_append, ht]; rfl, fun a o h => kp_set (ne_of_none h hD) (sm _ _ h), ?_, by simp; omega, fun u => ?_⟩
        · rw [List.pairwise_append]
          refine ⟨pw, by simp, fun a ha b hb => ?_⟩
          have := (mm a).mp ha
          have : b = t := by simpa using hb
          omega
        · rw [List.mem_append, mm u, List.mem_singleton]
          constructor
          · rintro (⟨a, b, c⟩ | rfl)
            · exact ⟨a, by omega, c⟩
            · exact ⟨by omega, by omega, rt2⟩
          · rintro ⟨a, b, c⟩
            by_cases z : u = t
            · exact .inr z
            · exact .inl ⟨a, by omega, c⟩
    · rintro H' ⟨ts, D1, sm, pw, ln, mm⟩
      refine k D ts H' ⟨pw, fun t => (mm t).trans ⟨fun ⟨a, b, c⟩ => ⟨a, by omega, c⟩, fun ⟨a, b, c⟩ => ⟨a, by omega, c⟩⟩⟩ ?_ D1 sm
      exact hD

theorem ok_least_total {f : Addr} {fd : FuncData} (T : Txt K mg) (F : Fun K "least_total" "least_total" s_least_total f fd) : FnOk P w K mg base CX0 2 f fd ["rules", "first", "later"] (sp_total Least) := by
  refine F.ok sc_least_total (fun vs H Q E h => ?_) (fun cdv A outer s H vs Q E hr h => ?_)
  · obtain ⟨p, S, ls, x, y, rfl, _⟩ := h
    rfl
  · obtain ⟨p, S, ls, x, y, rfl, hp, R, hx, hy, k⟩ := h
    have nd := sc_least_total.nd
    obtain ⟨f_last_lines, fd_last_lines, F_last_lines, m_last_lines, b_last_lines⟩ := T.d_last_lines.ex
    have G_last_lines := ok_last_lines (P := P) (w := w) (mg := mg) (base := base) T F_last_lines
    obtain ⟨f_totals_for, fd_totals_for, F_totals_for, m_totals_for, b_totals_for⟩ := T.d_totals_for.ex
    have G_totals_for := ok_totals_for (P := P) (w := w) (mg := mg) (base := base) T F_totals_for
    obtain ⟨x1, x2⟩ := R.mem x hx
    obtain ⟨y1, y2⟩ := R.mem y hy
    refine ⟨_, (pss_one (ps_ret (pe_ix ix_list (pe_call G_totals_for (hr.mono (by decide)) rfl m_totals_for F_totals_for.kp b_totals_for .nil pass0 (pa_cons (pe_call G_last_lines (hr.mono (by decide)) rfl m_last_lines F_last_lines.kp b_last_lines .nil pass0 (pa_cons (pv 0) (pa_cons (pv 1) pa_nil))) (pa_cons (pv 2) pa_nil))) pe_int (fun _ _ => rfl)))), ?_⟩
    refine ⟨_, rfl, _, rfl, p, S, ls, x, rfl, hp, R, hx, fun l g H1 hg _ hl s1 => ?_⟩
    refine ⟨_, rfl, l, S, ls, x, y, g, rfl, hl, hg, R, y1, y2, fun r ts H2 ht _ hr s2 => ?_⟩
    obtain ⟨c, hc, lc, _⟩ := ht.first (ht.ne x2 hy y1)
    exact ⟨_, _, _, _, rfl, rfl, SqL.of hr, hc, k c H2 lc (s1.trans s2)⟩

theorem ok_greatest_total {f : Addr} {fd : FuncData} (T : Txt K mg) (F : Fun K "greatest_total" "greatest_total" s_greatest_total f fd) : FnOk P w K mg base CX0 2 f fd ["rules", "first", "later"] (sp_total Greatest) := by
  refine F.ok sc_greatest_total (fun vs H Q E h => ?_) (fun cdv A outer s H vs Q E hr h => ?_)
  · obtain ⟨p, S, ls, x, y, rfl, _⟩ := h
    rfl
  · obtain ⟨p, S, ls, x, y, rfl, hp, R, hx, hy, k⟩ := h
    have nd := sc_greatest_total.nd
    obtain ⟨f_last_lines, fd_last_lines, F_last_lines, m_last_lines, b_last_lines⟩ := T.d_last_lines.ex
    have G_last_lines := ok_last_lines (P := P) (w := w) (mg := mg) (base := base) T F_last_lines
    obtain ⟨f_totals_for, fd_totals_for, F_totals_for, m_totals_for, b_totals_for⟩ := T.d_totals_for.ex
    have G_totals_for := ok_totals_for (P := P) (w := w) (mg := mg) (base := base) T F_totals_for
    obtain ⟨x1, x2⟩ := R.mem x hx
    obtain ⟨y1, y2⟩ := R.mem y hy
    refine ⟨_, (pss_one (ps_ret (pe_ix ix_list (pe_call G_totals_for (hr.mono (by decide)) rfl m_totals_for F_totals_for.kp b_totals_for .nil pass0 (pa_cons (pe_call G_last_lines (hr.mono (by decide)) rfl m_last_lines F_last_lines.kp b_last_lines .nil pass0 (pa_cons (pv 0) (pa_cons (pv 1) pa_nil))) (pa_cons (pv 2) pa_nil))) (pe_un un_neg pe_int) (fun _ _ => rfl)))), ?_⟩
    refine ⟨_, rfl, _, rfl, p, S, ls, x, rfl, hp, R, hx, fun l g H1 hg _ hl s1 => ?_⟩
    refine ⟨_, rfl, l, S, ls, x, y, g, rfl, hl, hg, R, y1, y2, fun r ts H2 ht _ hr s2 => ?_⟩
    obtain ⟨c, hc, lc, _⟩ := ht.last (ht.ne x2 hy y1)
    exact ⟨_, rfl, _, _, _, _, rfl, rfl, SqL.of hr, hc, k c H2 lc (s1.trans s2)⟩

theorem ok_least_file {f : Addr} {fd : FuncData} (T : Txt K mg) (F : Fun K "least_file" "least_file" s_least_file f fd) : FnOk P w K mg base CX0 2 f fd ["rules", "first", "later"] sp_least_file := by
  refine F.ok sc_least_file (fun vs H Q E h => ?_) (fun cdv A outer s H vs Q E hr h => ?_)
  · obtain ⟨p, S, ls, x, y, rfl, _⟩ := h
    rfl
  · obtain ⟨p, S, ls, x, y, rfl, hp, R, hx, hy, k⟩ := h
    have nd := sc_least_file.nd
    obtain ⟨f_last_lines, fd_last_lines, F_last_lines, m_last_lines, b_last_lines⟩ := T.d_last_lines.ex
    have G_last_lines := ok_last_lines (P := P) (w := w) (mg := mg) (base := base) T F_last_lines
    obtain ⟨f_totals_for, fd_totals_for, F_totals_for, m_totals_for, b_totals_for⟩ := T.d_totals_for.ex
    have G_totals_for := ok_totals_for (P := P) (w := w) (mg := mg) (base := base) T F_totals_for
    obtain ⟨x1, x2⟩ := R.mem x hx
    obtain ⟨y1, y2⟩ := R.mem y hy
    have S2 := R.s2
    have pos : ∀ l ∈ ls, 1 ≤ l := fun l hl => (R.mem l hl).1
    refine ⟨_, (pss_cons (ps_par (i := 3) (j := 4) (by rfl) nd rfl rfl (by decide) rfl rfl (pa_cons (pe_call G_last_lines (hr.mono (by decide)) rfl m_last_lines F_last_lines.kp b_last_lines .nil pass0 (pa_cons (pv 0) (pa_cons (pv 1) pa_nil))) (pa_cons (pe_lst pa_nil) pa_nil)) (by rfl))
(pss_cons (ps_set (i := 5) nd rfl (Or.inl rfl) (pe_ix ix_list (pe_call G_totals_for (hr.mono (by decide)) rfl m_totals_for F_totals_for.kp b_totals_for .nil pass0 (pa_cons (pv 3) (pa_cons (pv 2) pa_nil))) pe_int (fun _ _ => rfl)))
(pss_cons (ps_while PassesOwn.never (pt_cmpR op_gt (pv 5) (pv 1) (nomark _))
(pss_cons (ps_expr (pe_bm PySem.F.plainAttrs_list PySem.F.slot_list_append PySem.F.type_list_append mt_append (pv 4) (pa_cons (pe_ix ix_list (pv 3) (pv 5) (fun _ _ => rfl)) pa_nil)))
(pss_one (ps_aug (i := 5) nd rfl (Or.inl rfl) (pe_ix ix_list (pv 3) (pv 5) (fun _ _ => rfl)) ip_sub))))
(pss_one (ps_ret (pe_tup (pa_cons (pv 1) (StX.pa_star (pv 4) pa_nil)))))))), ?_⟩
    refine ⟨_, rfl, _, rfl, p, S, ls, x, rfl, hp, R, hx, fun l g H1 hg fl hl s1 => ?_⟩
    refine ⟨Nat.zero_le _, fun e he => ⟨_, _, rfl, ?_⟩⟩
    refine ⟨_, rfl, _, rfl, l, S, ls, x, y, g, rfl, kp_new he hl, hg, R, y1, y2, fun r ts H2 ht _ hr2 s2 => ?_⟩
    obtain ⟨c, hc, lc, _⟩ := ht.first (ht.ne x2 hy y1)
    refine ⟨_, _, _, _, rfl, rfl, SqL.of hr2, hc, ?_⟩
    have heH : H e = none := s1.free he
    refine while_by (fun σ H' => ∃ (t : Int) (zs : List Int), σ = [some (.ref p), some (.int x), some (.int y), some (.ref l), some (.ref e), some (.int t)] ∧ H' e = some (.lst (zs.map V.int)) ∧ H' l = some (.lst (tab (S + 1).toNat g)) ∧ Same H H' ∧ (∀ z ∈ zs, z ∈ ls) ∧ t + zs.sum = c ∧ Reach ls x t ∧ zs.length + t ≤ c)
      (fun σ _ => match σ with | [_, _, _, _, _, some (.int t)] => t.toNat | _ => 0) ⟨c, [], rfl, s2 _ _ upd_same, s2 _ _ (kp_new he hl), (s1.trans (same_new he)).trans s2, fun _ z => absurd z (by simp), by simp, lc.re, by simp⟩ ?_ ?_
    · rintro σ H' ⟨t, zs, rfl, D, Dl, sm, zl, zsum, rt, zln⟩
      have tge := rt.ge pos
      have zpos := sum_nn fun z hz => pos z (zl z hz)
      have thi : t ≤ S := by have := lc.hi; omega
      refine ⟨_, rfl, _, rfl, _, _, rfl, rfl, _, rfl, ite2 (fun e1 => ?_) (fun e1 => ?_)⟩
      · have hlt : x < t := of_decide_eq_true e1
        have e2 : ((t.toNat : Nat) : Int) = t := by omega
        obtain ⟨a1, a2⟩ := hg t.toNat (by omega)
        rw [e2] at a1 a2
        have a3 := a1.mpr rt
        cases gm : g t.toNat with
        | none => rw [gm] at a3; cases a3
        | some m =>
          obtain ⟨m1, m2⟩ := a2 m gm
          have m3 := pos m m1
          have m4 : Reach ls x (t - m) := m2.resolve_left (by omega)
          have m5 := m4.ge pos
          have lcs := lc.hi
          have at_ : atI (tab (S + 1).toNat g) t = some (.int m) := by
            rw [tab_at (by omega) (by omega), gm]
            rfl
          have nle : l ≠ e := fun z => by rw [z, he] at hl; cases hl
          refine ⟨_, rfl, .inl ⟨rfl, _, SqL.of D⟩, _, rfl, _, rfl, _, _, _, _, rfl, rfl, SqL.of Dl, at_, _, _, _, rfl, rfl, D, Nat.lt_of_le_of_lt (by rw [List.length_map]; omega : _ ≤ 1000) (by decide), ?_⟩
          refine ⟨_, rfl, _, rfl, _, rfl, _, _, _, _, rfl, rfl, SqL.of (kp_set nle Dl), at_, _, _, rfl, rfl, ?_⟩
          refine ⟨⟨t - m, zs ++ [m], rfl, by rw [upd_same, List.map_append]; rfl, kp_set nle Dl, fun a o h => kp_set (ne_of_none h heH) (sm _ _ h), fun z hz => ?_, by rw [List.sum_append]; simp; omega, m4, by simp; omega⟩, ?_⟩
          · rcases List.mem_append.mp hz with hz | hz
            · exact zl z hz
            · have : z = m := by simpa using hz
              rw [this]
              exact m1
          · show (t - m).toNat < t.toNat
            omega
      · have hle : ¬ x < t := of_decide_eq_false (Bool.eq_false_iff.mpr e1)
        have ex : t = x := by omega
        subst ex
        refine ⟨_, rfl, _, rfl, _, _, rfl, .inr (SqL.of D), Nat.le_trans (by show (V.int t :: (zs.map V.int ++ [])).length ≤ 1000; simp; have := lc.hi; omega) (by decide), fun tp htp => ?_⟩
        refine k tp zs _ zl (by rw [zsum]; exact lc) (sm.free htp) (by rw [upd_same]; simp) (sm.trans (same_new htp))
    · rintro σ H' Q Q' hQ ⟨v, h1, v2, h2, i, j, e1, e2, kk, h3, q⟩
      exact ⟨v, h1, v2, h2, i, j, e1, e2, kk, h3, hQ _ _ q⟩

theorem ok_turns {f : Addr} {fd : FuncData} (T : Txt K mg) (F : Fun K "turns" "turns" s_turns f fd) : FnOk P w K mg base CX0 2 f fd ["rules"] sp_turns := by
  refine F.ok sc_turns (fun vs H Q E h => ?_) (fun cdv A outer s H vs Q E hr h => ?_)
  · obtain ⟨p, S, ls, rfl, _⟩ := h
    rfl
  · obtain ⟨p, S, ls, rfl, ⟨q, hp, hq⟩, R, k⟩ := h
    have nd := sc_turns.nd
    obtain ⟨f_last_lines, fd_last_lines, F_last_lines, m_last_lines, b_last_lines⟩ := T.d_last_lines.ex
    have G_last_lines := ok_last_lines (P := P) (w := w) (mg := mg) (base := base) T F_last_lines
    obtain ⟨f_totals_for, fd_totals_for, F_totals_for, m_totals_for, b_totals_for⟩ := T.d_totals_for.ex
    have G_totals_for := ok_totals_for (P := P) (w := w) (mg := mg) (base := base) T F_totals_for
    refine ⟨_, (pss_cons (ps_set (i := 1) nd rfl (Or.inl rfl) (pe_lst pa_nil))
(pss_cons (ps_for PassesOwn.never rfl (pi_tup (pe_ix ix_tup (pv 0) pe_int (fun _ _ => rfl))) (pg_name (i := 2) nd rfl (Or.inl rfl))
(pss_cons (ps_set (i := 3) nd rfl (Or.inl rfl) (pe_call G_last_lines (hr.mono (by decide)) rfl m_last_lines F_last_lines.kp b_last_lines .nil pass0 (pa_cons (pv 0) (pa_cons (pv 2) pa_nil))))
(pss_one (ps_for PassesOwn.never rfl (pi_tup (pe_ix ix_tup (pv 0) pe_int (fun _ _ => rfl))) (pg_name (i := 4) nd rfl (Or.inl rfl))
(pss_cons (ps_set (i := 5) nd rfl (Or.inl rfl) (pe_call G_totals_for (hr.mono (by decide)) rfl m_totals_for F_totals_for.kp b_totals_for .nil pass0 (pa_cons (pv 3) (pa_cons (pv 4) pa_nil))))
(pss_one (ps_expr (pe_bm PySem.F.plainAttrs_list PySem.F.slot_list_append PySem.F.type_list_append mt_append (pv 1) (pa_cons (pe_tup (pa_cons (pv 2) (pa_cons (pv 4) (pa_cons (pe_ix ix_list (pv 5) pe_int (fun _ _ => rfl)) (pa_cons (pe_ix ix_list (pv 5) (pe_un un_neg pe_int) (fun _ _ => rfl)) pa_nil))))) pa_nil)))))))))
(pss_one (ps_ret (pe_callTy call_tuple_of (by rfl) T.n_tuple (by decide +kernel) (pa_cons (pv 1) pa_nil)))))), ?_⟩
    refine ⟨Nat.zero_le _, fun e he => ?_⟩
    let INV := fun (ps : List (Int × Int)) (H' : Hp) => ∃ (xs : List V) (rs : List (List Int)), H' e = some (.lst xs) ∧ Same H H' ∧ RowsAt H' xs rs ∧ Paired (fun (p : Int × Int) r => TurnRow S ls p.1 p.2 r) ps rs ∧ xs.length = ps.length
    refine ⟨_, rfl, _, _, _, _, rfl, rfl, SqT.of (kp_new he hp), rfl, _, rfl, ⟨_, SqT.of (kp_new he hq)⟩, for_tup (a := q) (xs := ls.map V.int) (fun i σ H' => ∃ (v2 v3 v4 v5 : Option V), σ = [some (.ref p), some (.ref e), v2, v3, v4, v5] ∧ INV ((ls.take i).flatMap fun x => ls.map fun y => (x, y)) H')
      ⟨none, none, none, none, rfl, [], [], upd_same, same_new he, .nil, .nil, rfl⟩ (fun i σ H' _ ⟨_, _, _, _, _, _, _, _, sm, _⟩ => SqT.of (sm _ _ hq)) ?_ ?_⟩
    · rintro i v σ H' hi ⟨v2, v3, v4, v5, rfl, xs, rs, De, sm, ra, pr, ln⟩
      have hil : i < ls.length := by
        have z := (List.getElem?_eq_some_iff.mp hi).1
        rwa [List.length_map] at z
      have ev : v = .int ls[i] := by
        rw [List.getElem?_map, List.getElem?_eq_getElem hil] at hi
        exact (Option.some.inj hi).symm
      subst ev
      have hx : ls[i] ∈ ls := List.getElem_mem hil
      have tkx : ls.take (i + 1) = ls.take i ++ [ls[i]] := by rw [List.take_add_one, List.getElem?_eq_getElem hil]; rfl
      generalize ls[i] = x at hx tkx
      obtain ⟨x1, x2⟩ := R.mem x hx
      refine ⟨_, rfl, _, rfl, p, S, ls, x, rfl, ⟨q, sm _ _ hp, sm _ _ hq⟩, R, hx, fun l g H1 hg fl hl s1 => ?_⟩
      have nle : l ≠ e := fun z => by rw [z, De] at fl; cases fl
      refine ⟨_, rfl, _, _, _, _, rfl, rfl, SqT.of (s1 _ _ (sm _ _ hp)), rfl, _, rfl, ⟨_, SqT.of (s1 _ _ (sm _ _ hq))⟩, for_tup (a := q) (xs := ls.map V.int) (fun j σ H' => ∃ (v4 v5 : Option V), σ = [some (.ref p), some (.ref e), some (.int x), some (.ref l), v4, v5] ∧ H' l = some (.lst (tab (S + 1).toNat g)) ∧ INV (((ls.take i).flatMap fun x => ls.map fun y => (x, y)) ++ (ls.take j).map fun y => (x, y)) H')
        ⟨_, _, rfl, hl, xs, rs, s1 _ _ De, sm.trans s1, ra.same s1, by simpa using pr, by simpa using ln⟩ (fun j σ H' _ ⟨_, _, _, _, _, _, _, sm, _⟩ => SqT.of (sm _ _ hq)) ?_ ?_⟩
      · rintro j v σ H' hj ⟨v4, v5, rfl, Dl, xs, rs, De, sm, ra, pr, ln⟩
        have hjl : j < ls.length := by
          have z := (List.getElem?_eq_some_iff.mp hj).1
          rwa [List.length_map] at z
        have ev : v = .int ls[j] := by
          rw [List.getElem?_map, List.getElem?_eq_getElem hjl] at hj
          exact (Option.some.inj hj).symm
        subst ev
        have hy : ls[j] ∈ ls := List.getElem_mem hjl
        have tky : ls.take (j + 1) = ls.take j ++ [ls[j]] := by rw [List.take_add_one, List.getElem?_eq_getElem hjl]; rfl
        generalize ls[j] = y at hy tky
        obtain ⟨y1, y2⟩ := R.mem y hy
        refine ⟨_, rfl, _, rfl, l, S, ls, x, y, g, rfl, Dl, hg, R, y1, y2, fun r ts H2 ht fr hr2 s2 => ?_⟩
        obtain ⟨lo, hlo, lc, _⟩ := ht.first (ht.ne x2 hy y1)
        obtain ⟨hi', hhi, gc, _⟩ := ht.last (ht.ne x2 hy y1)
        have six := R.six
        have lnb : xs.length ≤ 36 + 6 := by
          rw [ln, List.length_append, List.length_map, List.length_flatMap]
          have h1 : ∀ zs : List Int, (zs.map fun x => (ls.map fun y => (x, y)).length).sum = zs.length * ls.length := by
            intro zs
            induction zs with
            | nil => simp
            | cons z zs ih => rw [List.map_cons, List.sum_cons, ih, List.length_map, List.length_cons, Nat.succ_mul, Nat.add_comm]
          rw [h1, List.length_take, List.length_take]
          have h2 : min i ls.length * ls.length ≤ 6 * 6 := Nat.mul_le_mul (by omega) six
          omega
        refine ⟨_, rfl, .inl ⟨rfl, _, SqL.of (s2 _ _ De)⟩, _, rfl, _, rfl, _, rfl, _, _, _, _, rfl, rfl, SqL.of hr2, hlo, _, rfl, _, rfl, _, _, _, _, rfl, rfl, SqL.of hr2, hhi, szl 4 rfl, fun tp htp => ?_⟩
        refine ⟨e, _, _, rfl, rfl, kp_new htp (s2 _ _ De), Nat.lt_of_le_of_lt lnb (by decide), ?_⟩
        have nte : tp ≠ e := fun z => by rw [z, s2 _ _ De] at htp; cases htp
        have s3 : ∀ a o, a ≠ e → H' a = some o → (upd (upd H2 tp (.tup [.int x, .int y, .int lo, .int hi'])) e (.lst (xs ++ [.ref tp]))) a = some o := fun a o na h => kp_set na (kp_new htp (s2 _ _ h))
        have heH : H e = none := he
        refine ⟨_, _, rfl, s3 _ _ nle Dl, xs ++ [.ref tp], rs ++ [[x, y, lo, hi']], upd_same, fun a o h => s3 a o (ne_of_none h heH) (sm _ _ h), ?_, ?_, ?_⟩
        · refine Paired.snoc ?_ ⟨tp, rfl, kp_set nte upd_same⟩
          exact Paired.mapP ra fun v r ⟨a, ea, ha⟩ => ⟨a, ea, s3 _ _ (tup_ne ha De) ha⟩
        · rw [tky, List.map_append, ← List.append_assoc]
          exact Paired.snoc pr ⟨lo, hi', rfl, lc, gc⟩
        · rw [tky, List.length_append, ln]
          simp
          omega
      · rintro σ H' ⟨v4, v5, rfl, Dl, xs, rs, De, sm, ra, pr, ln⟩
        have tk : ls.take (ls.map V.int).length = ls := by rw [List.length_map, List.take_length]
        rw [tk] at pr ln
        refine ⟨_, _, _, _, rfl, xs, rs, De, sm, ra, ?_, ?_⟩
        · rw [tkx, List.flatMap_append]
          simpa using pr
        · rw [tkx, List.flatMap_append, ln]
          simp
    · rintro σ H' ⟨v2, v3, v4, v5, rfl, xs, rs, De, sm, ra, pr, ln⟩
      have tk : ls.take (ls.map V.int).length = ls := by rw [List.length_map, List.take_length]
      rw [tk] at pr
      refine ⟨_, rfl, e, xs, rfl, .inl ⟨SqL.of De, fun t ht => ?_⟩⟩
      exact k t xs rs _ upd_same (ra.same (same_new ht)) pr (sm.trans (same_new ht))

end
end My

namespace My
open PySem L2
section
variable {P : Program} {w : World} {K : PySem.W.Frag} {mg : Str → Option Value} {base : Heap}

theorem ok_Ltotals {f : Addr} {fd : FuncData} (T : Txt K mg) (F : Fun K "_law_totals" "_law_totals" s_Ltotals f fd) : FnOk P w K mg base CX0 1 f fd ["_law_book_here", "_law_begin", "_law_end"] sp_Ltotals := by
  refine F.ok sc_Ltotals (fun vs H Q E h => ?_) (fun cdv A outer s H vs Q E hr h => ?_)
  · obtain ⟨p, S, ls, x, y, rfl, _⟩ := h
    rfl
  · obtain ⟨p, S, ls, x, y, rfl, ⟨q, hp, hq⟩, R, hx, hy, k⟩ := h
    have nd := sc_Ltotals.nd
    have S1 := R.s1
    have S2 := R.s2
    obtain ⟨x1, x2⟩ := R.mem x hx
    obtain ⟨y1, y2⟩ := R.mem y hy
    have pos : ∀ l ∈ ls, 1 ≤ l := fun l hl => (R.mem l hl).1
    refine ⟨_, (pss_cons (ps_asg (pv 0) (pg_tup (by rfl) (pgs_cons (pg_name (i := 3) nd rfl (Or.inl rfl)) (pgs_cons (pg_name (i := 4) nd rfl (Or.inl rfl)) pgs_nil))))
(pss_cons (ps_set (i := 6) nd rfl (Or.inr rfl) (pe_lc (own := [("_law_total", 5)]) (g := gName 5) (tt := tYes) rfl nd (pi_range1 (by rfl) T.n_range (pa_cons (pe_op op_add (pv 3) pe_int) pa_nil)) (blkOk_by (own := [("_law_total", 5)]) (N := N_Ltotals) (sc := defScope s_Ltotals) (by decide +kernel)) (fun _ _ _ _ _ => pg_name (i := 5) nd rfl (Or.inl rfl)) (fun _ _ _ _ _ => pts_nil) (fun _ _ _ _ _ => (pe_cmpR op_eq (pv 5) (pv 1) (nomark _)))))
(pss_cons (ps_for PassesOwn.never rfl (pi_range2 (by rfl) T.n_range (pa_cons (pe_op op_add (pv 1) pe_int) (pa_cons (pe_op op_add (pv 3) pe_int) pa_nil))) (pg_name (i := 5) nd rfl (Or.inr rfl))
(pss_one (ps_asg (pe_callB (cr_any rfl) (by rfl) T.n_any (by decide +kernel) (pa_cons (pe_lc (own := [("_law_kind", 7)]) (g := gName 7) (tt := tYes) rfl nd (pi_tup (pv 4)) (blkOk_by (own := [("_law_kind", 7)]) (N := N_Ltotals) (sc := defScope s_Ltotals) (by decide +kernel)) (fun _ _ _ _ _ => pg_name (i := 7) nd rfl (Or.inl rfl)) (fun _ _ _ _ _ => pts_nil) (fun _ _ _ _ _ => (pe_and (pe_cmpR op_le (pv 7) (pv 5) (nomark _)) (pe_one (pe_ix (ix_listK (K := K) rfl) (pv 6) (pe_op op_sub (pv 5) (pv 7)) (fun _ _ => rfl)))))) pa_nil)) (pg_sub (pv 6) (pv 5) set_list))))
(pss_one (ps_ret (pe_lc (own := [("_law_total", 5)]) (g := gName 5) rfl nd (pi_range2 (by rfl) T.n_range (pa_cons (pe_op op_add (pe_op op_sub (pv 3) (pv 2)) pe_int) (pa_cons (pe_op op_add (pv 3) pe_int) pa_nil))) (blkOk_by (own := [("_law_total", 5)]) (N := N_Ltotals) (sc := defScope s_Ltotals) (by decide +kernel)) (fun _ _ _ _ _ => pg_name (i := 5) nd rfl (Or.inl rfl)) (fun _ _ _ _ _ => pts_one (pt_val (pe_ix (ix_listK (K := K) rfl) (pv 6) (pv 5) (fun _ _ => rfl)))) (fun _ _ _ _ _ => (pv 5)))))))), ?_⟩
    refine ⟨_, rfl, _, _, rfl, SqT.of hp, rfl, _, _, rfl, _, _, rfl, rfl, ?_⟩
    refine ⟨_, rfl, _, _, rfl, rfl, _, rfl, by omega, by omega, fun l hl => lc_range (lo := 0) (n := (S + 1).toNat) (fun i H' => H' l = some (.lst (tabB i fun t => decide ((t : Int) = x))) ∧ Same H H') ⟨upd_same, same_new hl⟩ ?_ ?_⟩
    · rintro i H' hi ⟨D, sm⟩
      refine ⟨rfl, ?_⟩
      refine ⟨_, rfl, _, rfl, rfl, _, D, Nat.lt_of_le_of_lt (by rw [tabB_len]; omega : _ ≤ 1000) (by decide), ?_, fun a o h => kp_set (ne_of_none h hl) (sm _ _ h)⟩
      rw [upd_same]
      unfold tabB
      rw [List.range_succ, List.map_append]
      have e : decide (V.int (0 + (i : Int)) = V.int x) = decide ((i : Int) = x) := by
        rw [dec_int, Int.zero_add]
        exact (Bool.beq_eq_decide_eq _ _)
      dsimp only
      rw [e]
      rfl
    rintro H1 ⟨D, sm⟩
    let OK := fun (t : Nat) (g : Nat → Bool) => ∀ u : Nat, (u : Int) ≤ S → (g u = true ↔ Reach ls x u ∧ (u : Int) < x + 1 + t)
    have ok0 : OK 0 fun t => decide ((t : Int) = x) := fun u hu => by
      rw [decide_eq_true_iff]
      constructor
      · intro e
        rw [e]
        exact ⟨Reach.self, by omega⟩
      · rintro ⟨e1, e2⟩
        have := e1.ge pos
        omega
    refine ⟨_, rfl, _, _, rfl, rfl, _, rfl, _, _, rfl, rfl, _, _, rfl, ⟨by omega, by omega, by omega, by omega⟩, for_range (lo := x + 1) (n := (S + 1 - (x + 1)).toNat) (fun i σ H' => ∃ (g : Nat → Bool) (v5 : Option V), σ = [some (.ref p), some (.int x), some (.int y), some (.int S), some (.ref q), v5, some (.ref l), none] ∧ H' l = some (.lst (tabB (S + 1).toNat g)) ∧ Same H H' ∧ OK i g)
      ⟨_, none, rfl, D, sm, ok0⟩ ?_ ?_⟩
    · rintro i σ H' hi ⟨g, v5, rfl, D, sm, ok⟩
      obtain ⟨t, ht⟩ : ∃ t : Nat, (t : Int) = x + 1 + i := ⟨(x + 1 + i).toNat, by omega⟩
      let B := fun (m : Int) => decide (m ≤ x + 1 + i) && g (x + 1 + i - m).toNat
      refine ⟨_, rfl, _, rfl, ⟨_, SqT.of (sm _ _ hq)⟩, fun D2 hD2 => lc_tup (a := q) (xs := ls.map V.int) (fun j H'' => H'' D2 = some (.lst (((ls.take j).map B).map V.bl)) ∧ Same H' H'') ⟨upd_same, same_new hD2⟩ (fun j H'' _ ⟨_, s2⟩ => SqT.of (s2 _ _ (sm _ _ hq))) ?_ ?_⟩
      · rintro j v H'' hj ⟨D3, sm2⟩
        have hjl : j < ls.length := by
          have z := (List.getElem?_eq_some_iff.mp hj).1
          rwa [List.length_map] at z
        have ev : v = .int ls[j] := by
          rw [List.getElem?_map, List.getElem?_eq_getElem hjl] at hj
          exact (Option.some.inj hj).symm
        subst ev
        have hm : ls[j] ∈ ls := List.getElem_mem hjl
        have tk : ls.take (j + 1) = ls.take j ++ [ls[j]] := by rw [List.take_add_one, List.getElem?_eq_getElem hjl]; rfl
        generalize ls[j] = m at hm tk
        obtain ⟨m1, m2⟩ := R.mem m hm
        have six := R.six
        have sz : (((ls.take j).map B).map V.bl).length < sizeLine := Nat.lt_of_le_of_lt (by rw [List.length_map, List.length_map, List.length_take]; omega : _ ≤ 1000) (by decide)
        have nx : upd H'' D2 (.lst (((ls.take j).map B).map V.bl ++ [V.bl (B m)])) D2 = some (.lst (((ls.take (j + 1)).map B).map V.bl)) := by
          rw [upd_same, tk, List.map_append, List.map_append]
          rfl
        have nx2 : ∀ u, Same H' (upd H'' D2 u) := fun u a o h => kp_set (ne_of_none h hD2) (sm2 _ _ h)
        refine ⟨rfl, ?_⟩
        refine ⟨_, rfl, _, rfl, _, _, rfl, rfl, _, rfl, ?_⟩
        by_cases hle : m ≤ x + 1 + i
        · have e0 : B m = g (x + 1 + i - m).toNat := by show (decide (m ≤ x + 1 + i) && _) = _; rw [decide_eq_true hle]; rfl
          rw [e0] at nx
          rw [decide_eq_true hle]
          refine iteT ?_
          exact ⟨_, rfl, _, rfl, _, rfl, _, _, rfl, rfl, _, _, _, _, rfl, rfl, SqL.of (sm2 _ _ D), tabB_at (by omega) (by omega), _, D3, sz, nx, nx2 _⟩
        · have e0 : B m = false := by show (decide (m ≤ x + 1 + i) && _) = _; rw [decide_eq_false hle]; rfl
          rw [e0] at nx
          rw [decide_eq_false hle]
          refine iteF ?_
          exact ⟨_, D3, sz, nx, nx2 _⟩
      · rintro H'' ⟨D3, sm2⟩
        have tk : ls.take (ls.map V.int).length = ls := by rw [List.length_map, List.take_length]
        rw [tk] at D3
        have hlH : H l = none := hl
        refine ⟨D2, _, rfl, SqL.of D3, _, rfl, _, rfl, l, _, _, t, rfl, rfl, sm2 _ _ D, by rw [tabB_len, ixN_in (by omega) (by omega)]; congr 1; omega, ?_⟩
        rw [tabB_set]
        refine ⟨_, _, rfl, upd_same, fun a o h => kp_set (ne_of_none h hlH) (sm2 _ _ (sm _ _ h)), fun u hu => ?_⟩
        by_cases e : u = t
        · subst e
          rw [put_same, List.any_map, List.any_eq_true]
          have rc : Reach ls x u ↔ ∃ m, m ∈ ls ∧ Reach ls x (u - m) := Reach.iff (by omega)
          constructor
          · rintro ⟨m, hm, hb⟩
            have hb : (decide (m ≤ x + 1 + i) && g (x + 1 + i - m).toNat) = true := hb
            rw [Bool.and_eq_true, decide_eq_true_iff] at hb
            obtain ⟨m1, m2⟩ := R.mem m hm
            obtain ⟨a1, a2⟩ := (ok _ (by omega)).mp hb.2
            have ee : (((x + 1 + (i : Int) - m).toNat : Nat) : Int) = u - m := by omega
            rw [ee] at a1
            exact ⟨rc.mpr ⟨m, hm, a1⟩, by omega⟩
          · rintro ⟨a1, _⟩
            obtain ⟨m, hm, a2⟩ := rc.mp a1
            have a3 := a2.ge pos
            have m1 := pos m hm
            refine ⟨m, hm, ?_⟩
            show (decide (m ≤ x + 1 + i) && g (x + 1 + i - m).toNat) = true
            have ee : (((x + 1 + (i : Int) - m).toNat : Nat) : Int) = u - m := by omega
            rw [Bool.and_eq_true, decide_eq_true_iff]
            exact ⟨by omega, (ok _ (by omega)).mpr ⟨by rw [ee]; exact a2, by omega⟩⟩
        · rw [put_ne e, ok u hu]
          exact ⟨fun ⟨a, b⟩ => ⟨a, by omega⟩, fun ⟨a, b⟩ => ⟨a, by omega⟩⟩
    · rintro σ H' ⟨g, v5, rfl, D, sm, ok⟩
      refine ⟨_, rfl, _, rfl, _, _, rfl, rfl, _, _, rfl, rfl, _, rfl, _, _, rfl, rfl, _, _, rfl, ⟨by omega, by omega, by omega, by omega⟩, fun D2 hD => lc_range (lo := S - y + 1) (n := (S + 1 - (S - y + 1)).toNat) (fun i H'' => ∃ ts : List Int, H'' D2 = some (.lst (ts.map V.int)) ∧ Same H' H'' ∧ ts.Pairwise (· < ·) ∧ ts.length ≤ i ∧ ∀ t, t ∈ ts ↔ (S - y < t ∧ t < S - y + 1 + i ∧ Reach ls x t))
        ⟨[], upd_same, same_new hD, .nil, Nat.le_refl _, fun t => ⟨fun z => absurd z (by simp), fun z => by omega⟩⟩ ?_ ?_⟩
      · rintro i H'' hi ⟨ts, D1, sm2, pw, ln, mm⟩
        refine ⟨rfl, ?_⟩
        obtain ⟨t, ht⟩ : ∃ t : Nat, (t : Int) = S - y + 1 + i := ⟨(S - y + 1 + i).toNat, by omega⟩
        have et : (S - y + 1 + (i : Int)).toNat = t := by omega
        have rt := ok t (by omega)
        refine ⟨_, rfl, _, rfl, _, _, _, _, rfl, rfl, SqL.of (sm2 _ _ D), tabB_at (by omega) (by omega), _, rfl, ?_⟩
        rw [et]
        cases e : g t with
        | false =>
          rw [e] at rt
          refine iteF ⟨ts, D1, sm2, pw, by omega, fun u => ?_⟩
          rw [mm u]
          constructor
          · exact fun ⟨a, b, c⟩ => ⟨a, by omega, c⟩
          · rintro ⟨a, b, c⟩
            refine ⟨a, ?_, c⟩
            have : u ≠ t := by
              intro z
              rw [z] at c
              exact absurd (rt.mpr ⟨c, by omega⟩) (by simp)
            omega
        | true =>
          rw [e] at rt
          have rt2 := (rt.mp rfl).1
          refine iteT ⟨_, rfl, _, D1, Nat.lt_of_le_of_lt (by rw [List.length_map]; omega : _ ≤ 1000) (by decide), ts ++ [(t : Int)], by rw [upd_same, List.map_append, ht]; rfl, fun a o h => kp_set (ne_of_none h hD) (sm2 _ _ h), ?_, by simp; omega, fun u => ?_⟩
          · rw [List.pairwise_append]
            refine ⟨pw, by simp, fun a ha b hb => ?_⟩
            have := (mm a).mp ha
            have : b = t := by simpa using hb
            omega
          · rw [List.mem_append, mm u, List.mem_singleton]
            constructor
            · rintro (⟨a, b, c⟩ | rfl)
              · exact ⟨a, by omega, c⟩
              · exact ⟨by omega, by omega, rt2⟩
            · rintro ⟨a, b, c⟩
              by_cases z : u = t
              · exact .inr z
              · exact .inl ⟨a, by omega, c⟩
      · rintro H'' ⟨ts, D1, sm2, pw, ln, mm⟩
        refine k D2 ts H'' ⟨pw, fun t => (mm t).trans ⟨fun ⟨a, b, c⟩ => ⟨a, by omega, c⟩, fun ⟨a, b, c⟩ => ⟨a, by omega, c⟩⟩⟩ (sm.free hD) D1 (sm.trans sm2)

end
end My

namespace My
open PySem L2

section
variable {P : Program} {w : World} {K : PySem.W.Frag} {mg : Str → Option Value} {base : Heap}
def sp_pair : Sp := fun vs H Q _ => ∃ (p : Addr) (S : Int) (ls : List Int) (x y : Int), vs = [.ref p, .int x, .int y] ∧ BookAt H p S ls ∧ Rules S ls ∧ x ∈ ls ∧ y ∈ ls ∧ ∀ H' : Hp, Same H H' → Q (.bl true) H'
def sp_right : Sp := fun vs H Q _ => ∃ (b : Addr) (n : Nat), vs = [.ref b] ∧ Box n H b ∧ n + 10000 < 2 ^ 40 ∧ ∀ H' : Hp, But b H H' → Q (.bl true) H'
def sp_law (K : PySem.W.Frag) : Sp := fun vs H Q _ => ∃ (a : Addr) (ns : List Int), vs = [.ref a] ∧ SqL K H a (ns.map V.int) ∧ ns.length ≤ 63 ∧ ∀ H', Q (.bl true) H'

theorem ok_Lpair_right {f : Addr} {fd : FuncData} (T : Txt K mg) (F : Fun K "_law_pair_right" "_law_pair_right" s_Lpair_right f fd) : FnG P w K mg base 3 f fd ["_law_book_here", "_law_begin", "_law_end"] sp_pair := by
  refine g_ok F sc_Lpair_right (fun vs H Q h => ?_) (fun cdv A outer s H vs Q hg hr h => ?_)
  · obtain ⟨p, S, ls, x, y, rfl, _⟩ := h
    rfl
  · obtain ⟨p, S, ls, x, y, rfl, ⟨q, hp, hq⟩, R, hx, hy, k⟩ := h
    have nd := sc_Lpair_right.nd
    obtain ⟨f_Ltotals, fd_Ltotals, F_Ltotals, m_Ltotals, b_Ltotals⟩ := T.d_Ltotals.ex
    have G_Ltotals := ok_Ltotals (P := P) (w := w) (mg := mg) (base := base) T F_Ltotals
    obtain ⟨f_least_file, fd_least_file, F_least_file, m_least_file, b_least_file⟩ := T.d_least_file.ex
    have G_least_file := ok_least_file (P := P) (w := w) (mg := mg) (base := base) T F_least_file
    obtain ⟨f_least_total, fd_least_total, F_least_total, m_least_total, b_least_total⟩ := T.d_least_total.ex
    have G_least_total := ok_least_total (P := P) (w := w) (mg := mg) (base := base) T F_least_total
    obtain ⟨f_greatest_total, fd_greatest_total, F_greatest_total, m_greatest_total, b_greatest_total⟩ := T.d_greatest_total.ex
    have G_greatest_total := ok_greatest_total (P := P) (w := w) (mg := mg) (base := base) T F_greatest_total
    obtain ⟨x1, x2⟩ := R.mem x hx
    obtain ⟨y1, y2⟩ := R.mem y hy
    have S2 := R.s2
    refine ⟨_, (pss_cons (ps_par (i := 3) (j := 4) (by rfl) nd rfl rfl (by decide) rfl rfl (pa_cons (pe_call G_Ltotals (hr.mono (by decide)) rfl m_Ltotals F_Ltotals.kp b_Ltotals .nil pass0 (pa_cons (pv 0) (pa_cons (pv 1) (pa_cons (pv 2) pa_nil)))) (pa_cons (pe_call G_least_file (hr.mono (by decide)) rfl m_least_file F_least_file.kp b_least_file .nil pass0 (pa_cons (pv 0) (pa_cons (pv 1) (pa_cons (pv 2) pa_nil)))) pa_nil)) (by rfl))
(pss_cons (ps_set (i := 5) nd rfl (Or.inl rfl) (pe_lst (pa_cons (pe_call G_least_total (hr.mono (by decide)) rfl m_least_total F_least_total.kp b_least_total .nil pass0 (pa_cons (pv 0) (pa_cons (pv 1) (pa_cons (pv 2) pa_nil)))) (pa_cons (pe_call G_greatest_total (hr.mono (by decide)) rfl m_greatest_total F_greatest_total.kp b_greatest_total .nil pass0 (pa_cons (pv 0) (pa_cons (pv 1) (pa_cons (pv 2) pa_nil)))) pa_nil))))
(pss_cons (ps_if (PW.pt (pw_or (pt_cmpR op_ne (pe_callB (call_repr hg hr) (by rfl) T.n_repr (by decide +kernel) (pa_cons (pv 5) pa_nil)) (pe_callB (call_repr hg hr) (by rfl) T.n_repr (by decide +kernel) (pa_cons (pe_lst (pa_cons (pe_ix ix_list (pv 3) pe_int (fun _ _ => rfl)) (pa_cons (pe_ix ix_list (pv 3) (pe_un un_neg pe_int) (fun _ _ => rfl)) pa_nil))) pa_nil)) (nomark _)) (pw_or (pt_not (pt_val (pe_callB call_isi (by rfl) T.n_isinstance (by decide +kernel) (pa_cons (pv 4) (pa_cons (pe_bltn (v := .ty "tuple") (by rfl) T.n_tuple (by decide +kernel) rfl) pa_nil))))) (pw_or1 (pt_cmpR op_ne (pe_ix ix_tup (pv 4) pe_int (fun _ _ => rfl)) (pv 1) (nomark _))))))
(pss_one (ps_ret pe_bl))
pss_nil)
(pss_cons (ps_if (PW.pt (pw_or (pt_cmpR op_ne (pe_callB (cr_sumT rfl) (by rfl) T.n_sum (by decide +kernel) (pa_cons (pv 4) pa_nil)) (pe_ix ix_list (pv 3) pe_int (fun _ _ => rfl)) (nomark _)) (pw_or1 (pt_not (pt_val (pe_callB (cr_all rfl) (by rfl) T.n_all (by decide +kernel) (pa_cons (pe_lc (own := [("_law_line", 6)]) (g := gName 6) (tt := tYes) rfl nd (pi_tup (pv 4)) (blkOk_by (own := [("_law_line", 6)]) (N := N_Lpair_right) (sc := defScope s_Lpair_right) (by decide +kernel)) (fun _ _ _ _ _ => pg_name (i := 6) nd rfl (Or.inl rfl)) (fun _ _ _ _ _ => pts_nil) (fun _ _ _ _ _ => (pe_cmpR (op_inK (K := K) rfl) (pv 6) (pe_ix (ix_tupK (K := K) rfl) (pv 0) pe_int (fun _ _ => rfl)) (by rfl)))) pa_nil)))))))
(pss_one (ps_ret pe_bl))
pss_nil)
(pss_one (ps_ret (pe_cmpR op_gt (pe_op op_add (pe_ix ix_list (pv 3) pe_int (fun _ _ => rfl)) (pv 2)) (pe_ix ix_tup (pv 0) pe_int (fun _ _ => rfl)) (nomark _)))))))), ?_⟩
    refine ⟨_, rfl, _, rfl, _, rfl, p, S, ls, x, y, rfl, ⟨q, hp, hq⟩, R, hx, hy, fun r ts H1 ht fr hr1 s1 => ?_⟩
    refine ⟨_, rfl, _, rfl, _, rfl, p, S, ls, x, y, rfl, ⟨q, s1 _ _ hp, s1 _ _ hq⟩, R, hx, hy, fun t zs H2 hz lz ft hT s2 => ?_⟩
    have s12 := s1.trans s2
    obtain ⟨lo, hlo, lc, hlo2⟩ := ht.first (ht.ne x2 hy y1)
    obtain ⟨hi, hhi, gc, hhi2⟩ := ht.last (ht.ne x2 hy y1)
    have esum : x + zs.sum = lo := lz.uniq lc
    refine ⟨_, _, rfl, ?_⟩
    refine ⟨_, rfl, _, rfl, _, rfl, p, S, ls, x, y, rfl, ⟨q, s12 _ _ hp, s12 _ _ hq⟩, R, hx, hy, fun c H3 c1 s3 => ?_⟩
    have e1 := lc.uniq c1
    subst e1
    have s13 := s12.trans s3
    refine ⟨_, rfl, _, rfl, _, rfl, p, S, ls, x, y, rfl, ⟨q, s13 _ _ hp, s13 _ _ hq⟩, R, hx, hy, fun c H4 c2 s4 => ?_⟩
    have e2 := gc.uniq c2
    subst e2
    have s14 := s13.trans s4
    refine ⟨szl 2 rfl, fun l1 hl1 => ?_⟩
    have lo1 := lc.lo
    have lo2 := lc.hi
    have hi1 := gc.lo
    have hi2 := gc.hi
    have tx : Tx 16777216 60 (.list ([PyData.int lo, PyData.int hi])) := (Tx.list (n := 4) (k := 0) (m := 2) (fun d hd => by
      simp only [List.mem_cons, List.not_mem_nil, or_false] at hd
      rcases hd with rfl | rfl
      · exact Tx.small (by omega)
      · exact Tx.small (by omega)) (Nat.le_refl _)).mono (by decide) (by decide)
    have s24 := s3.trans s4
    refine ⟨_, rfl, _, _, rfl, Dp.lst (SqL.of upd_same) (.cons (.int lo) (.cons (.int hi) .nil)), tx, ?_⟩
    refine ⟨_, rfl, _, _, _, _, rfl, rfl, SqL.of (kp_new hl1 (s24 _ _ (s2 _ _ hr1))), hlo, _, rfl, _, rfl, _, _, _, _, rfl, rfl, SqL.of (kp_new hl1 (s24 _ _ (s2 _ _ hr1))), hhi, szl 2 rfl, fun l2 hl2 => ?_⟩
    refine ⟨_, _, rfl, Dp.lst (SqL.of upd_same) (.cons (.int lo) (.cons (.int hi) .nil)), tx, rfl, _, rfl, ?_⟩
    refine iteNS rfl ?_
    have hT2 := kp_new (u := HO.lst [V.int lo, V.int hi]) hl2 (kp_new (u := HO.lst [V.int lo, V.int hi]) hl1 (s24 _ _ hT))
    refine ⟨_, rfl, _, _, _, _, true, rfl, .ty "tuple", .base (.tup hT2), kit_ty (by decide +kernel), _, rfl, ?_⟩
    refine ⟨_, rfl, _, _, _, _, rfl, rfl, SqT.of hT2, atI_nat (j := 0) rfl, _, rfl, rfl, _, rfl, iteNS rfl ?_⟩
    -- the sum
    have hr2 := kp_new (u := HO.lst [V.int lo, V.int hi]) hl2 (kp_new (u := HO.lst [V.int lo, V.int hi]) hl1 (s24 _ _ (s2 _ _ hr1)))
    have hp2 := kp_new (u := HO.lst [V.int lo, V.int hi]) hl2 (kp_new (u := HO.lst [V.int lo, V.int hi]) hl1 (s14 _ _ hp))
    have hq2 := kp_new (u := HO.lst [V.int lo, V.int hi]) hl2 (kp_new (u := HO.lst [V.int lo, V.int hi]) hl1 (s14 _ _ hq))
    have s15 := (s14.trans (same_new (u := HO.lst [V.int lo, V.int hi]) hl1)).trans (same_new (u := HO.lst [V.int lo, V.int hi]) hl2)
    generalize upd (upd H4 l1 (HO.lst [V.int lo, V.int hi])) l2 (HO.lst [V.int lo, V.int hi]) = H5 at hT2 hr2 hp2 hq2 s15
    refine ⟨_, rfl, _, _, rfl, SqT.of hT2, _, rfl, _, _, _, _, rfl, rfl, SqL.of hr2, hlo, rfl, _, rfl, ?_⟩
    have es : (x :: zs).sum = lo := by rw [List.sum_cons]; exact esum
    rw [es]
    refine iteNS rfl ?_
    refine ⟨_, rfl, _, rfl, ⟨_, SqT.of hT2⟩, fun D hD => lc_tup (a := t) (xs := (x :: zs).map V.int) (fun j H' => TruesAt D j H' ∧ Same H5 H') ⟨upd_same, same_new hD⟩ (fun j H' _ ⟨_, s5⟩ => SqT.of (s5 _ _ hT2)) ?_ ?_⟩
    · rintro j v H' hj ⟨D1, s5⟩
      obtain ⟨m, hm, rfl⟩ : ∃ m, m ∈ ls ∧ v = .int m := by
        obtain ⟨m, hm, rfl⟩ := List.mem_map.mp (List.mem_of_getElem? hj)
        rcases List.mem_cons.mp hm with rfl | hm
        · exact ⟨_, hx, rfl⟩
        · exact ⟨_, hz m hm, rfl⟩
      have jl : j < 1000 := by
        have z := (List.getElem?_eq_some_iff.mp hj).1
        rw [List.length_map, List.length_cons] at z
        have zb : (zs.length : Int) ≤ zs.sum := by
          have : ∀ us : List Int, (∀ u ∈ us, 1 ≤ u) → (us.length : Int) ≤ us.sum := by
            intro us
            induction us with
            | nil => intro _; simp
            | cons u us ih =>
              intro hu
              have a := hu u List.mem_cons_self
              have b := ih fun v hv => hu v (List.mem_cons_of_mem _ hv)
              rw [List.sum_cons, List.length_cons]
              omega
          exact this zs fun u hu => (R.mem u (hz u hu)).1
        omega
      refine ⟨rfl, ?_⟩
      refine ⟨_, rfl, _, rfl, _, _, _, _, rfl, rfl, SqT.of (s5 _ _ hp2), atI_nat (j := 1) rfl, _, _, rfl, .inr (SqT.of (s5 _ _ hq2)), rfl, flat_ints ls, ?_⟩
      show ∃ acc, _ ∧ _ ∧ _
      refine ⟨_, D1, by rw [trues_len]; exact Nat.lt_trans jl (by decide), ?_, fun a o h => kp_set (ne_of_none h hD) (s5 _ _ h)⟩
      unfold TruesAt
      rw [upd_same, ← trues_snoc]
      have ei := inV_int hm
      show some (HO.lst (_ ++ [V.bl (inV (.int m) (ls.map V.int))])) = _
      rw [ei]
    · rintro H' ⟨D1, s5⟩
      refine ⟨D, _, rfl, SqL.of D1, _, rfl, ?_⟩
      rw [all_true]
      refine ⟨_, rfl, _, _, _, _, rfl, rfl, SqL.of (s5 _ _ hr2), hlo, _, rfl, _, _, rfl, rfl, _, rfl, _, _, _, _, rfl, rfl, SqT.of (s5 _ _ hp2), atI_nat (j := 0) rfl, _, _, rfl, rfl, ?_⟩
      have ed : decide (S < lo + y) = true := decide_eq_true (by omega)
      show Q (V.bl (decide (S < lo + y))) H'
      rw [ed]
      exact k _ (s15.trans s5)

theorem ok_Lright {f : Addr} {fd : FuncData} (T : Txt K mg) (F : Fun K "_law_right" "_law_right" s_Lright f fd) : FnG P w K mg base 4 f fd ["_law_box_here"] sp_right := by
  refine g_ok F sc_Lright (fun vs H Q h => ?_) (fun cdv A outer s H vs Q hg hr h => ?_)
  · obtain ⟨b, n, rfl, _⟩ := h
    rfl
  · obtain ⟨b, n, rfl, hB, hn, k⟩ := h
    have nd := sc_Lright.nd
    obtain ⟨f_Lbook, fd_Lbook, F_Lbook, m_Lbook, b_Lbook⟩ := T.d_Lbook.ex
    have G_Lbook := ok_Lbook (P := P) (w := w) (mg := mg) (base := base) T F_Lbook
    obtain ⟨f_Lof, fd_Lof, F_Lof, m_Lof, b_Lof⟩ := T.d_Lof.ex
    have G_Lof := ok_Lof (P := P) (w := w) (mg := mg) (base := base) T F_Lof
    obtain ⟨f_Ltotals, fd_Ltotals, F_Ltotals, m_Ltotals, b_Ltotals⟩ := T.d_Ltotals.ex
    have G_Ltotals := ok_Ltotals (P := P) (w := w) (mg := mg) (base := base) T F_Ltotals
    obtain ⟨f_Lpair_right, fd_Lpair_right, F_Lpair_right, m_Lpair_right, b_Lpair_right⟩ := T.d_Lpair_right.ex
    have G_Lpair_right := ok_Lpair_right (P := P) (w := w) (mg := mg) (base := base) T F_Lpair_right
    obtain ⟨f_turns, fd_turns, F_turns, m_turns, b_turns⟩ := T.d_turns.ex
    have G_turns := ok_turns (P := P) (w := w) (mg := mg) (base := base) T F_turns
    refine ⟨_, (pss_cons (ps_for PassesOwn.never rfl (pi_range1 (by rfl) T.n_range (pa_cons pe_int pa_nil)) (pg_name (i := 1) nd rfl (Or.inl rfl))
(pss_cons (ps_par (i := 2) (j := 3) (by rfl) nd rfl rfl (by decide) rfl rfl (pa_cons (pe_call G_Lbook (hr.mono (by decide)) rfl m_Lbook F_Lbook.kp b_Lbook .nil pass0 (pa_cons (pv 0) (pa_cons (pe_call G_Lof (hr.mono (by decide)) rfl m_Lof F_Lof.kp b_Lof .nil pass0 (pa_cons (pv 0) (pa_cons (pe_lst (pa_cons pe_int (pa_cons pe_int (pa_cons pe_int pa_nil)))) pa_nil))) pa_nil))) (pa_cons (pe_lst pa_nil) pa_nil)) (by rfl))
(pss_cons (ps_for PassesOwn.never rfl (pi_tup (pe_ix ix_tup (pv 2) pe_int (fun _ _ => rfl))) (pg_name (i := 4) nd rfl (Or.inl rfl))
(pss_one (ps_for PassesOwn.never rfl (pi_tup (pe_ix ix_tup (pv 2) pe_int (fun _ _ => rfl))) (pg_name (i := 5) nd rfl (Or.inl rfl))
(pss_cons (ps_set (i := 6) nd rfl (Or.inl rfl) (pe_call G_Ltotals (hr.mono (by decide)) rfl m_Ltotals F_Ltotals.kp b_Ltotals .nil pass0 (pa_cons (pv 2) (pa_cons (pv 4) (pa_cons (pv 5) pa_nil)))))
(pss_cons (ps_expr (pe_bm PySem.F.plainAttrs_list PySem.F.slot_list_append PySem.F.type_list_append mt_append (pv 3) (pa_cons (pe_tup (pa_cons (pv 4) (pa_cons (pv 5) (pa_cons (pe_ix ix_list (pv 6) pe_int (fun _ _ => rfl)) (pa_cons (pe_ix ix_list (pv 6) (pe_un un_neg pe_int) (fun _ _ => rfl)) pa_nil))))) pa_nil)))
(pss_one (ps_if (pt_not (pt_val (pe_callG hg G_Lpair_right (hr.mono (by decide)) rfl m_Lpair_right F_Lpair_right.kp b_Lpair_right (pa_cons (pv 2) (pa_cons (pv 4) (pa_cons (pv 5) pa_nil))))))
(pss_one (ps_ret pe_bl))
pss_nil)))))))
(pss_one (ps_if (pt_cmpR op_ne (pe_callB (call_repr hg hr) (by rfl) T.n_repr (by decide +kernel) (pa_cons (pe_call G_turns (hr.mono (by decide)) rfl m_turns F_turns.kp b_turns .nil pass0 (pa_cons (pv 2) pa_nil)) pa_nil)) (pe_callB (call_repr hg hr) (by rfl) T.n_repr (by decide +kernel) (pa_cons (pe_callTy call_tuple_of (by rfl) T.n_tuple (by decide +kernel) (pa_cons (pv 3) pa_nil)) pa_nil)) (nomark _))
(pss_one (ps_ret pe_bl))
pss_nil)))))
(pss_one (ps_ret pe_bl))), ?_⟩
    refine ⟨_, rfl, by decide, by decide, for_range (n := (8 : Int).toNat) (fun i σ H' => ∃ (v1 v2 v3 v4 v5 v6 : Option V), σ = [some (.ref b), v1, v2, v3, v4, v5, v6] ∧ Box (n + 100 * i) H' b ∧ But b H H')
      ⟨none, none, none, none, none, none, rfl, hB.mono (by omega), But.refl b H⟩ ?_ ?_⟩
    · rintro i σ H' hi ⟨v1, v2, v3, v4, v5, v6, rfl, BB, u⟩
      have hi8 : i < 8 := hi
      refine ⟨_, rfl, _, rfl, szl 3 rfl, fun m hm => ?_⟩
      refine ⟨b, m, [.int 10, .int 40, .int 100], n + 100 * i, rfl, BB.new hm, (BB.ne hm), .inl upd_same, by omega, by simp, by decide, fun v H1 hv B1 u1 => ?_⟩
      obtain ⟨top, rfl, tp1, tp2⟩ : ∃ top : Int, v = .int top ∧ 1 ≤ top ∧ top ≤ 100 := by
        simp only [List.mem_cons, List.not_mem_nil, or_false] at hv
        rcases hv with rfl | rfl | rfl <;> exact ⟨_, rfl, by decide, by decide⟩
      refine ⟨b, top, n + 100 * i + 1, rfl, B1, by omega, tp1, tp2, fun p S ls H2 R _ hbk B2 u2 => ?_⟩
      obtain ⟨q, hp, hq⟩ := hbk
      refine ⟨Nat.zero_le _, fun e he => ⟨_, _, rfl, ?_⟩⟩
      obtain ⟨bx, hbx⟩ := B2.there
      have npe : ∀ a o, H2 a = some o → a ≠ e := fun a o h => ne_of_none h he
      let INV := fun (ps : List (Int × Int)) (H' : Hp) => ∃ (xs : List V) (rs : List (List Int)), H' e = some (.lst xs) ∧ Same H2 H' ∧ RowsAt H' xs rs ∧ Paired (fun (p : Int × Int) r => TurnRow S ls p.1 p.2 r) ps rs ∧ xs.length = ps.length
      refine ⟨_, rfl, _, _, _, _, rfl, rfl, SqT.of (kp_new he hp), atI_nat (j := 1) rfl, _, rfl, ⟨_, SqT.of (kp_new he hq)⟩, for_tup (a := q) (xs := ls.map V.int) (fun i σ H' => ∃ (v1 v4 v5 v6 : Option V), σ = [some (.ref b), v1, some (.ref p), some (.ref e), v4, v5, v6] ∧ INV ((ls.take i).flatMap fun x => ls.map fun y => (x, y)) H')
        ⟨_, _, _, _, rfl, [], [], upd_same, same_new he, .nil, .nil, rfl⟩ (fun i σ H' _ ⟨_, _, _, _, _, _, _, _, sm, _⟩ => SqT.of (sm _ _ hq)) ?_ ?_⟩
      · rintro i v σ H' hi ⟨v2, v3, v4, v5, rfl, xs, rs, De, sm, ra, pr, ln⟩
        have hil : i < ls.length := by
          have z := (List.getElem?_eq_some_iff.mp hi).1
          rwa [List.length_map] at z
        have ev : v = .int ls[i] := by
          rw [List.getElem?_map, List.getElem?_eq_getElem hil] at hi
          exact (Option.some.inj hi).symm
        subst ev
        have hx : ls[i] ∈ ls := List.getElem_mem hil
        have tkx : ls.take (i + 1) = ls.take i ++ [ls[i]] := by rw [List.take_add_one, List.getElem?_eq_getElem hil]; rfl
        generalize ls[i] = x at hx tkx
        obtain ⟨x1, x2⟩ := R.mem x hx
        refine ⟨_, rfl, _, _, _, _, rfl, rfl, SqT.of (sm _ _ hp), atI_nat (j := 1) rfl, _, rfl, ⟨_, SqT.of (sm _ _ hq)⟩, for_tup (a := q) (xs := ls.map V.int) (fun j σ H' => ∃ (v1 v5 v6 : Option V), σ = [some (.ref b), v1, some (.ref p), some (.ref e), some (.int x), v5, v6] ∧ INV (((ls.take i).flatMap fun x => ls.map fun y => (x, y)) ++ (ls.take j).map fun y => (x, y)) H')
          ⟨_, _, _, rfl, xs, rs, De, sm, ra, by simpa using pr, by simpa using ln⟩ (fun j σ H' _ ⟨_, _, _, _, _, _, _, sm, _⟩ => SqT.of (sm _ _ hq)) ?_ ?_⟩
        · rintro j v σ H' hj ⟨v1, v5, v6, rfl, xs, rs, De, sm, ra, pr, ln⟩
          have hjl : j < ls.length := by
            have z := (List.getElem?_eq_some_iff.mp hj).1
            rwa [List.length_map] at z
          have ev : v = .int ls[j] := by
            rw [List.getElem?_map, List.getElem?_eq_getElem hjl] at hj
            exact (Option.some.inj hj).symm
          subst ev
          have hy : ls[j] ∈ ls := List.getElem_mem hjl
          have tky : ls.take (j + 1) = ls.take j ++ [ls[j]] := by rw [List.take_add_one, List.getElem?_eq_getElem hjl]; rfl
          generalize ls[j] = y at hy tky
          obtain ⟨y1, y2⟩ := R.mem y hy
          refine ⟨_, rfl, _, rfl, _, rfl, p, S, ls, x, y, rfl, ⟨q, sm _ _ hp, sm _ _ hq⟩, R, hx, hy, fun r ts H3 ht fr hr2 s2 => ?_⟩
          obtain ⟨lo, hlo, lc, _⟩ := ht.first (ht.ne x2 hy y1)
          obtain ⟨hi', hhi, gc, _⟩ := ht.last (ht.ne x2 hy y1)
          have six := R.six
          have lnb : xs.length ≤ 36 + 6 := by
            rw [ln, List.length_append, List.length_map, List.length_flatMap]
            have h1 : ∀ zs : List Int, (zs.map fun x => (ls.map fun y => (x, y)).length).sum = zs.length * ls.length := by
              intro zs
              induction zs with
              | nil => simp
              | cons z zs ih => rw [List.map_cons, List.sum_cons, ih, List.length_map, List.length_cons, Nat.succ_mul, Nat.add_comm]
            rw [h1, List.length_take, List.length_take]
            have h2 : min i ls.length * ls.length ≤ 6 * 6 := Nat.mul_le_mul (by omega) six
            omega
          refine ⟨_, rfl, .inl ⟨rfl, _, SqL.of (s2 _ _ De)⟩, _, rfl, _, rfl, _, rfl, _, _, _, _, rfl, rfl, SqL.of hr2, hlo, _, rfl, _, rfl, _, _, _, _, rfl, rfl, SqL.of hr2, hhi, szl 4 rfl, fun tp htp => ?_⟩
          refine ⟨e, _, _, rfl, rfl, kp_new htp (s2 _ _ De), Nat.lt_of_le_of_lt lnb (by decide), ?_⟩
          have nte : tp ≠ e := fun z => by rw [z, s2 _ _ De] at htp; cases htp
          have s3 : ∀ a o, a ≠ e → H' a = some o → (upd (upd H3 tp (.tup [.int x, .int y, .int lo, .int hi'])) e (.lst (xs ++ [.ref tp]))) a = some o := fun a o na h => kp_set na (kp_new htp (s2 _ _ h))
          have hRow : (upd (upd H3 tp (.tup [.int x, .int y, .int lo, .int hi'])) e (.lst (xs ++ [.ref tp]))) tp = some (.tup [.int x, .int y, .int lo, .int hi']) := kp_set nte upd_same
          have hE : (upd (upd H3 tp (.tup [.int x, .int y, .int lo, .int hi'])) e (.lst (xs ++ [.ref tp]))) e = some (.lst (xs ++ [.ref tp])) := upd_same
          generalize upd (upd H3 tp (.tup [.int x, .int y, .int lo, .int hi'])) e (.lst (xs ++ [.ref tp])) = H4 at s3 hRow hE
          have sm4 : Same H2 H4 := fun a o h => s3 a o (npe a o h) (sm _ _ h)
          refine ⟨_, rfl, _, rfl, _, rfl, p, S, ls, x, y, rfl, ⟨q, sm4 _ _ hp, sm4 _ _ hq⟩, R, hx, hy, fun H5 s5 => ⟨true, rfl, ?_⟩⟩
          refine ⟨_, _, _, rfl, xs ++ [.ref tp], rs ++ [[x, y, lo, hi']], s5 _ _ hE, sm4.trans s5, ?_, ?_, ?_⟩
          · refine Paired.snoc ?_ ⟨tp, rfl, s5 _ _ hRow⟩
            exact Paired.mapP ra fun v r ⟨a, ea, ha⟩ => ⟨a, ea, s5 _ _ (s3 _ _ (tup_ne ha De) ha)⟩
          · rw [tky, List.map_append, ← List.append_assoc]
            exact Paired.snoc pr ⟨lo, hi', rfl, lc, gc⟩
          · rw [tky, List.length_append, ln]
            simp
            omega
        · rintro σ H' ⟨v1, v5, v6, rfl, xs, rs, De, sm, ra, pr, ln⟩
          have tk : ls.take (ls.map V.int).length = ls := by rw [List.length_map, List.take_length]
          rw [tk] at pr ln
          refine ⟨_, _, _, _, rfl, xs, rs, De, sm, ra, ?_, ?_⟩
          · rw [tkx, List.flatMap_append]
            simpa using pr
          · rw [tkx, List.flatMap_append, ln]
            simp
      · rintro σ H' ⟨v1, v4, v5, v6, rfl, xs, rs, De, sm, ra, pr, ln⟩
        have tk : ls.take (ls.map V.int).length = ls := by rw [List.length_map, List.take_length]
        rw [tk] at pr ln
        refine ⟨_, rfl, p, S, ls, rfl, ⟨q, sm _ _ hp, sm _ _ hq⟩, R, fun t us ws H3 ht hra hpr s3 => ?_⟩
        have eq : ws = rs := turnsOf_uniq hpr pr
        subst eq
        have lnb : ws.length ≤ 36 := by
          have e1 : xs.length = ws.length := Paired.length ra
          rw [← e1, ln, List.length_flatMap]
          have h1 : ∀ zs : List Int, (zs.map fun x => (ls.map fun y => (x, y)).length).sum = zs.length * ls.length := by
            intro zs
            induction zs with
            | nil => simp
            | cons z zs ih => rw [List.map_cons, List.sum_cons, ih, List.length_map, List.length_cons, Nat.succ_mul, Nat.add_comm]
          rw [h1]
          exact Nat.mul_le_mul R.six R.six
        have tx : Tx 16777216 60 (.tuple (ws.map fun r => .tuple (r.map PyData.int))) := (Tx.tuple (n := 27) (k := 1) (m := 36) (fun d hd => by
          obtain ⟨r, hr, rfl⟩ := List.mem_map.mp hd
          obtain ⟨x, y, lo, hi, rfl, hx, hy, l1, l2⟩ : ∃ x y lo hi, r = [x, y, lo, hi] ∧ x ∈ ls ∧ y ∈ ls ∧ Least S ls x y lo ∧ Greatest S ls x y hi := by
            clear tk lnb
            have : ∀ {ps : List (Int × Int)} {ws : List (List Int)}, Paired (fun (p : Int × Int) r => TurnRow S ls p.1 p.2 r) ps ws → ∀ r ∈ ws, ∃ p ∈ ps, TurnRow S ls p.1 p.2 r := by
              intro ps ws h
              induction h with
              | nil => intro r hr; cases hr
              | cons h1 _ ih =>
                intro r hr
                rcases List.mem_cons.mp hr with rfl | hr
                · exact ⟨_, List.mem_cons_self, h1⟩
                · obtain ⟨p, hp, h2⟩ := ih r hr
                  exact ⟨p, List.mem_cons_of_mem _ hp, h2⟩
            obtain ⟨pp, hpp, lo, hi, e1, e2, e3⟩ := this pr r hr
            obtain ⟨x, hx, hxy⟩ := List.mem_flatMap.mp hpp
            obtain ⟨y, hyl, rfl⟩ := List.mem_map.mp hxy
            exact ⟨x, y, lo, hi, e1, hx, hyl, e2, e3⟩
          have a1 := R.mem x hx
          have a2 := R.mem y hy
          have a3 := R.s2
          have a4 := l1.lo
          have a5 := l1.hi
          have a6 := l2.lo
          have a7 := l2.hi
          refine (Tx.tuple (n := 4) (k := 0) (m := 4) (fun d hd => ?_) (Nat.le_refl _)).mono (by decide) (by decide)
          simp only [List.map_cons, List.map_nil, List.mem_cons, List.not_mem_nil, or_false] at hd
          rcases hd with rfl | rfl | rfl | rfl <;> exact Tx.small (by omega)) (by rw [List.length_map]; exact lnb)).mono (by decide) (by decide)
        refine ⟨_, _, rfl, Dp.tup (SqT.of ht) hra.dp, tx, ?_⟩
        refine ⟨_, rfl, e, xs, rfl, .inl ⟨SqL.of (s3 _ _ De), fun t2 ht2 => ?_⟩⟩
        refine ⟨_, _, rfl, Dp.tup (SqT.of upd_same) ((ra.same s3).same (same_new ht2)).dp, tx, rfl, _, rfl, iteNS rfl ?_⟩
        have nb : ∀ a o, a ≠ b → H a = some o → (upd H3 t2 (.tup xs)) a = some o := fun a o na h => kp_new ht2 (s3 _ _ (sm _ _ (u2 _ _ na (u1 _ _ na (kp_new hm (u _ _ na h))))))
        exact ⟨_, _, _, _, _, _, rfl, (((B2.same sm).same s3).new ht2).mono (by omega), nb⟩
    · rintro σ H' ⟨v1, v2, v3, v4, v5, v6, rfl, BB, u⟩
      exact k H' u

theorem ok_law {f : Addr} {fd : FuncData} (T : Txt K mg) (F : Fun K "law" "law" s_law f fd) : FnG P w K mg base 5 f fd ["_law_script"] (sp_law K) := by
  refine g_ok F sc_law (fun vs H Q h => ?_) (fun cdv A outer s H vs Q hg hr h => ?_)
  · obtain ⟨a, ns, rfl, _⟩ := h
    rfl
  · obtain ⟨a, ns, rfl, hS, hlen, k⟩ := h
    have nd := sc_law.nd
    obtain ⟨f_Lbox, fd_Lbox, F_Lbox, m_Lbox, b_Lbox⟩ := T.d_Lbox.ex
    have G_Lbox := ok_Lbox (P := P) (w := w) (mg := mg) (base := base) T F_Lbox
    obtain ⟨f_Lright, fd_Lright, F_Lright, m_Lright, b_Lright⟩ := T.d_Lright.ex
    have G_Lright := ok_Lright (P := P) (w := w) (mg := mg) (base := base) T F_Lright
    refine ⟨_, (pss_one (ps_ret (pe_callB (cr_all rfl) (by rfl) T.n_all (by decide +kernel) (pa_cons (pe_lc (own := [("_law_k", 1)]) (g := gName 1) (tt := tYes) rfl nd (pi_range1 (by rfl) T.n_range (pa_cons (pe_callB (call_max2 rfl) (by rfl) T.n_max (by decide +kernel) (pa_cons pe_int (pa_cons (pe_callB (call_min2 rfl) (by rfl) T.n_min (by decide +kernel) (pa_cons (pe_callB call_len_seq (by rfl) T.n_len (by decide +kernel) (pa_cons (pv 0) pa_nil)) (pa_cons pe_int pa_nil))) pa_nil))) pa_nil)) (blkOk_by (own := [("_law_k", 1)]) (N := N_law) (sc := defScope s_law) (by decide +kernel)) (fun _ _ _ _ _ => pg_name (i := 1) nd rfl (Or.inl rfl)) (fun _ _ _ _ _ => pts_nil) (fun _ _ _ _ _ => (pe_callG hg G_Lright (hr.mono (by decide)) rfl m_Lright F_Lright.kp b_Lright (pa_cons (pe_call G_Lbox (hr.mono (by decide)) rfl m_Lbox F_Lbox.kp b_Lbox .nil pass0 (pa_cons (pv 0) (pa_cons (pv 1) pa_nil))) pa_nil)))) pa_nil)))), ?_⟩
    have cb := cntA_in (ns.map V.int).length
    refine ⟨_, rfl, a, ns.map V.int, rfl, .inl hS, _, _, rfl, _, _, rfl, cntA (ns.map V.int).length, rfl, by omega, by omega, fun D hD => lc_range (lo := 0) (n := (cntA (ns.map V.int).length).toNat) (fun i H' => TruesAt D i H' ∧ Same H H') ⟨upd_same, same_new hD⟩ ?_ ?_⟩
    · rintro i H' hi ⟨D1, sm⟩
      refine ⟨rfl, ?_⟩
      refine ⟨_, rfl, _, rfl, a, ns, 0 + (i : Int), rfl, sm.seq hS, hlen, by omega, by omega, fun b H1 s1 fb B1 => ?_⟩
      refine ⟨b, 0, rfl, B1, by decide, fun H2 u => ?_⟩
      have nDb : D ≠ b := fun e => by
        rw [← e] at fb
        unfold TruesAt at D1
        rw [fb] at D1
        cases D1
      show ∃ acc, _ ∧ _ ∧ _
      refine ⟨_, u _ _ nDb (s1 _ _ D1), by rw [trues_len]; exact Nat.lt_of_le_of_lt (by omega : i ≤ 1000) (by decide), by unfold TruesAt; rw [upd_same, trues_snoc], fun x o h => kp_set (ne_of_none h hD) (u _ _ ?_ (s1 _ _ (sm _ _ h)))⟩
      exact ne_of_none (sm _ _ h) fb
    · rintro H' ⟨D1, sm⟩
      refine ⟨D, _, rfl, SqL.of D1, ?_⟩
      rw [all_true]
      exact k _

end
end My

namespace My
open PySem L2
theorem all_mk {l : PySem.W.OpenLaw} {w : World} {K : PySem.W.Frag} {h : Heap} {mg : Str → Option Value} {fa f1 f2 f3 f4 f5 f6 f7 f8 f9 f10 f11 f12 f13 f14 : Addr} (X : K.In h) (G : h.Ns mainGlobals mg) (hfa : mg "law" = some (.ref fa))
    {od1 an1 od2 an2 od3 an3 od4 an4 od5 an5 od6 an6 od7 an7 od8 an8 od9 an9 od10 an10 od11 an11 od12 an12 od13 an13 od14 an14 : Option Addr} {sl1 sl2 sl3 sl4 sl5 sl6 sl7 sl8 sl9 sl10 sl11 sl12 sl13 sl14 : Array (Option Value)} {oc1 kV1 dc1 pm1 cd1 ct1 oc2 kV2 dc2 pm2 cd2 ct2 oc3 kV3 dc3 pm3 cd3 ct3 oc4 kV4 dc4 pm4 cd4 ct4 oc5 kV5 dc5 pm5 cd5 ct5 oc6 kV6 dc6 pm6 cd6 ct6 oc7 kV7 dc7 pm7 cd7 ct7 oc8 kV8 dc8 pm8 cd8 ct8 oc9 kV9 dc9 pm9 cd9 ct9 oc10 kV10 dc10 pm10 cd10 ct10 oc11 kV11 dc11 pm11 cd11 ct11 oc12 kV12 dc12 pm12 cd12 ct12 oc13 kV13 dc13 pm13 cd13 ct13 oc14 kV14 dc14 pm14 cd14 ct14 : Value}
    (a1 : PySem.W.nsIn K mainGlobals "_law_take" = some (some (.ref f1))) (l1 : K.lookup f1 = some ⟨oc1, od1, .func (PySem.W.fnOf "_law_take" "_law_take" (defArgs s_Ltake) (defBody s_Ltake) (defScope s_Ltake) .none kV1 dc1 pm1 an1 cd1 ct1), sl1⟩) (c1 : PySem.W.codeIn K cd1 "_law_take" = true) (k1 : PySem.W.keepIn K (.ref f1) = true)
    (a2 : PySem.W.nsIn K mainGlobals "_law_box" = some (some (.ref f2))) (l2 : K.lookup f2 = some ⟨oc2, od2, .func (PySem.W.fnOf "_law_box" "_law_box" (defArgs s_Lbox) (defBody s_Lbox) (defScope s_Lbox) .none kV2 dc2 pm2 an2 cd2 ct2), sl2⟩) (c2 : PySem.W.codeIn K cd2 "_law_box" = true) (k2 : PySem.W.keepIn K (.ref f2) = true)
    (a3 : PySem.W.nsIn K mainGlobals "_law_of" = some (some (.ref f3))) (l3 : K.lookup f3 = some ⟨oc3, od3, .func (PySem.W.fnOf "_law_of" "_law_of" (defArgs s_Lof) (defBody s_Lof) (defScope s_Lof) .none kV3 dc3 pm3 an3 cd3 ct3), sl3⟩) (c3 : PySem.W.codeIn K cd3 "_law_of" = true) (k3 : PySem.W.keepIn K (.ref f3) = true)
    (a4 : PySem.W.nsIn K mainGlobals "_law_book" = some (some (.ref f4))) (l4 : K.lookup f4 = some ⟨oc4, od4, .func (PySem.W.fnOf "_law_book" "_law_book" (defArgs s_Lbook) (defBody s_Lbook) (defScope s_Lbook) .none kV4 dc4 pm4 an4 cd4 ct4), sl4⟩) (c4 : PySem.W.codeIn K cd4 "_law_book" = true) (k4 : PySem.W.keepIn K (.ref f4) = true)
    (a5 : PySem.W.nsIn K mainGlobals "last_lines" = some (some (.ref f5))) (l5 : K.lookup f5 = some ⟨oc5, od5, .func (PySem.W.fnOf "last_lines" "last_lines" (defArgs s_last_lines) (defBody s_last_lines) (defScope s_last_lines) .none kV5 dc5 pm5 an5 cd5 ct5), sl5⟩) (c5 : PySem.W.codeIn K cd5 "last_lines" = true) (k5 : PySem.W.keepIn K (.ref f5) = true)
    (a6 : PySem.W.nsIn K mainGlobals "totals_for" = some (some (.ref f6))) (l6 : K.lookup f6 = some ⟨oc6, od6, .func (PySem.W.fnOf "totals_for" "totals_for" (defArgs s_totals_for) (defBody s_totals_for) (defScope s_totals_for) .none kV6 dc6 pm6 an6 cd6 ct6), sl6⟩) (c6 : PySem.W.codeIn K cd6 "totals_for" = true) (k6 : PySem.W.keepIn K (.ref f6) = true)
    (a7 : PySem.W.nsIn K mainGlobals "least_total" = some (some (.ref f7))) (l7 : K.lookup f7 = some ⟨oc7, od7, .func (PySem.W.fnOf "least_total" "least_total" (defArgs s_least_total) (defBody s_least_total) (defScope s_least_total) .none kV7 dc7 pm7 an7 cd7 ct7), sl7⟩) (c7 : PySem.W.codeIn K cd7 "least_total" = true) (k7 : PySem.W.keepIn K (.ref f7) = true)
    (a8 : PySem.W.nsIn K mainGlobals "greatest_total" = some (some (.ref f8))) (l8 : K.lookup f8 = some ⟨oc8, od8, .func (PySem.W.fnOf "greatest_total" "greatest_total" (defArgs s_greatest_total) (defBody s_greatest_total) (defScope s_greatest_total) .none kV8 dc8 pm8 an8 cd8 ct8), sl8⟩) (c8 : PySem.W.codeIn K cd8 "greatest_total" = true) (k8 : PySem.W.keepIn K (.ref f8) = true)
    (a9 : PySem.W.nsIn K mainGlobals "least_file" = some (some (.ref f9))) (l9 : K.lookup f9 = some ⟨oc9, od9, .func (PySem.W.fnOf "least_file" "least_file" (defArgs s_least_file) (defBody s_least_file) (defScope s_least_file) .none kV9 dc9 pm9 an9 cd9 ct9), sl9⟩) (c9 : PySem.W.codeIn K cd9 "least_file" = true) (k9 : PySem.W.keepIn K (.ref f9) = true)
    (a10 : PySem.W.nsIn K mainGlobals "turns" = some (some (.ref f10))) (l10 : K.lookup f10 = some ⟨oc10, od10, .func (PySem.W.fnOf "turns" "turns" (defArgs s_turns) (defBody s_turns) (defScope s_turns) .none kV10 dc10 pm10 an10 cd10 ct10), sl10⟩) (c10 : PySem.W.codeIn K cd10 "turns" = true) (k10 : PySem.W.keepIn K (.ref f10) = true)
    (a11 : PySem.W.nsIn K mainGlobals "_law_totals" = some (some (.ref f11))) (l11 : K.lookup f11 = some ⟨oc11, od11, .func (PySem.W.fnOf "_law_totals" "_law_totals" (defArgs s_Ltotals) (defBody s_Ltotals) (defScope s_Ltotals) .none kV11 dc11 pm11 an11 cd11 ct11), sl11⟩) (c11 : PySem.W.codeIn K cd11 "_law_totals" = true) (k11 : PySem.W.keepIn K (.ref f11) = true)
    (a12 : PySem.W.nsIn K mainGlobals "_law_pair_right" = some (some (.ref f12))) (l12 : K.lookup f12 = some ⟨oc12, od12, .func (PySem.W.fnOf "_law_pair_right" "_law_pair_right" (defArgs s_Lpair_right) (defBody s_Lpair_right) (defScope s_Lpair_right) .none kV12 dc12 pm12 an12 cd12 ct12), sl12⟩) (c12 : PySem.W.codeIn K cd12 "_law_pair_right" = true) (k12 : PySem.W.keepIn K (.ref f12) = true)
    (a13 : PySem.W.nsIn K mainGlobals "_law_right" = some (some (.ref f13))) (l13 : K.lookup f13 = some ⟨oc13, od13, .func (PySem.W.fnOf "_law_right" "_law_right" (defArgs s_Lright) (defBody s_Lright) (defScope s_Lright) .none kV13 dc13 pm13 an13 cd13 ct13), sl13⟩) (c13 : PySem.W.codeIn K cd13 "_law_right" = true) (k13 : PySem.W.keepIn K (.ref f13) = true)
    (a14 : PySem.W.nsIn K mainGlobals "law" = some (some (.ref f14))) (l14 : K.lookup f14 = some ⟨oc14, od14, .func (PySem.W.fnOf "law" "law" (defArgs s_law) (defBody s_law) (defScope s_law) .none kV14 dc14 pm14 an14 cd14 ct14), sl14⟩) (c14 : PySem.W.codeIn K cd14 "law" = true) (k14 : PySem.W.keepIn K (.ref f14) = true)
    (z_abs : PySem.W.nsIn K mainGlobals "abs" = some none)
    (z_int : PySem.W.nsIn K mainGlobals "int" = some none)
    (z_len : PySem.W.nsIn K mainGlobals "len" = some none)
    (z_tuple : PySem.W.nsIn K mainGlobals "tuple" = some none)
    (z_sorted : PySem.W.nsIn K mainGlobals "sorted" = some none)
    (z_range : PySem.W.nsIn K mainGlobals "range" = some none)
    (z_max : PySem.W.nsIn K mainGlobals "max" = some none)
    (z_any : PySem.W.nsIn K mainGlobals "any" = some none)
    (z_all : PySem.W.nsIn K mainGlobals "all" = some none)
    (z_sum : PySem.W.nsIn K mainGlobals "sum" = some none)
    (z_isinstance : PySem.W.nsIn K mainGlobals "isinstance" = some none)
    (z_repr : PySem.W.nsIn K mainGlobals "repr" = some none)
    (z_min : PySem.W.nsIn K mainGlobals "min" = some none)
    : ∃ fd : FuncData, (∀ (s : Shared) (v : Value), BindsTo s fd ⟨[v], []⟩ [("_law_script", v)]) ∧ ∀ base : Heap, K.In base → base.Ns mainGlobals mg → FnG l.prog w K mg base 5 fa fd ["_law_script"] (sp_law K) := by
  have e := hfa.symm.trans (PySem.W.mg_of X G a14)
  cases e
  have F1 := fun_mk (st := s_Ltake) l1 c1 k1
  have b1 := F1.binds (ps := ["_law_box_here", "_law_many"]) fun _ _ _ _ _ _ us hl => match us, hl with | [_, _], _ => rfl
  have F2 := fun_mk (st := s_Lbox) l2 c2 k2
  have b2 := F2.binds (ps := ["_law_script", "_law_k"]) fun _ _ _ _ _ _ us hl => match us, hl with | [_, _], _ => rfl
  have F3 := fun_mk (st := s_Lof) l3 c3 k3
  have b3 := F3.binds (ps := ["_law_box_here", "_law_some"]) fun _ _ _ _ _ _ us hl => match us, hl with | [_, _], _ => rfl
  have F4 := fun_mk (st := s_Lbook) l4 c4 k4
  have b4 := F4.binds (ps := ["_law_box_here", "_law_top"]) fun _ _ _ _ _ _ us hl => match us, hl with | [_, _], _ => rfl
  have F5 := fun_mk (st := s_last_lines) l5 c5 k5
  have b5 := F5.binds (ps := ["rules", "first"]) fun _ _ _ _ _ _ us hl => match us, hl with | [_, _], _ => rfl
  have F6 := fun_mk (st := s_totals_for) l6 c6 k6
  have b6 := F6.binds (ps := ["lasts", "later"]) fun _ _ _ _ _ _ us hl => match us, hl with | [_, _], _ => rfl
  have F7 := fun_mk (st := s_least_total) l7 c7 k7
  have b7 := F7.binds (ps := ["rules", "first", "later"]) fun _ _ _ _ _ _ us hl => match us, hl with | [_, _, _], _ => rfl
  have F8 := fun_mk (st := s_greatest_total) l8 c8 k8
  have b8 := F8.binds (ps := ["rules", "first", "later"]) fun _ _ _ _ _ _ us hl => match us, hl with | [_, _, _], _ => rfl
  have F9 := fun_mk (st := s_least_file) l9 c9 k9
  have b9 := F9.binds (ps := ["rules", "first", "later"]) fun _ _ _ _ _ _ us hl => match us, hl with | [_, _, _], _ => rfl
  have F10 := fun_mk (st := s_turns) l10 c10 k10
  have b10 := F10.binds (ps := ["rules"]) fun _ _ _ _ _ _ us hl => match us, hl with | [_], _ => rfl
  have F11 := fun_mk (st := s_Ltotals) l11 c11 k11
  have b11 := F11.binds (ps := ["_law_book_here", "_law_begin", "_law_end"]) fun _ _ _ _ _ _ us hl => match us, hl with | [_, _, _], _ => rfl
  have F12 := fun_mk (st := s_Lpair_right) l12 c12 k12
  have b12 := F12.binds (ps := ["_law_book_here", "_law_begin", "_law_end"]) fun _ _ _ _ _ _ us hl => match us, hl with | [_, _, _], _ => rfl
  have F13 := fun_mk (st := s_Lright) l13 c13 k13
  have b13 := F13.binds (ps := ["_law_box_here"]) fun _ _ _ _ _ _ us hl => match us, hl with | [_], _ => rfl
  have F14 := fun_mk (st := s_law) l14 c14 k14
  have T : Txt K mg := ⟨⟨⟨_, _, F1, PySem.W.mg_of X G a1, b1⟩⟩,
    ⟨⟨_, _, F2, PySem.W.mg_of X G a2, b2⟩⟩,
    ⟨⟨_, _, F3, PySem.W.mg_of X G a3, b3⟩⟩,
    ⟨⟨_, _, F4, PySem.W.mg_of X G a4, b4⟩⟩,
    ⟨⟨_, _, F5, PySem.W.mg_of X G a5, b5⟩⟩,
    ⟨⟨_, _, F6, PySem.W.mg_of X G a6, b6⟩⟩,
    ⟨⟨_, _, F7, PySem.W.mg_of X G a7, b7⟩⟩,
    ⟨⟨_, _, F8, PySem.W.mg_of X G a8, b8⟩⟩,
    ⟨⟨_, _, F9, PySem.W.mg_of X G a9, b9⟩⟩,
    ⟨⟨_, _, F10, PySem.W.mg_of X G a10, b10⟩⟩,
    ⟨⟨_, _, F11, PySem.W.mg_of X G a11, b11⟩⟩,
    ⟨⟨_, _, F12, PySem.W.mg_of X G a12, b12⟩⟩,
    ⟨⟨_, _, F13, PySem.W.mg_of X G a13, b13⟩⟩,
    PySem.W.mg_none_of X G z_abs,
    PySem.W.mg_none_of X G z_int,
    PySem.W.mg_none_of X G z_len,
    PySem.W.mg_none_of X G z_tuple,
    PySem.W.mg_none_of X G z_sorted,
    PySem.W.mg_none_of X G z_range,
    PySem.W.mg_none_of X G z_max,
    PySem.W.mg_none_of X G z_any,
    PySem.W.mg_none_of X G z_all,
    PySem.W.mg_none_of X G z_sum,
    PySem.W.mg_none_of X G z_isinstance,
    PySem.W.mg_none_of X G z_repr,
    PySem.W.mg_none_of X G z_min⟩
  exact ⟨PySem.W.fnOf "law" "law" (defArgs s_law) (defBody s_law) (defScope s_law) .none kV14 dc14 pm14 an14 cd14 ct14, fun s v => .of_eq rfl, fun base _ _ => ok_law T F14⟩
end My
open PySem PySem.W PyProof.Rows in
set_option maxRecDepth 100000 in
set_option maxHeartbeats 0 in
theorem PySem.Challenge.cw_rotatedlogs_k05_turns_holds : PySem.Challenge.rw_rotatedlogs_k05_turns.Holds := by
  w_on; o_law; k_head; (case hw => w_witness2)
  k_fill
  refine My.walk_g (l := PySem.Challenge.rw_rotatedlogs_k05_turns) (k := 5) (x := "_law_script") (sp := My.sp_law) rfl rfl ⟨rfl, by decide, by decide⟩ (fun w h Y => PySem.W.kIn_of Y) ?F (fun K H a ns hl _ hS => ⟨a, ns, rfl, hS, hl, fun _ => rfl⟩)
  case F =>
    intro w mg fa h KX G hmg
    refine' My.all_mk KX G hmg ?a1 ?l1 ?c1 ?k1 ?a2 ?l2 ?c2 ?k2 ?a3 ?l3 ?c3 ?k3 ?a4 ?l4 ?c4 ?k4 ?a5 ?l5 ?c5 ?k5 ?a6 ?l6 ?c6 ?k6 ?a7 ?l7 ?c7 ?k7 ?a8 ?l8 ?c8 ?k8 ?a9 ?l9 ?c9 ?k9 ?a10 ?l10 ?c10 ?k10 ?a11 ?l11 ?c11 ?k11 ?a12 ?l12 ?c12 ?k12 ?a13 ?l13 ?c13 ?k13 ?a14 ?l14 ?c14 ?k14 ?z_abs ?z_int ?z_len ?z_tuple ?z_sorted ?z_range ?z_max ?z_any ?z_all ?z_sum ?z_isinstance ?z_repr ?z_min
    (case a1 => k_is)
    (case l1 => k_is)
    (case c1 => k_is)
    (case k1 => k_is)
    (case a2 => k_is)
    (case l2 => k_is)
    (case c2 => k_is)
    (case k2 => k_is)
    (case a3 => k_is)
    (case l3 => k_is)
    (case c3 => k_is)
    (case k3 => k_is)
    (case a4 => k_is)
    (case l4 => k_is)
    (case c4 => k_is)
    (case k4 => k_is)
    (case a5 => k_is)
    (case l5 => k_is)
    (case c5 => k_is)
    (case k5 => k_is)
    (case a6 => k_is)
    (case l6 => k_is)
    (case c6 => k_is)
    (case k6 => k_is)
    (case a7 => k_is)
    (case l7 => k_is)
    (case c7 => k_is)
    (case k7 => k_is)
    (case a8 => k_is)
    (case l8 => k_is)
    (case c8 => k_is)
    (case k8 => k_is)
    (case a9 => k_is)
    (case l9 => k_is)
    (case c9 => k_is)
    (case k9 => k_is)
    (case a10 => k_is)
    (case l10 => k_is)
    (case c10 => k_is)
    (case k10 => k_is)
    (case a11 => k_is)
    (case l11 => k_is)
    (case c11 => k_is)
    (case k11 => k_is)
    (case a12 => k_is)
    (case l12 => k_is)
    (case c12 => k_is)
    (case k12 => k_is)
    (case a13 => k_is)
    (case l13 => k_is)
    (case c13 => k_is)
    (case k13 => k_is)
    (case a14 => k_is)
    (case l14 => k_is)
    (case c14 => k_is)
    (case k14 => k_is)
    (case z_abs => k_is)
    (case z_int => k_is)
    (case z_len => k_is)
    (case z_tuple => k_is)
    (case z_sorted => k_is)
    (case z_range => k_is)
    (case z_max => k_is)
    (case z_any => k_is)
    (case z_all => k_is)
    (case z_sum => k_is)
    (case z_isinstance => k_is)
    (case z_repr => k_is)
    (case z_min => k_is)
#print axioms PySem.Challenge.cw_rotatedlogs_k05_turns_holds

