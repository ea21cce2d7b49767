import PyProof.Rows.All
import Wide.All
import OpenK.AllK
import Wide.FinOn
import HandS.ForMost
import HandS.Wide
import HandS.Star
import HandS.Zip
import HandS.IsInst
import KE.KTupSum
import HandS.TupMul
import HandS.SortInts
import HandS.Iter
import HandS.More
import HandS.Style
import HandS.Defaults
import HandS.TupAny
import HandS.Text
import HandS.Dict
import HandS.TupLen
import HandS.RaiseMore
import KE.GoesEnum
import HandS.SortKw
import PyProof.MinMaxWalk
import PyProof.WalkInts
import KE.DataMinMax
import KE.Datum
import PyProof.EqAt
import HandS.Flow
import KE.KDictZip
import HandS.Zip0
import PyProof.ListNew
import HandS.DictComp
import KE.KDictPairs
import KE.KDictCopyH
import HandS.Conv
import HandS.Words
import HandS.Property
import HandS.MakeKwOnly
import HandS.OwnEq
import HandS.Codes
import KE.DataMinKey
import HandS.Sort
import KE.KUnpackStar
import KE.SortData
import PyProof.Rows.RowBridgeK
import PyProof.AutoSeq1
import HandS.Deep
import PyProof.Rows.TupDisplay
import HandS.ListItems
import HandS.DictTup
import KE.KDictItemsList
import HandS.Comp
import PyProof.StrOps2
import HandS.TryOnly
import HandS.FStr
import PySem.Challenge.RW_rotatedlogs_k63_texts_of_rules
set_option Elab.async false
set_option linter.all false
set_option maxRecDepth 100000
set_option maxHeartbeats 4000000
namespace My
open PySem L2

theorem kp_new {H : Hp} {p a : Addr} {o u : HO} (n : H p = none) (h : H a = some o) : upd H p u a = some o := by
  rw [upd_ne (ne_of_none h n)]; exact h
theorem kp_set {H : Hp} {p a : Addr} {o u : HO} (ne : a ≠ p) (h : H a = some o) : upd H p u a = some o := by
  rw [upd_ne ne]; exact h
theorem same_new {H : Hp} {p : Addr} {u : HO} (n : H p = none) : Same H (upd H p u) := fun _ _ h => kp_new n h
def But (b : Addr) (H H' : Hp) : Prop := ∀ a o, a ≠ b → H a = some o → H' a = some o
theorem But.refl (b : Addr) (H : Hp) : But b H H := fun _ _ _ h => h
theorem But.trans {b : Addr} {H H1 H2 : Hp} (x : But b H H1) (y : But b H1 H2) : But b H H2 := fun a o n h => y a o n (x a o n h)
theorem But.of {b : Addr} {H H' : Hp} (s : Same H H') : But b H H' := fun a o _ h => s a o h
theorem But.set {b : Addr} {H : Hp} {u : HO} : But b H (upd H b u) := fun a o n h => kp_set n h
theorem But.new {b p : Addr} {H : Hp} {u : HO} (n : H p = none) : But b H (upd H p u) := But.of (same_new n)
theorem But.free {b p : Addr} {H H' : Hp} (x : But b H H') (e : H' p = none) (n : p ≠ b) : H p = none := by
  cases q : H p with
  | none => rfl
  | some o => rw [x p o n q] at e; cases e
theorem tup_ne {H : Hp} {a b : Addr} {xs ys : List V} (h : H a = some (.tup xs)) (h' : H b = some (.lst ys)) : a ≠ b := ne_of h h' (by intro z; cases z)

def Box (n : Nat) (H : Hp) (b : Addr) : Prop := ∃ o m c : Int, H b = some (.lst [.int o, .int m, .int c]) ∧ 0 ≤ o ∧ 0 ≤ m ∧ m < 2 ^ 62 ∧ 0 ≤ c ∧ c ≤ n
theorem Box.mono {n k : Nat} {H : Hp} {b : Addr} (h : Box n H b) (l : n ≤ k) : Box k H b := by
  obtain ⟨o, m, c, h1, h2, h3, h4, h5, h6⟩ := h
  exact ⟨o, m, c, h1, h2, h3, h4, h5, by omega⟩
theorem Box.same {n : Nat} {H H' : Hp} {b : Addr} (h : Box n H b) (s : Same H H') : Box n H' b := by
  obtain ⟨o, m, c, h1, r⟩ := h
  exact ⟨o, m, c, s _ _ h1, r⟩
theorem Box.there {n : Nat} {H : Hp} {b : Addr} (h : Box n H b) : ∃ xs, H b = some (.lst xs) := by
  obtain ⟨o, m, c, h1, r⟩ := h
  exact ⟨_, h1⟩
theorem Box.new {n : Nat} {H : Hp} {b p : Addr} {u : HO} (h : Box n H b) (x : H p = none) : Box n (upd H p u) b := h.same (same_new x)

theorem Box.ne {n : Nat} {H : Hp} {b p : Addr} (h : Box n H b) (x : H p = none) : p ≠ b := (ne_of_none h.there.choose_spec x).symm
theorem Box.set {n : Nat} {H : Hp} {b p : Addr} {u : HO} (h : Box n H b) (x : p ≠ b) : Box n (upd H p u) b := by
  obtain ⟨o, m, c, h1, r⟩ := h
  exact ⟨o, m, c, kp_set x.symm h1, r⟩
theorem join {α : Type} {G : Prop} (P : α → Prop) (rest : ∀ x, P x) (use : (∀ x, P x) → G) : G := use rest
section
variable {X : Cx}
def CPowW (i j : Int) : Prop := 0 ≤ j ∧ (Builtin.Int.intBits i : Int) * j ≤ 2 ^ 27
theorem op_powW : OpR X (binaryOp .Pow) (rI CPowW fun i j => .int (i ^ j.toNat)) := opI fun _ _ _ _ _ _ _ hc q => PyProof.Rows.pow_int hc.1 hc.2 q
end
theorem atI_in {α : Type} {xs : List α} {r : Int} (h0 : 0 ≤ r) (h1 : r < xs.length) : ∃ v, atI xs r = some v ∧ v ∈ xs := by
  obtain ⟨n, rfl⟩ : ∃ n : Nat, r = n := ⟨r.toNat, by omega⟩
  have h2 : n < xs.length := by omega
  exact ⟨xs[n], atI_nat (List.getElem?_eq_getElem h2), List.getElem_mem h2⟩

structure Rules (S : Int) (ls : List Int) : Prop where
  s1 : 1 ≤ S
  s2 : S ≤ 100
  ne : ls ≠ []
  six : ls.length ≤ 6
  mem : ∀ l ∈ ls, 1 ≤ l ∧ l ≤ S
  asc : ls.Pairwise (· < ·)
def Tups (H H' : Hp) : Prop := ∀ a xs, H a = some (.tup xs) → H' a = some (.tup xs)
theorem Tups.refl (H : Hp) : Tups H H := fun _ _ h => h
theorem Tups.trans {H H1 H2 : Hp} (x : Tups H H1) (y : Tups H1 H2) : Tups H H2 := fun a o h => y a o (x a o h)
def insL (ks : List Int) (k : Int) : List Int := if k ∈ ks then ks else ks ++ [k]
def dT (ks : List Int) : List (Key × V) := ks.map fun k => (Sum.inl k, V.bl true)
theorem insL_nd {ks : List Int} {k : Int} (h : ks.Nodup) : (insL ks k).Nodup := by
  unfold insL
  split
  · exact h
  · rename_i hk
    rw [List.nodup_append]
    refine ⟨h, by simp, ?_⟩
    intro a ha b hb e
    have : b = k := by simpa using hb
    exact hk (by rw [← this, ← e]; exact ha)
theorem insL_mem {ks : List Int} {k a : Int} (h : a ∈ insL ks k) : a ∈ ks ∨ a = k := by
  unfold insL at h
  split at h
  · exact .inl h
  · rcases List.mem_append.mp h with h | h
    · exact .inl h
    · exact .inr (by simpa using h)
theorem insL_len (ks : List Int) (k : Int) : (insL ks k).length ≤ ks.length + 1 := by
  unfold insL
  split
  · omega
  · simp
theorem insL_ne (ks : List Int) (k : Int) : insL ks k ≠ [] := by
  unfold insL
  split
  · rename_i h
    exact List.ne_nil_of_mem h
  · simp
theorem asc_of {ys ks : List Int} (p : ys.Perm ks) (h : ks.Nodup) (s : ys.Pairwise (· ≤ ·)) : ys.Pairwise (· < ·) := by
  have n : ys.Nodup := p.nodup_iff.mpr h
  have b := List.pairwise_and_iff.mpr ⟨s, n⟩
  exact b.imp fun {x y} ⟨h1, h2⟩ => by omega

inductive Ev where
  | line (l : Int)
  | look
  | rot
  deriving DecidableEq
def Ev.v : Ev → V
  | .line l => .int l
  | .look => .str "look"
  | .rot => .str "rotate"
def Ev.ok (ls : List Int) : Ev → Prop
  | .line l => l ∈ ls
  | _ => True
def Ev.st : Int × Int → Ev → Int × Int
  | (s, h), .line l => (s + l, h)
  | _, .look => (0, 0)
  | (s, h), .rot => (s, h + 1)
def stOf (es : List Ev) : Int × Int := es.foldl Ev.st (0, 0)
theorem stOf_snoc (es : List Ev) (e : Ev) : stOf (es ++ [e]) = Ev.st (stOf es) e := by
  unfold stOf
  rw [List.foldl_append]
  rfl
def Tame (bound often : Int) (es : List Ev) : Prop := ∀ j, j ≤ es.length → (stOf (es.take j)).1 ≤ bound ∧ (stOf (es.take j)).2 ≤ often
theorem Tame.nil {bound often : Int} (h1 : 0 ≤ bound) (h2 : 0 ≤ often) : Tame bound often [] := fun j hj => by
  have : j = 0 := by simpa using hj
  subst this
  exact ⟨h1, h2⟩
theorem Tame.snoc {bound often : Int} {es : List Ev} {e : Ev} (h : Tame bound often es) (h1 : (Ev.st (stOf es) e).1 ≤ bound) (h2 : (Ev.st (stOf es) e).2 ≤ often) : Tame bound often (es ++ [e]) := fun j hj => by
  by_cases hl : j ≤ es.length
  · rw [List.take_append_of_le_length hl]
    exact h j hl
  · have e1 : (es ++ [e]).take j = es ++ [e] := List.take_of_length_le (by simp at hj ⊢; omega)
    rw [e1, stOf_snoc]
    exact ⟨h1, h2⟩
end My

namespace My
open PySem PySem.Spec PyProof.Rows L2

structure FnG (P : Program) (w : World) (K : PySem.W.Frag) (mg : Str → Option Value) (base : Heap) (k : Nat) (f : Addr) (fd : FuncData) (ps : List Str) (sp : Sp) : Prop where
  len : ∀ vs H Q, sp vs H Q E0 → vs.length = ps.length
  go : ∀ {A : Around} {out : List Env} {s : Shared} {H : Hp} {as : Args} {us : List Value} {vs : List V} {Q : VK}, A.guards = some [] → Room k A → Env0 P w K mg base A out s H →
    BindsTo s fd as (ps.zip us) → Vals vs us → sp vs H Q E0 → codeAny (model P w) A (.call (.ref f) as) (CR CX0 out P w H s Q E0) s
theorem FnOk.g {P : Program} {w : World} {K : PySem.W.Frag} {mg : Str → Option Value} {base : Heap} {k : Nat} {f : Addr} {fd : FuncData} {ps : List Str} {sp : Sp} (F : FnOk P w K mg base CX0 k f fd ps sp) : FnG P w K mg base k f fd ps sp :=
  ⟨fun vs H Q h => F.len vs H Q _ h, fun _ hr he hb hv h => F.run _ _ _ _ _ _ _ _ _ hr he hb hv h⟩

section
variable {P : Program} {w : World} {K : PySem.W.Frag} {mg : Str → Option Value} {base : Heap}
theorem g_ok {nm qual : Str} {st : Stmt} {f : Addr} {fd : FuncData} {N ps : List Str} {k : Nat} {sp : Sp} (F : Fun K nm qual st f fd) (S : FnScope N ps (defScope st)) (len : ∀ vs H Q, sp vs H Q E0 → vs.length = ps.length)
    (body : ∀ (cdv : Value) (A : Around) (out : List Env) (s : Shared) (H : Hp) (vs : List V) (Q : VK), (A.deeper (envOfC qual (defScope st) s.heap.objs.size f cdv)).guards = some [] →
      Room k (A.deeper (envOfC qual (defScope st) s.heap.objs.size f cdv)) → sp vs H Q E0 →
      ∃ t, PSs (cxOf CX0 P w K mg base N qual (defScope st) f cdv A out s H E0).nox (defBody st) t ∧ t { nx := fun _ H' => Q .non H', rt := Q } (start N vs) H) :
    FnG P w K mg base (k + 1) f fd ps sp := by
  obtain ⟨oc, od, kV, doc, pm, an, cdv, ct, osl, rfl, lk, hcd⟩ := F.ex
  refine ⟨len, ?_⟩
  intro A out s H as us vs Q hg hr e0 hb rv hsp
  have hst : ∀ b o, base.get? b = some o → s.heap.get? b = some o := fun b o e => (e0.bs b o e).1
  have hK : K.In s.heap := e0.mod.kin.keeps hst
  have places : ∀ y ∈ ps.zip us, (defScope st).names.lookup y.1 = some .local ∨ ((defScope st).names.lookup y.1 = some .cell ∧ ((cellsFrom (s.heap.objs.size + 1) (defScope st).names []).lookup y.1).isSome = true) := by
    intro y hy
    obtain ⟨n, v⟩ := y
    exact (S.par n (List.of_mem_zip hy).1).imp id fun q => ⟨q, PySem.W.cellsFrom_some _ _ _ (.inl q)⟩
  refine codeAny_call_function hr.depth (hK _ _ lk) rfl S.co S.gen rfl (PySem.W.codeRec_of hK hcd) (hb _ _ _ _ (wpAny_newFunctionEnv_cells S.kind places fun env he s2 x => ?_))
  cases he
  refine ⟨(e0.mod.nolimit.keeps hst).keeps x.toInCall.keep, codeAny_func ?_⟩
  obtain ⟨t, ht, ht2⟩ := body cdv A out s H vs Q hg (hr.deeper _) hsp
  have I := inv_start (CX := CX0) (E := E0) S hr.hd e0 (len _ _ _ hsp) rv x
  refine wpAny_mono (ht.nox.run [] s2 _ H _ I ht2) ?_ fun _ _ h => h
  intro fl s3 h3
  cases fl with
  | next =>
    obtain ⟨σ3, H3, J, q⟩ := h3
    exact ⟨V.non, H3, J.os, J.bare, J.base, J.hok, rfl, q⟩
  | ret u =>
    obtain ⟨v3, σ3, H3, J, r3, q⟩ := h3
    exact ⟨v3, H3, J.os, J.bare, J.base, J.hok, r3, q⟩
  | brk => exact (h3.choose_spec.choose_spec.2 : False).elim
  | cont => exact (h3.choose_spec.choose_spec.2 : False).elim
end

section
variable {X : Cx} {k : Nat} {f : Addr} {fd : FuncData} {ps : List Str} {sp : Sp} {x : Str} {p pos : Pos} {e : Expr} {es : List Expr} {t : TA}
theorem runG {pins : List (Addr × Obj)} {σ : L2.St} {H : Hp} {s : Shared} {Q : VK} {us : List Value} {vs : List V} (hg : X.A.guards = some []) (F : FnG X.prog X.w X.K X.mg X.base k f fd ps sp) (hr : Room k X.A) (hb : Binds X.K fd ps [])
    (I : Inv X pins σ H s) (r : Vals vs us) (h : sp vs H Q E0) : wpAny (model X.prog X.w) X.A (call (.ref f) us) (EP X pins σ Q) X.xe s := by
  have hlen : (us ++ []).length = ps.length := by
    rw [List.append_nil, ← r.length]
    exact F.len _ _ _ h
  have hbt := hb s us I.kIn hlen
  rw [List.append_nil] at hbt
  refine wpAny_call (codeAny_mono (F.go hg hr I.env0 hbt r h) ?_)
  intro res s2 hq
  match res, hq with
  | .error _, hq => exact hq.elim
  | .ok (.ret u), hq => exact I.after hq
theorem pe_callG (hg : X.A.guards = some []) (F : FnG X.prog X.w X.K X.mg X.base k f fd ps sp) (hr : Room k X.A) (hgl : Gl X x) (hm : X.mg x = some (.ref f)) (hk : PySem.W.keepIn X.K (.ref f) = true) (hb : Binds X.K fd ps [])
    (ha : PA X (e :: es) t) (he : starEach (e :: es) X.env = (false, eval e X.env) :: starEach es X.env := by rfl) (hpl : (backTo pos (starEach es X.env)).any (·.1) = false := by rfl)
    (hdb : (x == ("__debug__" : Str)) = false := by decide) : PE X (.Call (.Name x p) (e :: es) [] pos) (tCall sp [] E0 t) := by
  constructor
  intro pins s σ H Q I want
  have step : ∀ (us : List Value) (s2 : Shared), AP X pins σ (fun vs H2 => sp (vs ++ []) H2 Q E0) us s2 → X.K.In s2.heap ∧ wpAny (model X.prog X.w) X.A (call (.ref f) us) (EP X pins σ Q) X.xe s2 := by
    rintro us s2 ⟨vs, H2, I2, r2, q2⟩
    rw [List.append_nil] at q2
    exact ⟨I2.kIn, runG hg F hr hb I2 r2 q2⟩
  exact wpAny_Call_Name_kw (ld_glob I hgl hm (PySem.W.callWith_K (h₀ := X.base) I.ok.mod.kin hk (thn (ha.run pos pins s σ H _ I want) step) he hpl) hdb)
end

theorem top_run {P : Program} {w : World} {K : PySem.W.Frag} {mg mb : Str → Option Value} {k : Nat} {fa a : Addr} {fd : FuncData} {x : Str} {sp : Sp} {s : Shared} {vs : List Value} {H : Hp}
    (kin : K.In s.heap) (ng : s.heap.Ns mainGlobals mg) (nb : s.heap.Ns builtinsNs mb) (eb : ∀ y : Str, y ≠ "__name__" → mb y = bootBuiltins y) (nl : s.heap.NoLimit) (gs : s.gens = #[])
    (sa : s.heap.get? a = some { cls := .type "list", data := .seq vs.toArray }) (rm : Room k callerA)
    (F : ∀ base : Heap, K.In base → base.Ns mainGlobals mg → FnG P w K mg base k fa fd [x] sp) (bt : ∀ (s : Shared) (u : Value), BindsTo s fd ⟨[u], []⟩ [(x, u)])
    (only : Only H) (hok : HOk P w H s.heap) (alone : ∀ b, H b ≠ none → b = a) (noK : H a ≠ none → K.lookup a = none) (due : sp [.ref a] H (fun v _ => v = .bl true) E0) :
    codeAny (model P w) callerA (.call (.ref fa) ⟨[.ref a], []⟩) (fun r s' => r = .ok (.ret (.bool true)) ∧ OldK s.heap s'.heap ∧ s'.os = s.os ∧ AllBare s'.gens) s := by
  have isA : ∀ {b : Addr} {u : HO}, H b = some u → b = a := fun {b u} q => alone b (by rw [q]; exact fun z => nomatch z)
  have dictFree : ∀ {b : Addr} {m : Str → Option Value}, s.heap.Ns b m → H b = none := by
    rintro b m ⟨o, es, ep, e, d, _⟩
    cases q : H b with
    | none => rfl
    | some u =>
      have eb := isA q
      subst eb
      rw [sa] at e
      cases e
      cases d
  have still : ∀ {b : Addr} {m : Str → Option Value}, s.heap.Ns b m → (hidT s.heap H).Ns b m := by
    intro b m n
    have fr := dictFree n
    obtain ⟨o, es, ep, e, r⟩ := n
    exact ⟨o, es, ep, hidT_get e fr, r⟩
  have kb : K.In (hidT s.heap H) := by
    intro b o e
    refine hidT_get (kin b o e) ?_
    cases q : H b with
    | none => rfl
    | some u =>
      have eb := isA q
      subst eb
      have z := noK (by rw [q]; exact fun z => nomatch z)
      rw [z] at e
      cases e
  obtain ⟨ml, l1, l2⟩ := nl
  have env : Env0 P w K mg (hidT s.heap H) callerA [] s H :=
    { frames := rfl, mod := ⟨kb, still ng, ⟨mb, still nb, eb⟩, ⟨ml, still l1, l2⟩⟩, bs := fun b o e => of_hidT e, bsz := Nat.le_of_eq (hidT_size _ _), funs := trivial, frf := fun b hb => (nomatch hb), hok := hok, bare := .of_eq gs }
  refine codeAny_mono ((F _ kb (still ng)).go (us := [Value.ref a]) (vs := [V.ref a]) rfl rm env (bt s (.ref a)) (Paired.cons rfl Paired.nil) due) ?_
  intro r s' hq
  match r, hq with
  | .error _, hq => exact hq.elim
  | .ok (.ret u), ⟨v, H', os, bare, un, hok', rv, q⟩ =>
    have q : v = .bl true := q
    subst q
    cases rv
    refine ⟨rfl, OldK.of_keep ?_, os, bare⟩
    intro b o e
    cases qb : H b with
    | none => exact un.keep b o e qb (fun z => nomatch z) (fun z => nomatch z)
    | some u =>
      rcases only b with z | ⟨ob, xs, z⟩
      · rw [qb] at z
        cases z
      · obtain ⟨e1, _⟩ := hok b _ z
        rw [e] at e1
        cases e1
        exact (hok' b _ (un.frzs b o _ z)).1

theorem top_call {P : Program} {w : World} {K : PySem.W.Frag} {mg mb : Str → Option Value} {k : Nat} {fa a : Addr} {fd : FuncData} {x : Str} {sp : Sp} {s : Shared} {vs : List Value} {ns : List Int}
    (kin : K.In s.heap) (ng : s.heap.Ns mainGlobals mg) (nb : s.heap.Ns builtinsNs mb) (eb : ∀ y : Str, y ≠ "__name__" → mb y = bootBuiltins y) (nl : s.heap.NoLimit) (gs : s.gens = #[])
    (sa : s.heap.get? a = some { cls := .type "list", data := .seq vs.toArray }) (ia : IntsAre vs ns) (len : ns.length ≤ sizeLine) (rm : Room k callerA)
    (F : ∀ base : Heap, K.In base → base.Ns mainGlobals mg → FnG P w K mg base k fa fd [x] sp) (bt : ∀ (s : Shared) (u : Value), BindsTo s fd ⟨[u], []⟩ [(x, u)])
    (due : ∀ H : Hp, Only H → SqL K H a (ns.map V.int) → sp [.ref a] H (fun v _ => v = .bl true) E0) :
    codeAny (model P w) callerA (.call (.ref fa) ⟨[.ref a], []⟩) (fun r s' => r = .ok (.ret (.bool true)) ∧ OldK s.heap s'.heap ∧ s'.os = s.os ∧ AllBare s'.gens) s := by
  have rv := vals_ints ia
  cases hk : K.lookup a with
  | some o =>
    have e := kin a o hk
    rw [sa] at e
    cases e
    have on : Only (fun _ => none) := fun _ => .inl rfl
    refine top_run kin ng nb eb nl gs sa rm F bt on (fun b u z => ?_) (fun b z => absurd rfl z) (fun z => absurd rfl z) (due _ on (.inr ⟨_, vs.toArray, _, hk, rfl, rfl, rfl, ?_, ?_⟩))
    · exact nomatch z
    · rw [List.size_toArray, ia.length]
      exact len
    · simpa using rv
  | none =>
    have at_ : (fun b => if b = a then some (HO.frz { cls := .type "list", data := .seq vs.toArray } (.lst (ns.map V.int))) else none) a = some (HO.frz { cls := .type "list", data := .seq vs.toArray } (.lst (ns.map V.int))) := if_pos rfl
    have off : ∀ b, b ≠ a → (fun b => if b = a then some (HO.frz { cls := .type "list", data := .seq vs.toArray } (.lst (ns.map V.int))) else none) b = none := fun b n => if_neg n
    generalize (fun b => if b = a then some (HO.frz { cls := .type "list", data := .seq vs.toArray } (.lst (ns.map V.int))) else none) = H at at_ off
    have on : Only H := fun b => by
      by_cases n : b = a
      · subst n
        exact .inr ⟨_, _, at_⟩
      · exact .inl (off b n)
    refine top_run kin ng nb eb nl gs sa rm F bt on (fun b u z => ?_) (fun b z => ?_) (fun _ => hk) (due _ on (.inl (.inr ⟨_, at_⟩)))
    · by_cases n : b = a
      · subst n
        rw [at_] at z
        cases z
        exact ⟨sa, by rw [List.length_map]; exact len, vs, _, rv, sa⟩
      · rw [off b n] at z
        cases z
    · by_cases n : b = a
      · exact n
      · exact absurd (off b n) z

theorem walk_g {l : PySem.W.OpenLaw} {k : Nat} {q : Program} {loose : List Str} {XP : (Str → Option Value) → Heap → Prop} {YP : World → Heap → Prop} {d : DefRec} {K : Params → PySem.W.Frag} {sp : PySem.W.Frag → Sp} {x : Str}
    (hn : l.most = some 63) (hdf : d.params.defaults = []) (hr : Room k callerA) (hY : ∀ (w : World) (h : Heap), YP w h → (K w.params).In h)
    (F : ∀ (w : World) (mg : Str → Option Value) (fa : Addr) (h : Heap), (K w.params).In h → h.Ns mainGlobals mg → mg d.name = some (.ref fa) →
      ∃ fd : FuncData, (∀ (s : Shared) (u : Value), BindsTo s fd ⟨[u], []⟩ [(x, u)]) ∧ ∀ base : Heap, (K w.params).In base → base.Ns mainGlobals mg → FnG l.prog w (K w.params) mg base k fa fd [x] (sp (K w.params)))
    (due : ∀ (K : PySem.W.Frag) (H : Hp) (a : Addr) (ns : List Int), ns.length ≤ 63 → Only H → SqL K H a (ns.map V.int) → sp K [.ref a] H (fun v _ => v = .bl true) E0) :
    PySem.W.WalkO q loose XP YP l.row.toRowW d [] (fun f vs => PySem.call f vs) := by
  apply Att.attach_call hn hdf
  intro w s0 s1 mg mb fa o pm cd doc a vs ns G Y ho hd hcd hmg ha hi hlen hg
  have kx := hY w _ Y
  obtain ⟨fd, hb, hF⟩ := F w mg fa _ kx G.T.g hmg
  exact top_call kx G.T.g G.T.b G.T.builtins G.T.nolimit hg ha hi (Nat.le_trans hlen (by decide)) hr hF hb fun H hO hS => due _ H a ns hlen hO hS

structure Tx (n k : Nat) (d : PyData) : Prop where
  sh : d.showable = true
  nd : d.hasDict = false
  dp : d.depth ≤ k
  ln : d.shown.length ≤ n
theorem call_repr {X : Cx} {k : Nat} (hg : X.A.guards = some []) (hr : Room k X.A) : CallR X (.builtin "repr") (fun xs H Q => ∃ (x : V) (d : PyData), xs = [x] ∧ Dp X.K H x d ∧ Tx 16777216 60 d ∧ Q (.str d.shown) H) := by
  intro pins s σ H xs us Q I r q
  obtain ⟨x, d, rfl, hd, tx, q⟩ := q
  obtain ⟨u, rfl, rx⟩ := vals1 r
  have hu := hr.units
  have hz : d.shown.length ≤ sizeLine := by
    rw [sizeLine_eq]
    exact tx.ln
  obtain ⟨as, rd⟩ := Dp.reads I d x u hd rx
  have dp := tx.dp
  have big : ∀ a, u = .ref a → wpAny (model X.prog X.w) X.A (call (.builtin "repr") [u]) (EP X pins σ Q) X.xe s := by
    rintro a rfl
    exact repr_of_reads' rd tx.sh (PyData.noDict_hsm tx.nd) hg (by omega) (fun _ _ e => e) (fun h' u tk hk => ⟨.str _, H, I.kept hk, ⟨_, rfl⟩, q⟩) hz
  have sh := tx.sh
  cases rd with
  | none => exact PySem.P.repr_of_none ⟨.str _, H, I.tok _, ⟨_, rfl⟩, by simpa only [PyData.shown_none] using q⟩
  | bool b => exact PySem.P.repr_of_bool ⟨.str _, H, I.tok _, ⟨_, rfl⟩, by simpa only [PyData.shown_bool] using q⟩
  | int i t => exact PySem.P.repr_of_int (by simpa only [PyData.showable, decide_eq_true_eq] using sh) ⟨.str _, H, I.tok _, ⟨_, rfl⟩, by simpa only [PyData.shown_int] using q⟩
  | str z t => exact PySem.P.repr_of_str ⟨.str _, H, I.tok _, ⟨_, rfl⟩, by simpa only [PyData.shown_str] using q⟩ (by simpa only [PyData.shown_str] using hz)
  | list _ _ _ _ => exact big _ rfl
  | tuple _ _ _ _ => exact big _ rfl
  | dict _ _ _ _ _ => exact big _ rfl

theorem showableAll_iff : ∀ ds : List PyData, PyData.showableAll ds = true ↔ ∀ d ∈ ds, d.showable = true
  | [] => by simp [PyData.showableAll]
  | d :: ds => by simp only [PyData.showableAll, Bool.and_eq_true, showableAll_iff ds, List.mem_cons, forall_eq_or_imp]
theorem hasDictAll_iff : ∀ ds : List PyData, PyData.hasDictAll ds = false ↔ ∀ d ∈ ds, d.hasDict = false
  | [] => by simp [PyData.hasDictAll]
  | d :: ds => by simp only [PyData.hasDictAll, Bool.or_eq_false_iff, hasDictAll_iff ds, List.mem_cons, forall_eq_or_imp]
theorem depthAll_le {k : Nat} : ∀ ds : List PyData, (∀ d ∈ ds, d.depth ≤ k) → PyData.depthAll ds ≤ k
  | [], _ => by simp [PyData.depthAll]
  | d :: ds, h => by
    simp only [PyData.depthAll]
    have h1 := h d List.mem_cons_self
    have h2 := depthAll_le ds fun x hx => h x (List.mem_cons_of_mem _ hx)
    exact Nat.max_le.mpr ⟨h1, h2⟩
theorem shownAll_map : ∀ ds : List PyData, PyData.shownAll ds = ds.map PyData.shown
  | [] => by simp [PyData.shownAll]
  | d :: ds => by simp only [PyData.shownAll, shownAll_map ds, List.map_cons]
theorem join_le (n : Nat) : ∀ ts : List Str, (∀ t ∈ ts, t.length ≤ n) → (Str.join ", " ts).length ≤ ts.length * (n + 2)
  | [], _ => Nat.zero_le _
  | t :: r, h => by
    have h1 := join_length_add (t :: r) (by simp)
    have h2 : ∀ us : List Str, (∀ t ∈ us, t.length ≤ n) → piled us ≤ us.length * (n + 2) := by
      intro us
      induction us with
      | nil => intro _; exact Nat.zero_le _
      | cons u us ih =>
        intro hu
        have a := hu u List.mem_cons_self
        have b := ih fun x hx => hu x (List.mem_cons_of_mem _ hx)
        rw [piled_cons, List.length_cons, Nat.succ_mul]
        omega
    have h3 := h2 _ h
    omega
theorem Tx.mono {n m k l : Nat} {d : PyData} (t : Tx n k d) (h : n ≤ m) (h2 : k ≤ l) : Tx m l d := ⟨t.sh, t.nd, Nat.le_trans t.dp h2, Nat.le_trans t.ln h⟩
theorem Tx.int {i : Int} {n : Nat} (h0 : 0 < n) (h1 : n ≤ 500) (h : i.natAbs < 10 ^ n) : Tx (n + 1) 0 (.int i) := by
  refine ⟨?_, by simp only [PyData.hasDict], by simp only [PyData.depth]; exact Nat.le_refl _, ?_⟩
  · simp only [PyData.showable, decide_eq_true_eq]
    have h2 : i.natAbs < 2 ^ 1920 := Nat.lt_of_lt_of_le h (Nat.le_trans (Nat.pow_le_pow_right (by decide) h1) (by decide +kernel))
    by_cases z : i.natAbs = 0
    · rw [z]
      decide
    · exact (Nat.log2_lt z).mpr h2
  · rw [PyData.shown_int]
    have e := PySem.int_text_length_le10 h0 h
    show (Str.ofString (toString i)).length ≤ n + 1
    rw [PySem.ofString_length]
    exact e
theorem Tx.bool {b : Bool} : Tx 5 0 (.bool b) := by
  refine ⟨by simp only [PyData.showable], by simp only [PyData.hasDict], by simp only [PyData.depth]; exact Nat.le_refl _, ?_⟩
  rw [PyData.shown_bool]
  cases b <;> decide +kernel
theorem Tx.none : Tx 4 0 .none := by
  refine ⟨by simp only [PyData.showable], by simp only [PyData.hasDict], by simp only [PyData.depth]; exact Nat.le_refl _, ?_⟩
  rw [PyData.shown_none]
  decide +kernel
theorem Tx.str {x : Str} (h : ∀ c ∈ x.cps.toList, c < 16 ^ 8) : Tx (10 * x.length + 2) 0 (.str x) := by
  refine ⟨by simp only [PyData.showable], by simp only [PyData.hasDict], by simp only [PyData.depth]; exact Nat.le_refl _, ?_⟩
  rw [PyData.shown_str]
  exact StrLaws.reprText_len x h
theorem Tx.list {n k m : Nat} {ds : List PyData} (h : ∀ d ∈ ds, Tx n k d) (hm : ds.length ≤ m) : Tx (m * (n + 2) + 2) (k + 1) (.list ds) := by
  refine ⟨by simp only [PyData.showable]; exact (showableAll_iff ds).mpr fun d hd => (h d hd).sh, by simp only [PyData.hasDict]; exact (hasDictAll_iff ds).mpr fun d hd => (h d hd).nd, ?_, ?_⟩
  · simp only [PyData.depth]
    exact Nat.succ_le_succ (depthAll_le ds fun d hd => (h d hd).dp)
  · rw [PyData.shown_list, strLen_append, strLen_append, shownAll_map]
    have e1 : ((("[" : String) : Str)).length = 1 := rfl
    have e2 : ((("]" : String) : Str)).length = 1 := rfl
    have e3 := join_le n (ds.map PyData.shown) fun t ht => by
      obtain ⟨d, hd, rfl⟩ := List.mem_map.mp ht
      exact (h d hd).ln
    rw [List.length_map] at e3
    have e4 := Nat.mul_le_mul_right (n + 2) hm
    omega
theorem Tx.tuple {n k m : Nat} {ds : List PyData} (h : ∀ d ∈ ds, Tx n k d) (hm : ds.length ≤ m) : Tx (m * (n + 2) + 3) (k + 1) (.tuple ds) := by
  refine ⟨by simp only [PyData.showable]; exact (showableAll_iff ds).mpr fun d hd => (h d hd).sh, by simp only [PyData.hasDict]; exact (hasDictAll_iff ds).mpr fun d hd => (h d hd).nd, ?_, ?_⟩
  · simp only [PyData.depth]
    exact Nat.succ_le_succ (depthAll_le ds fun d hd => (h d hd).dp)
  · rw [PyData.shown_tuple, strLen_append, strLen_append, shownAll_map]
    have e1 : ((("(" : String) : Str)).length = 1 := rfl
    have e2 : (((if ds.length == 1 then ",)" else ")" : String) : Str)).length ≤ 2 := by split <;> decide
    have e3 := join_le n (ds.map PyData.shown) fun t ht => by
      obtain ⟨d, hd, rfl⟩ := List.mem_map.mp ht
      exact (h d hd).ln
    rw [List.length_map] at e3
    have e4 := Nat.mul_le_mul_right (n + 2) hm
    omega

theorem dp_map {α : Type} {K : PySem.W.Frag} {H : Hp} {f : α → V} {g : α → PyData} : ∀ {xs : List α}, (∀ x ∈ xs, Dp K H (f x) (g x)) → DpAll K H (xs.map f) (xs.map g)
  | [], _ => .nil
  | x :: xs, h => .cons (h x List.mem_cons_self) (dp_map fun y hy => h y (List.mem_cons_of_mem _ hy))
theorem dp_ints {K : PySem.W.Frag} {H : Hp} (ns : List Int) : DpAll K H (ns.map V.int) (ns.map PyData.int) := dp_map fun n _ => .int n
def Ev.d : Ev → PyData
  | .line l => .int l
  | .look => .str "look"
  | .rot => .str "rotate"
theorem Ev.tx {e : Ev} {ls : List Int} (h : Ev.ok ls e) (hl : ∀ l ∈ ls, 1 ≤ l ∧ l ≤ 100) : Tx 62 0 e.d := by
  cases e with
  | line l =>
    have := hl l h
    exact (Tx.int (n := 3) (by decide) (by decide) (by omega)).mono (by decide) (Nat.le_refl _)
  | look => exact (Tx.str (x := "look") (by decide +kernel)).mono (by decide) (Nat.le_refl _)
  | rot => exact (Tx.str (x := "rotate") (by decide +kernel)).mono (by decide) (Nat.le_refl _)

theorem all_true (n : Nat) : (List.replicate n true).all id = true := by
  rw [List.all_eq_true]
  intro b hb
  exact (List.mem_replicate.mp hb).2
end My

namespace My
open PySem PySem.Spec PyProof.Rows L2

structure Wd where
  K : PySem.W.Frag
  cl : Str → Addr

inductive D where
  | non
  | bl (b : Bool)
  | int (i : Int)
  | str (x : Str)
  | ty (n : String)
  | cls (n : Str)
  | tup (xs : List D)
  | tpf (xs : List D)
  | lst (xs : List D)
  | scr (ns : List Int)
  | dk (ks : List Key) (vs : List D)
  | dt (ks : List (List Key)) (vs : List D)
  | set (ns : List Int)
  | ins (n : Str) (fs : List Str) (vs : List D)
  | ref (i : Nat)

abbrev Env := List (Option D)
abbrev Store := List D
abbrev EM := Env → Store → Option (D × Store)
abbrev TM := Env → Store → Option (Bool × Store)
abbrev AM := Env → Store → Option (List D × Store)
inductive Out where
  | nx (e : Env)
  | rt (d : D)
  | bk (e : Env)
  | ct (e : Env)
abbrev SM := Env → Store → Option (Out × Store)
abbrev FM := List D → Store → Option (D × Store)

structure Lay where
  c : List Addr
  k : List Addr
def Lay.has (L : Lay) (a : Addr) : Prop := a ∈ L.c ∨ a ∈ L.k
def Lay.hide (L : Lay) (p : Addr) : Lay := ⟨L.c, p :: L.k⟩
def Lay.add (L : Lay) (p : Addr) : Lay := ⟨L.c ++ [p], L.k⟩
def Lay.cut (L : Lay) (n : Nat) : Lay := ⟨L.c.take n, L.k⟩
def FzL (K : PySem.W.Frag) (H : Hp) (a : Addr) (xs : List V) : Prop :=
  (∃ o, H a = some (.frz o (.lst xs))) ∨
    ∃ (o : Obj) (its : Array Value) (n : Nat), K.lookup a = some o ∧ o.cls = .type "list" ∧ o.dict = none ∧ o.data = .seq its n ∧ its.size ≤ sizeLine ∧ Vals xs its.toList
theorem FzL.sq {K : PySem.W.Frag} {H : Hp} {a : Addr} {xs : List V} (h : FzL K H a xs) : SqL K H a xs := h.elim (fun ⟨o, e⟩ => .inl (.inr ⟨o, e⟩)) .inr

mutual
def Rep (W : Wd) (ι : Lay) (H : Hp) : D → V → Prop
  | .non, v => v = .non
  | .bl b, v => v = .bl b
  | .int i, v => v = .int i
  | .str x, v => v = .str x
  | .ty n, v => v = .ty n
  | .cls n, v => v = .ref (W.cl n)
  | .tup ds, v => ∃ a, v = .ref a ∧ ∃ vs, H a = some (.tup vs) ∧ Reps W ι H ds vs
  | .tpf ds, v => ∃ a, v = .ref a ∧ ∃ o vs, (o.cls = .type "tuple" ∧ o.dict = none) ∧ H a = some (.frz o (.tup vs)) ∧ Reps W ι H ds vs
  | .lst ds, v => ∃ a, v = .ref a ∧ ¬ ι.has a ∧ ∃ vs, H a = some (.lst vs) ∧ Reps W ι H ds vs
  | .scr ns, v => ∃ a, v = .ref a ∧ FzL W.K H a (ns.map V.int)
  | .dk ks ds, v => ∃ a, v = .ref a ∧ ¬ ι.has a ∧ ∃ vs, H a = some (.dK (ks.zip vs)) ∧ ks.length = ds.length ∧ Reps W ι H ds vs
  | .dt ks ds, v => ∃ a, v = .ref a ∧ ¬ ι.has a ∧ ∃ vs, H a = some (.dT (ks.zip vs)) ∧ ks.length = ds.length ∧ Reps W ι H ds vs
  | .set ns, v => ∃ a, v = .ref a ∧ ¬ ι.has a ∧ H a = some (.set (fun i => decide (i ∈ ns)) ns.length) ∧ ns.Nodup
  | .ins n fs ds, v => ∃ a, v = .ref a ∧ ¬ ι.has a ∧ ∃ dx vs, H a = some (.ins (W.cl n) dx (fs.zip vs)) ∧ fs.length = ds.length ∧ Reps W ι H ds vs
  | .ref i, v => ∃ a, v = .ref a ∧ ι.c[i]? = some a
def Reps (W : Wd) (ι : Lay) (H : Hp) : List D → List V → Prop
  | [], vs => vs = []
  | d :: ds, vs => ∃ v r, vs = v :: r ∧ Rep W ι H d v ∧ Reps W ι H ds r
end

def CellOk (W : Wd) (ι : Lay) (H : Hp) (a : Addr) : D → Prop
  | .lst ds => ∃ vs, H a = some (.lst vs) ∧ Reps W ι H ds vs
  | .dk ks ds => ∃ vs, H a = some (.dK (ks.zip vs)) ∧ ks.length = ds.length ∧ Reps W ι H ds vs
  | .dt ks ds => ∃ vs, H a = some (.dT (ks.zip vs)) ∧ ks.length = ds.length ∧ Reps W ι H ds vs
  | .set ns => H a = some (.set (fun i => decide (i ∈ ns)) ns.length) ∧ ns.Nodup
  | .ins n fs ds => ∃ dx vs, H a = some (.ins (W.cl n) dx (fs.zip vs)) ∧ fs.length = ds.length ∧ Reps W ι H ds vs
  | _ => False

structure RelH (W : Wd) (ι : Lay) (H : Hp) (st : Store) : Prop where
  len : ι.c.length = st.length
  nd : ι.c.Nodup
  dis : ∀ a ∈ ι.c, a ∉ ι.k
  hidd : ∀ a ∈ ι.k, ∃ o, H a = some o
  cell : ∀ (i : Nat) (c : D), st[i]? = some c → ∃ a, ι.c[i]? = some a ∧ CellOk W ι H a c
structure REnv (W : Wd) (ι : Lay) (H : Hp) (env : Env) (σ : L2.St) : Prop where
  len : env.length = σ.length
  get : ∀ (i : Nat) (d : D), env[i]? = some (some d) → ∃ v, σ[i]? = some (some v) ∧ Rep W ι H d v
structure Gro (ι : Lay) (H : Hp) (ι' : Lay) (H' : Hp) : Prop where
  pre : ∀ (i : Nat) (a : Addr), ι.c[i]? = some a → ι'.c[i]? = some a
  keep : ∀ (a : Addr) (o : HO), (¬ ι.has a ∨ ¬ Mut (some o)) → H a = some o → H' a = some o
  notin : ∀ (a : Addr) (o : HO), ¬ ι.has a → H a = some o → ¬ ι'.has a
structure Grow (ι : Lay) (H : Hp) (ι' : Lay) (H' : Hp) : Prop where
  pre : ∀ (i : Nat) (a : Addr), ι.c[i]? = some a → ι'.c[i]? = some a
  keep : ∀ (a : Addr) (o : HO), (a ∉ ι.c ∨ ¬ Mut (some o)) → H a = some o → H' a = some o
  new : ∀ a ∈ ι'.c, a ∈ ι.c ∨ H a = none
  hid : ι'.k = ι.k

section
variable {W : Wd} {ι ι' ι'' : Lay} {H H' H'' : Hp}
theorem Grow.refl : Grow ι H ι H := ⟨fun _ _ h => h, fun _ _ _ h => h, fun _ h => .inl h, rfl⟩
theorem Grow.gro (g : Grow ι H ι' H') : Gro ι H ι' H' :=
  ⟨g.pre, fun a o n h => g.keep a o (n.imp (fun n m => n (.inl m)) id) h, fun a o n h m => by
    rcases m with m | m
    · rcases g.new a m with z | z
      · exact n (.inl z)
      · rw [h] at z; cases z
    · rw [g.hid] at m
      exact n (.inr m)⟩
theorem Grow.trans (g : Grow ι H ι' H') (k : Grow ι' H' ι'' H'') : Grow ι H ι'' H'' where
  pre := fun i a h => k.pre i a (g.pre i a h)
  keep := fun a o n h => k.keep a o (n.imp (fun n m => by
    rcases g.new a m with z | z
    · exact n z
    · rw [h] at z; cases z) id) (g.keep a o n h)
  new := fun a m => by
    rcases k.new a m with z | z
    · exact g.new a z
    · by_cases q : a ∈ ι.c
      · exact .inl q
      · refine .inr ?_
        cases e : H a with
        | none => rfl
        | some o => rw [g.keep a o (.inl q) e] at z; cases z
  hid := k.hid.trans g.hid
theorem Gro.fzL (g : Gro ι H ι' H') {K : PySem.W.Frag} {a : Addr} {vs : List V} (h : FzL K H a vs) : FzL K H' a vs := by
  rcases h with ⟨o, h⟩ | h
  · exact .inl ⟨o, g.keep _ _ (.inr fun z => z) h⟩
  · exact .inr h
mutual
theorem Rep.gro (g : Gro ι H ι' H') : ∀ (d : D) (v : V), Rep W ι H d v → Rep W ι' H' d v
  | .non, _, h => by simpa only [Rep] using h
  | .bl _, _, h => by simpa only [Rep] using h
  | .int _, _, h => by simpa only [Rep] using h
  | .str _, _, h => by simpa only [Rep] using h
  | .ty _, _, h => by simpa only [Rep] using h
  | .cls _, _, h => by simpa only [Rep] using h
  | .tup ds, v, h => by
    simp only [Rep] at h ⊢
    obtain ⟨a, e, vs, h1, h2⟩ := h
    exact ⟨a, e, vs, g.keep _ _ (.inr fun z => z) h1, Reps.gro g ds vs h2⟩
  | .tpf ds, v, h => by
    simp only [Rep] at h ⊢
    obtain ⟨a, e, o, vs, h0, h1, h2⟩ := h
    exact ⟨a, e, o, vs, h0, g.keep _ _ (.inr fun z => z) h1, Reps.gro g ds vs h2⟩
  | .lst ds, v, h => by
    simp only [Rep] at h ⊢
    obtain ⟨a, e, n, vs, h1, h2⟩ := h
    exact ⟨a, e, g.notin _ _ n h1, vs, g.keep _ _ (.inl n) h1, Reps.gro g ds vs h2⟩
  | .scr ns, v, h => by
    simp only [Rep] at h ⊢
    obtain ⟨a, e, h1⟩ := h
    exact ⟨a, e, g.fzL h1⟩
  | .dk ks ds, v, h => by
    simp only [Rep] at h ⊢
    obtain ⟨a, e, n, vs, h1, l, h2⟩ := h
    exact ⟨a, e, g.notin _ _ n h1, vs, g.keep _ _ (.inl n) h1, l, Reps.gro g ds vs h2⟩
  | .dt ks ds, v, h => by
    simp only [Rep] at h ⊢
    obtain ⟨a, e, n, vs, h1, l, h2⟩ := h
    exact ⟨a, e, g.notin _ _ n h1, vs, g.keep _ _ (.inl n) h1, l, Reps.gro g ds vs h2⟩
  | .set ns, v, h => by
    simp only [Rep] at h ⊢
    obtain ⟨a, e, n, h1, l⟩ := h
    exact ⟨a, e, g.notin _ _ n h1, g.keep _ _ (.inl n) h1, l⟩
  | .ins m fs ds, v, h => by
    simp only [Rep] at h ⊢
    obtain ⟨a, e, n, dx, vs, h1, l, h2⟩ := h
    exact ⟨a, e, g.notin _ _ n h1, dx, vs, g.keep _ _ (.inl n) h1, l, Reps.gro g ds vs h2⟩
  | .ref i, v, h => by
    simp only [Rep] at h ⊢
    obtain ⟨a, e, h1⟩ := h
    exact ⟨a, e, g.pre _ _ h1⟩
theorem Reps.gro (g : Gro ι H ι' H') : ∀ (ds : List D) (vs : List V), Reps W ι H ds vs → Reps W ι' H' ds vs
  | [], _, h => by simpa only [Reps] using h
  | d :: ds, vs, h => by
    simp only [Reps] at h ⊢
    obtain ⟨v, r, e, h1, h2⟩ := h
    exact ⟨v, r, e, Rep.gro g d v h1, Reps.gro g ds r h2⟩
end
theorem Rep.grow (g : Grow ι H ι' H') (d : D) (v : V) (h : Rep W ι H d v) : Rep W ι' H' d v := Rep.gro g.gro d v h
theorem Reps.grow (g : Grow ι H ι' H') (ds : List D) (vs : List V) (h : Reps W ι H ds vs) : Reps W ι' H' ds vs := Reps.gro g.gro ds vs h
theorem Reps.nil : Reps W ι H [] [] := by simp only [Reps]
theorem Reps.cons {d : D} {ds : List D} {v : V} {vs : List V} (h : Rep W ι H d v) (t : Reps W ι H ds vs) : Reps W ι H (d :: ds) (v :: vs) := by
  simp only [Reps]
  exact ⟨v, vs, rfl, h, t⟩
theorem Reps.uncons {d : D} {ds : List D} {vs : List V} (h : Reps W ι H (d :: ds) vs) : ∃ v r, vs = v :: r ∧ Rep W ι H d v ∧ Reps W ι H ds r := by simpa only [Reps] using h
theorem Reps.nil_of {vs : List V} (h : Reps W ι H [] vs) : vs = [] := by simpa only [Reps] using h
theorem Reps.length : ∀ {ds : List D} {vs : List V}, Reps W ι H ds vs → ds.length = vs.length
  | [], _, h => by rw [h.nil_of]; rfl
  | d :: ds, vs, h => by
    obtain ⟨v, r, rfl, _, t⟩ := h.uncons
    simp [Reps.length t]
theorem Reps.get : ∀ {ds : List D} {vs : List V} {i : Nat} {d : D}, Reps W ι H ds vs → ds[i]? = some d → ∃ v, vs[i]? = some v ∧ Rep W ι H d v
  | [], _, i, d, _, e => by simp at e
  | d :: ds, vs, 0, x, h, e => by
    obtain ⟨v, r, rfl, h1, t⟩ := h.uncons
    simp at e
    subst e
    exact ⟨v, rfl, h1⟩
  | d :: ds, vs, i + 1, x, h, e => by
    obtain ⟨v, r, rfl, h1, t⟩ := h.uncons
    obtain ⟨u, h2, h3⟩ := Reps.get (i := i) (d := x) t (by simpa using e)
    exact ⟨u, by simpa using h2, h3⟩
theorem Reps.append : ∀ {ds es : List D} {vs us : List V}, Reps W ι H ds vs → Reps W ι H es us → Reps W ι H (ds ++ es) (vs ++ us)
  | [], _, _, _, h, k => by rw [h.nil_of]; exact k
  | d :: ds, es, vs, us, h, k => by
    obtain ⟨v, r, rfl, h1, t⟩ := h.uncons
    exact Reps.cons h1 (Reps.append t k)
theorem Reps.set {d : D} {v : V} (q : Rep W ι H d v) : ∀ {ds : List D} {vs : List V} (i : Nat), Reps W ι H ds vs → Reps W ι H (ds.set i d) (vs.set i v)
  | [], _, _, h => by rw [h.nil_of]; exact Reps.nil
  | _ :: _, _, 0, h => by
    obtain ⟨v, r, rfl, h1, t⟩ := h.uncons
    exact Reps.cons q t
  | _ :: _, _, i + 1, h => by
    obtain ⟨v, r, rfl, h1, t⟩ := h.uncons
    exact Reps.cons h1 (Reps.set q i t)
theorem Reps.take : ∀ {ds : List D} {vs : List V} (n : Nat), Reps W ι H ds vs → Reps W ι H (ds.take n) (vs.take n)
  | _, _, 0, _ => by simp only [List.take_zero]; exact Reps.nil
  | [], _, n + 1, h => by rw [h.nil_of]; exact Reps.nil
  | _ :: _, _, n + 1, h => by
    obtain ⟨v, r, rfl, h1, t⟩ := h.uncons
    exact Reps.cons h1 (Reps.take n t)
theorem Reps.drop : ∀ {ds : List D} {vs : List V} (n : Nat), Reps W ι H ds vs → Reps W ι H (ds.drop n) (vs.drop n)
  | _, _, 0, h => h
  | [], _, n + 1, h => by rw [h.nil_of]; exact Reps.nil
  | _ :: _, _, n + 1, h => by
    obtain ⟨v, r, rfl, h1, t⟩ := h.uncons
    exact Reps.drop n t
theorem Reps.map {α : Type} {f : α → D} {g : α → V} : ∀ {xs : List α}, (∀ x ∈ xs, Rep W ι H (f x) (g x)) → Reps W ι H (xs.map f) (xs.map g)
  | [], _ => Reps.nil
  | x :: xs, h => Reps.cons (h x List.mem_cons_self) (Reps.map fun y hy => h y (List.mem_cons_of_mem _ hy))
theorem Reps.ints {ns : List Int} {vs : List V} (h : Reps W ι H (ns.map D.int) vs) : vs = ns.map V.int := by
  induction ns generalizing vs with
  | nil => exact h.nil_of
  | cons n ns ih =>
    obtain ⟨v, r, rfl, h1, t⟩ := h.uncons
    simp only [Rep] at h1
    rw [h1, ih t]; rfl
theorem CellOk.there {a : Addr} {c : D} (h : CellOk W ι H a c) : ∃ o, H a = some o ∧ Mut (some o) := by
  cases c with
  | lst ds => obtain ⟨vs, e, _⟩ := h; exact ⟨_, e, trivial⟩
  | dk ks ds => obtain ⟨vs, e, _⟩ := h; exact ⟨_, e, trivial⟩
  | dt ks ds => obtain ⟨vs, e, _⟩ := h; exact ⟨_, e, trivial⟩
  | set ns => exact ⟨_, h.1, trivial⟩
  | ins n fs ds => obtain ⟨dx, vs, e, _⟩ := h; exact ⟨_, e, trivial⟩
  | _ => exact h.elim
theorem CellOk.move {a : Addr} {c : D} (g : Gro ι H ι' H') (e : ∀ o, H a = some o → H' a = some o) (h : CellOk W ι H a c) : CellOk W ι' H' a c := by
  cases c with
  | lst ds => obtain ⟨vs, q, r⟩ := h; exact ⟨vs, e _ q, Reps.gro g _ _ r⟩
  | dk ks ds => obtain ⟨vs, q, l, r⟩ := h; exact ⟨vs, e _ q, l, Reps.gro g _ _ r⟩
  | dt ks ds => obtain ⟨vs, q, l, r⟩ := h; exact ⟨vs, e _ q, l, Reps.gro g _ _ r⟩
  | set ns => exact ⟨e _ h.1, h.2⟩
  | ins n fs ds => obtain ⟨dx, vs, q, l, r⟩ := h; exact ⟨dx, vs, e _ q, l, Reps.gro g _ _ r⟩
  | _ => exact h.elim
theorem RelH.at {st : Store} (r : RelH W ι H st) {i : Nat} {a : Addr} (h : ι.c[i]? = some a) : ∃ c, st[i]? = some c ∧ CellOk W ι H a c := by
  have hi : i < st.length := by rw [← r.len]; exact (List.getElem?_eq_some_iff.mp h).1
  obtain ⟨b, h1, h2⟩ := r.cell i _ (List.getElem?_eq_getElem hi)
  rw [h] at h1
  cases h1
  exact ⟨_, List.getElem?_eq_getElem hi, h2⟩
theorem RelH.mem {st : Store} (r : RelH W ι H st) {a : Addr} (h : a ∈ ι.c) : ∃ o, H a = some o ∧ Mut (some o) := by
  obtain ⟨i, hi, e⟩ := List.mem_iff_getElem.mp h
  obtain ⟨c, _, k⟩ := r.at (List.getElem?_eq_some_iff.mpr ⟨hi, e⟩)
  exact k.there
theorem RelH.notin {st : Store} (r : RelH W ι H st) {p : Addr} (h : H p = none) : p ∉ ι.c := fun m => by
  obtain ⟨o, e, _⟩ := r.mem m
  rw [h] at e; cases e
theorem RelH.free {st : Store} (r : RelH W ι H st) {p : Addr} (h : H p = none) : ¬ ι.has p := fun m => by
  rcases m with m | m
  · exact r.notin h m
  · obtain ⟨o, e⟩ := r.hidd p m
    rw [h] at e; cases e
theorem Grow.laid {p : Addr} {o : HO} (h : H p = none) : Grow ι H ι (upd H p o) :=
  ⟨fun _ _ h => h, fun a u _ e => kp_new h e, fun _ m => .inl m, rfl⟩
theorem RelH.laid {st : Store} (r : RelH W ι H st) {p : Addr} {o : HO} (h : H p = none) : RelH W ι (upd H p o) st :=
  ⟨r.len, r.nd, r.dis, fun a m => by
    obtain ⟨u, e⟩ := r.hidd a m
    exact ⟨u, kp_new h e⟩, fun i c e => by
    obtain ⟨a, h1, h2⟩ := r.cell i c e
    exact ⟨a, h1, h2.move (Grow.laid h).gro fun u q => kp_new h q⟩⟩
theorem Grow.cell {p : Addr} {o : HO} (h : H p = none) : Grow ι H (ι.add p) (upd H p o) :=
  ⟨fun i a e => by
    have := (List.getElem?_eq_some_iff.mp e).1
    show (ι.c ++ [p])[i]? = some a
    rw [List.getElem?_append_left this]; exact e, fun a u _ e => kp_new h e, fun a m => by
    rcases List.mem_append.mp (show a ∈ ι.c ++ [p] from m) with z | z
    · exact .inl z
    · rw [List.mem_singleton.mp z]; exact .inr h, rfl⟩
theorem RelH.new {st : Store} (r : RelH W ι H st) {p : Addr} {o : HO} {c : D} (h : H p = none) (k : CellOk W (ι.add p) (upd H p o) p c) : RelH W (ι.add p) (upd H p o) (st ++ [c]) := by
  refine ⟨by show (ι.c ++ [p]).length = _; simp [r.len], ?_, fun a m => ?_, fun a m => ?_, fun i d e => ?_⟩
  · show (ι.c ++ [p]).Nodup
    rw [List.nodup_append]
    refine ⟨r.nd, by simp, fun a m b mb z => ?_⟩
    rw [List.mem_singleton.mp mb] at z
    exact r.notin h (z ▸ m)
  · rcases List.mem_append.mp (show a ∈ ι.c ++ [p] from m) with z | z
    · exact r.dis a z
    · rw [List.mem_singleton.mp z]
      exact fun q => r.free h (.inr q)
  · obtain ⟨u, e⟩ := r.hidd a m
    exact ⟨u, kp_new h e⟩
  · by_cases hi : i < st.length
    · rw [List.getElem?_append_left hi] at e
      obtain ⟨a, h1, h2⟩ := r.cell i d e
      exact ⟨a, (Grow.cell (o := o) h).pre _ _ h1, h2.move (Grow.cell h).gro fun u q => kp_new h q⟩
    · have : i = st.length := by
        have := (List.getElem?_eq_some_iff.mp e).1
        simp at this; omega
      subst this
      simp at e
      subst e
      exact ⟨p, by rw [← r.len]; show (ι.c ++ [p])[_]? = _; simp, k⟩
theorem Grow.put {i : Nat} {a : Addr} {o u : HO} (h : ι.c[i]? = some a) (ha : H a = some u) (mu : Mut (some u)) : Grow ι H ι (upd H a o) :=
  ⟨fun _ _ h => h, fun b w n e => by
    refine kp_set (fun z => ?_) e
    subst z
    rcases n with n | n
    · exact n (List.mem_of_getElem? h)
    · rw [ha] at e; cases e; exact n mu, fun _ m => .inl m, rfl⟩
theorem RelH.put {st : Store} (r : RelH W ι H st) {i : Nat} {a : Addr} {o : HO} {c : D} (h : ι.c[i]? = some a) (k : CellOk W ι (upd H a o) a c) : RelH W ι (upd H a o) (st.set i c) := by
  obtain ⟨u, hu, mu⟩ := r.mem (List.mem_of_getElem? h)
  refine ⟨by simp [r.len], r.nd, r.dis, fun b m => ?_, fun j d e => ?_⟩
  · obtain ⟨u, e⟩ := r.hidd b m
    exact ⟨u, kp_set (fun z => r.dis a (List.mem_of_getElem? h) (z ▸ m)) e⟩
  by_cases hj : i = j
  · subst hj
    have hi : i < st.length := by rw [← r.len]; exact (List.getElem?_eq_some_iff.mp h).1
    rw [List.getElem?_set_self hi] at e
    cases e
    exact ⟨a, h, k⟩
  · rw [List.getElem?_set_ne hj] at e
    obtain ⟨b, h1, h2⟩ := r.cell j d e
    refine ⟨b, h1, h2.move (Grow.put h hu mu).gro fun w q => kp_set (fun z => hj ?_) q⟩
    subst z
    have h3 := List.getElem?_eq_some_iff.mp h
    have h4 := List.getElem?_eq_some_iff.mp h1
    obtain ⟨l3, e3⟩ := h3
    obtain ⟨l4, e4⟩ := h4
    exact (List.getElem_inj r.nd).mp (e3.trans e4.symm)
theorem Gro.hide {p : Addr} {o : HO} (h : H p = none) : Gro ι H (ι.hide p) (upd H p o) :=
  ⟨fun _ _ h => h, fun a u _ e => kp_new h e, fun a u n e m => by
    rcases m with m | m
    · exact n (.inl m)
    · rcases List.mem_cons.mp m with z | z
      · exact ne_of_none e h z
      · exact n (.inr z)⟩
theorem RelH.hide {st : Store} (r : RelH W ι H st) {p : Addr} {o : HO} (h : H p = none) : RelH W (ι.hide p) (upd H p o) st :=
  ⟨r.len, r.nd, fun a m q => by
    rcases List.mem_cons.mp q with z | z
    · exact r.notin h (z ▸ m)
    · exact r.dis a m z, fun a m => by
    rcases List.mem_cons.mp m with z | z
    · exact ⟨_, by rw [z]; exact upd_same⟩
    · obtain ⟨u, e⟩ := r.hidd a z
      exact ⟨u, kp_new h e⟩, fun i c e => by
    obtain ⟨a, h1, h2⟩ := r.cell i c e
    exact ⟨a, h1, h2.move (Gro.hide h) fun u q => kp_new h q⟩⟩
theorem Gro.over {p : Addr} {o u : HO} (h : p ∈ ι.k) (hp : H p = some u) (mu : Mut (some u)) : Gro ι H ι (upd H p o) :=
  ⟨fun _ _ h => h, fun a w n e => kp_set (fun z => by
    subst z
    rcases n with n | n
    · exact n (.inr h)
    · rw [hp] at e; cases e; exact n mu) e, fun a w n _ => n⟩
theorem RelH.over {st : Store} (r : RelH W ι H st) {p : Addr} {o u : HO} (h : p ∈ ι.k) (hp : H p = some u) (mu : Mut (some u)) : RelH W ι (upd H p o) st :=
  ⟨r.len, r.nd, r.dis, fun a m => by
    by_cases z : a = p
    · exact ⟨o, by rw [z]; exact upd_same⟩
    · obtain ⟨w, e⟩ := r.hidd a m
      exact ⟨w, kp_set z e⟩, fun i c e => by
    obtain ⟨a, h1, h2⟩ := r.cell i c e
    refine ⟨a, h1, h2.move (Gro.over h hp mu) fun w q => kp_set (fun z => ?_) q⟩
    exact r.dis a (List.mem_of_getElem? h1) (z ▸ h)⟩
theorem Gro.show {p : Addr} : Gro (ι.hide p) H ι H :=
  ⟨fun _ _ h => h, fun _ _ _ h => h, fun a u n _ m => n (by
    rcases m with m | m
    · exact .inl m
    · exact .inr (List.mem_cons_of_mem _ m))⟩
theorem RelH.show {st : Store} {p : Addr} (r : RelH W (ι.hide p) H st) : RelH W ι H st :=
  ⟨r.len, r.nd, fun a m q => r.dis a m (List.mem_cons_of_mem _ q), fun a m => r.hidd a (List.mem_cons_of_mem _ m), fun i c e => by
    obtain ⟨a, h1, h2⟩ := r.cell i c e
    exact ⟨a, h1, h2.move Gro.show fun u q => q⟩⟩
theorem REnv.gro {env : Env} {σ : L2.St} (r : REnv W ι H env σ) (g : Gro ι H ι' H') : REnv W ι' H' env σ :=
  ⟨r.len, fun i d e => by
    obtain ⟨v, h1, h2⟩ := r.get i d e
    exact ⟨v, h1, Rep.gro g d v h2⟩⟩
theorem REnv.grow {env : Env} {σ : L2.St} (r : REnv W ι H env σ) (g : Grow ι H ι' H') : REnv W ι' H' env σ :=
  ⟨r.len, fun i d e => by
    obtain ⟨v, h1, h2⟩ := r.get i d e
    exact ⟨v, h1, Rep.grow g d v h2⟩⟩
theorem REnv.set {env : Env} {σ : L2.St} (r : REnv W ι H env σ) (i : Nat) {d : D} {v : V} (h : Rep W ι H d v) : REnv W ι H (env.set i (some d)) (σ.set i (some v)) := by
  refine ⟨by simp [r.len], fun j e q => ?_⟩
  by_cases hj : i = j
  · subst hj
    by_cases hi : i < env.length
    · rw [List.getElem?_set_self hi] at q
      cases q
      exact ⟨v, by rw [List.getElem?_set_self (by rw [← r.len]; exact hi)], h⟩
    · rw [List.getElem?_eq_none (by simpa using hi)] at q
      cases q
  · rw [List.getElem?_set_ne hj] at q
    obtain ⟨u, h1, h2⟩ := r.get j e q
    exact ⟨u, by rw [List.getElem?_set_ne hj]; exact h1, h2⟩
theorem REnv.unset {env : Env} {σ : L2.St} (r : REnv W ι H env σ) (i : Nat) : REnv W ι H (env.set i none) (σ.set i none) := by
  refine ⟨by simp [r.len], fun j e q => ?_⟩
  by_cases hj : i = j
  · subst hj
    by_cases hi : i < env.length
    · rw [List.getElem?_set_self hi] at q
      cases q
    · rw [List.getElem?_eq_none (by simpa using hi)] at q
      cases q
  · rw [List.getElem?_set_ne hj] at q
    obtain ⟨u, h1, h2⟩ := r.get j e q
    exact ⟨u, by rw [List.getElem?_set_ne hj]; exact h1, h2⟩
def wipeE (env : Env) : List Nat → Env
  | [] => env
  | v :: vs => (wipeE env vs).set v none
theorem REnv.wipe {env : Env} {σ : L2.St} (r : REnv W ι H env σ) : ∀ vs : List Nat, REnv W ι H (wipeE env vs) (L2.wipe σ vs)
  | [] => r
  | v :: vs => (REnv.wipe r vs).unset v

def OkE (W : Wd) (ι : Lay) (H : Hp) (d : D) (st' : Store) (Q : VK) : Prop := ∀ v ι' H', Grow ι H ι' H' → RelH W ι' H' st' → Rep W ι' H' d v → Q v H'
def OkB (W : Wd) (ι : Lay) (H : Hp) (b : Bool) (st' : Store) (Q : Bool → Hp → Prop) : Prop := ∀ ι' H', Grow ι H ι' H' → RelH W ι' H' st' → Q b H'
def OkA (W : Wd) (ι : Lay) (H : Hp) (ds : List D) (st' : Store) (Q : List V → Hp → Prop) : Prop := ∀ vs ι' H', Grow ι H ι' H' → RelH W ι' H' st' → Reps W ι' H' ds vs → Q vs H'
def OkN (W : Wd) (ι : Lay) (H : Hp) (env : Env) (st' : Store) (Q : L2.St → Hp → Prop) : Prop := ∀ σ' ι' H', Grow ι H ι' H' → RelH W ι' H' st' → REnv W ι' H' env σ' → Q σ' H'
def OkS (W : Wd) (ι : Lay) (H : Hp) (o : Out) (st' : Store) (D : Ends) : Prop :=
  match o with
  | .nx e => OkN W ι H e st' D.nx
  | .rt d => OkE W ι H d st' D.rt
  | .bk e => OkN W ι H e st' D.bk
  | .ct e => OkN W ι H e st' D.ct
theorem OkE.go {d : D} {st : Store} {Q : VK} (k : OkE W ι H d st Q) (g : Grow ι H ι' H') : OkE W ι' H' d st Q := fun v ι2 H2 g2 => k v ι2 H2 (g.trans g2)
theorem OkB.go {d : Bool} {st : Store} {Q : Bool → Hp → Prop} (k : OkB W ι H d st Q) (g : Grow ι H ι' H') : OkB W ι' H' d st Q := fun ι2 H2 g2 => k ι2 H2 (g.trans g2)
theorem OkA.go {d : List D} {st : Store} {Q : List V → Hp → Prop} (k : OkA W ι H d st Q) (g : Grow ι H ι' H') : OkA W ι' H' d st Q := fun v ι2 H2 g2 => k v ι2 H2 (g.trans g2)
theorem OkN.go {d : Env} {st : Store} {Q : L2.St → Hp → Prop} (k : OkN W ι H d st Q) (g : Grow ι H ι' H') : OkN W ι' H' d st Q := fun v ι2 H2 g2 => k v ι2 H2 (g.trans g2)
theorem OkS.go {o : Out} {st : Store} {D : Ends} (k : OkS W ι H o st D) (g : Grow ι H ι' H') : OkS W ι' H' o st D := by
  cases o with
  | nx e => exact OkN.go (d := e) k g
  | rt d => exact OkE.go (d := d) k g
  | bk e => exact OkN.go (d := e) k g
  | ct e => exact OkN.go (d := e) k g
theorem OkE.now {d : D} {st : Store} {Q : VK} {v : V} (k : OkE W ι H d st Q) (r : RelH W ι H st) (h : Rep W ι H d v) : Q v H := k v ι H Grow.refl r h
theorem OkE.tup {ds : List D} {vs : List V} {st : Store} {Q : VK} {p : Addr} (k : OkE W ι H (.tup ds) st Q) (r : RelH W ι H st) (h : Reps W ι H ds vs) (hp : H p = none) : Q (.ref p) (upd H p (.tup vs)) :=
  k _ ι _ (Grow.laid hp) (r.laid hp) (by simp only [Rep]; exact ⟨p, rfl, vs, upd_same, Reps.grow (Grow.laid hp) _ _ h⟩)
theorem OkE.tpf {ds : List D} {vs : List V} {st : Store} {Q : VK} {p : Addr} {o : Obj} (k : OkE W ι H (.tpf ds) st Q) (r : RelH W ι H st) (h : Reps W ι H ds vs) (hp : H p = none) (ho : o.cls = .type "tuple" ∧ o.dict = none) : Q (.ref p) (upd H p (.frz o (.tup vs))) :=
  k _ ι _ (Grow.laid hp) (r.laid hp) (by simp only [Rep]; exact ⟨p, rfl, o, vs, ho, upd_same, Reps.grow (Grow.laid hp) _ _ h⟩)
theorem OkE.lst {ds : List D} {vs : List V} {st : Store} {Q : VK} {p : Addr} (k : OkE W ι H (.lst ds) st Q) (r : RelH W ι H st) (h : Reps W ι H ds vs) (hp : H p = none) : Q (.ref p) (upd H p (.lst vs)) :=
  k _ ι _ (Grow.laid hp) (r.laid hp) (by simp only [Rep]; exact ⟨p, rfl, r.free hp, vs, upd_same, Reps.grow (Grow.laid hp) _ _ h⟩)
theorem OkE.lstM {ds : List D} {vs : List V} {st : Store} {Q : VK} {p : Addr} (k : OkE W ι H (.ref st.length) (st ++ [.lst ds]) Q) (r : RelH W ι H st) (h : Reps W ι H ds vs) (hp : H p = none) : Q (.ref p) (upd H p (.lst vs)) :=
  k _ (ι.add p) _ (Grow.cell hp) (r.new hp ⟨vs, upd_same, Reps.grow (Grow.cell hp) _ _ h⟩) (by simp only [Rep]; exact ⟨p, rfl, by rw [← r.len]; show (ι.c ++ [p])[_]? = _; simp⟩)
end

def T (W : Wd) (m : EM) : TE := fun σ H Q => ∃ ι st env d st', RelH W ι H st ∧ REnv W ι H env σ ∧ m env st = some (d, st') ∧ OkE W ι H d st' Q
def TB (W : Wd) (m : TM) : TT := fun σ H Q => ∃ ι st env d st', RelH W ι H st ∧ REnv W ι H env σ ∧ m env st = some (d, st') ∧ OkB W ι H d st' Q
def TAs (W : Wd) (m : AM) : TA := fun σ H Q => ∃ ι st env d st', RelH W ι H st ∧ REnv W ι H env σ ∧ m env st = some (d, st') ∧ OkA W ι H d st' Q
def TSt (W : Wd) (m : SM) : TS := fun D σ H => ∃ ι st env o st', RelH W ι H st ∧ REnv W ι H env σ ∧ m env st = some (o, st') ∧ OkS W ι H o st' D
section
variable {X : Cx} {e : Expr} {es : List Expr} {st : Stmt} {ss : List Stmt}
theorem _root_.L2.PE.imp {t t' : TE} (h : PE X e t) (k : ∀ σ H Q, t' σ H Q → t σ H Q) : PE X e t' := ⟨fun p s σ H Q I q => h.run p s σ H Q I (k _ _ _ q)⟩
theorem _root_.L2.PT.imp {t t' : TT} (h : PT X e t) (k : ∀ σ H Q, t' σ H Q → t σ H Q) : PT X e t' := ⟨fun p s σ H Q I q => h.run p s σ H Q I (k _ _ _ q)⟩
theorem _root_.L2.PW.imp {t t' : TT} (h : PW X e t) (k : ∀ σ H Q, t' σ H Q → t σ H Q) : PW X e t' := ⟨fun w p s σ H Q I q => h.run w p s σ H Q I (k _ _ _ q)⟩
theorem _root_.L2.PA.imp {t t' : TA} (h : PA X es t) (k : ∀ σ H Q, t' σ H Q → t σ H Q) : PA X es t' := ⟨fun w p s σ H Q I q => h.run w p s σ H Q I (k _ _ _ q)⟩
theorem _root_.L2.PS.imp {t t' : TS} (h : PS X st t) (k : ∀ D σ H, t' D σ H → t D σ H) : PS X st t' := ⟨fun p s σ H D I q => h.run p s σ H D I (k _ _ _ q)⟩
theorem _root_.L2.PSs.imp {t t' : TS} (h : PSs X ss t) (k : ∀ D σ H, t' D σ H → t D σ H) : PSs X ss t' := ⟨fun p s σ H D I q => h.run p s σ H D I (k _ _ _ q)⟩
theorem _root_.L2.PI.imp {tg iter : Expr} {t t' : TI} (h : PI X tg iter t) (k : ∀ σ H R, t' σ H R → t σ H R) : PI X tg iter t' := ⟨fun p s σ H R I q => h.run p s σ H R I (k _ _ _ q)⟩
theorem _root_.L2.PG.imp {tg : Expr} {t t' : TG} (h : PG X tg t) (k : ∀ v σ H Q, t' v σ H Q → t v σ H Q) : PG X tg t' := by
  obtain ⟨r⟩ := h
  constructor
  intros
  first | (apply r <;> first | assumption | exact k _ _ _ _ ‹_›)
end
end My

namespace My
open PySem L2

section
variable {X : Cx} {K : PySem.W.Frag}
end
end My

namespace My
open PySem PySem.Spec PyProof.Rows L2

theorem mul_self (l : Addr) (its : Array Value) (n : Nat) (dd : Option Addr) (sl : Array (Option Value)) (u : Tok) :
    Meets (Builtin.«tuple.__mul__» ⟨[.ref l, .int 1 u], []⟩) (fun _ R s => s.heap.get? l = some { cls := .type "tuple", dict := dd, data := .seq its n, slots := sl } ∧ R (.ok (.ret (Value.ref l))) s) :=
  .of_wp fun prog w A R s h => by
    obtain ⟨hp, g, d, tk, os⟩ := s
    obtain ⟨hl, h⟩ := h
    have f1 := AutoSeq1.idx_int
    wp_walk using wpAny_loadPart' hl
    repeat (first
      | (refine wpAny_ite_false (by decide) ?_; wp_walk using wpAny_loadPart' hl)
      | (refine wpAny_ite_true (by simp) ?_; wp_walk using wpAny_loadPart' hl))
    exact ⟨_, rfl, h⟩
theorem mul_none (l : Addr) (its : Array Value) (n : Nat) (dd : Option Addr) (sl : Array (Option Value)) (x : Int) (u : Tok) (h0 : x ≤ 0) (h1 : -(2 ^ 63) ≤ x) (hne : its.isEmpty = false) :
    Meets (Builtin.«tuple.__mul__» ⟨[.ref l, .int x u], []⟩) (fun _ R s => s.heap.get? l = some { cls := .type "tuple", dict := dd, data := .seq its n, slots := sl } ∧
      R (.ok (.ret (Value.ref s.heap.objs.size))) { s with heap := s.heap.push { cls := Value.type "tuple", data := Data.seq #[] }, toks := s.toks }) :=
  .of_wp fun prog w A R s h => by
    obtain ⟨hp, g, d, tk, os⟩ := s
    obtain ⟨hl, h⟩ := h
    have f1 := AutoSeq1.idx_int
    have c0 : (decide (x < -(2 ^ 63)) || decide (x ≥ 2 ^ 63)) = false := by
      rw [decide_eq_false (by omega), decide_eq_false (by omega)] <;> rfl
    have c1 : (its.isEmpty || x == 1) = false := by
      rw [hne, Bool.false_or]
      exact beq_eq_false_iff_ne.mpr (by omega)
    have c2 : (decide (x ≤ 0) || its.isEmpty) = true := by rw [decide_eq_true h0]; rfl
    wp_walk using wpAny_loadPart' hl
    repeat (first
      | (refine wpAny_ite_false (decide_eq_false (by rw [c0]; decide)) ?_; wp_walk using wpAny_loadPart' hl)
      | (refine wpAny_ite_false (decide_eq_false (by rw [c1]; decide)) ?_; wp_walk using wpAny_loadPart' hl)
      | (refine wpAny_ite_true (decide_eq_true c2) ?_; wp_walk using wpAny_loadPart' hl))
    exact ⟨_, rfl, h⟩

def rRepA : R2 := fun x y H Q => ∃ a k xs, x = .ref a ∧ y = .int k ∧ H a = some (.tup xs) ∧ xs ≠ [] ∧ -(2 ^ 63) ≤ k ∧ k ≤ 1000 ∧ xs.length ≤ 1000 ∧
  ∀ p H', Same H H' → H' p = some (.tup (List.replicate k.toNat xs).flatten) → Q (.ref p) H'
theorem op_repA {X : Cx} : OpR X (binaryOp .Mult) rRepA := by
  intro pins s σ H x y v u Q I rx ry h
  obtain ⟨a, k, xs, rfl, rfl, ht, ne, k0, k1, lx, q⟩ := h
  by_cases h2 : 2 ≤ k
  · exact op_repT pins s σ H _ _ v u Q I rx ry ⟨a, k, xs, rfl, rfl, SqT.of ht, ne, h2, k1, lx, fun p hp => q p _ (same_new hp) upd_same⟩
  cases rx
  obtain ⟨tk, rfl⟩ := ry
  obtain ⟨zs, rz, ⟨⟨c1, c2, c3, c4⟩, g, e1, m, e2⟩, g2⟩ := I.tuple (SqT.of ht)
  simp only at e1 e2
  subst e1 e2
  have zl : zs.length = xs.length := rz.length.symm
  have zn : zs ≠ [] := fun e => by
    rw [e] at zl
    exact ne (List.length_eq_zero_iff.mp zl.symm)
  have ze : zs.toArray.isEmpty = false := by
    cases zs with
    | nil => exact absurd rfl zn
    | cons z r => rfl
  by_cases h1 : k = 1
  · subst h1
    refine wpAny_binaryOp_repeat_ref (T := "tuple") (U := "int") (by decide) ⟨_, g, rfl⟩ (fun z => typeIs_int z 1 tk) noFill_tuple_mul F.fills_int_mul F.slot_int_rmul repeat_tuple F.slot_int_index.lookup ?_
    refine call_meets F.slot_int_rmul (typeIs_int s 1 tk) F.entry_int_rmul (F.args_int_rmul_2 _ _) (int_rmul_tuple 1 tk a zs.toArray m c2 c4) ⟨g, rfl, ⟨_, g, rfl⟩, ?_⟩
    refine call_meets F.slot_tuple_mul ⟨_, g, rfl⟩ F.entry_tuple_mul (F.args_tuple_mul_2 _ _) (mul_self a zs.toArray m c2 c4 tk) ⟨g, ?_⟩
    exact ⟨.ref a, H, I, rfl, q a H (Same.refl H) (by simpa using ht)⟩
  · have hk0 : k ≤ 0 := by omega
    refine wpAny_binaryOp_repeat_ref (T := "tuple") (U := "int") (by decide) ⟨_, g, rfl⟩ (fun z => typeIs_int z k tk) noFill_tuple_mul F.fills_int_mul F.slot_int_rmul repeat_tuple F.slot_int_index.lookup ?_
    refine call_meets F.slot_int_rmul (typeIs_int s k tk) F.entry_int_rmul (F.args_int_rmul_2 _ _) (int_rmul_tuple k tk a zs.toArray m c2 c4) ⟨g, rfl, ⟨_, g, rfl⟩, ?_⟩
    refine call_meets F.slot_tuple_mul ⟨_, g, rfl⟩ F.entry_tuple_mul (F.args_tuple_mul_2 _ _) (mul_none a zs.toArray m c2 c4 k tk hk0 k0 ze) ⟨g, ?_⟩
    have kz : k.toNat = 0 := by omega
    rw [kz] at q
    exact ⟨.ref s.heap.objs.size, _, I.laid (t' := s.toks) (o := .tup []) (fun _ _ e => Heap.get?_push_of_some _ e) (Nat.le_refl _) ⟨Nat.zero_le _, [], .nil, IsTup.new _ _⟩, rfl, q _ _ (same_new (I.hok.fresh (Nat.le_refl _))) upd_same⟩
end My

namespace My
open PySem PySem.Spec PyProof.Rows L2

def seqL (st : Store) : D → Option (List D)
  | .lst xs => some xs
  | .ref i => match st[i]? with
    | some (.lst xs) => some xs
    | _ => none
  | _ => none
def seqT : D → Option (List D)
  | .tup xs => some xs
  | _ => none
def seqA (st : Store) : D → Option (List D)
  | .tup xs => some xs
  | .tpf xs => some xs
  | .scr ns => some (ns.map .int)
  | d => seqL st d
def dicK (st : Store) : D → Option (List Key × List D)
  | .dk ks vs => some (ks, vs)
  | .ref i => match st[i]? with
    | some (.dk ks vs) => some (ks, vs)
    | _ => none
  | _ => none
def dicT (st : Store) : D → Option (List (List Key) × List D)
  | .dt ks vs => some (ks, vs)
  | .ref i => match st[i]? with
    | some (.dt ks vs) => some (ks, vs)
    | _ => none
  | _ => none
def insA (st : Store) : D → Option (Str × List Str × List D)
  | .ins n fs vs => some (n, fs, vs)
  | .ref i => match st[i]? with
    | some (.ins n fs vs) => some (n, fs, vs)
    | _ => none
  | _ => none
section
variable {W : Wd} {ι : Lay} {H : Hp} {st : Store} {d : D} {v : V}
theorem rep_ref {i : Nat} (r : RelH W ι H st) (h : Rep W ι H (.ref i) v) : ∃ a c, v = .ref a ∧ ι.c[i]? = some a ∧ st[i]? = some c ∧ CellOk W ι H a c := by
  simp only [Rep] at h
  obtain ⟨a, e, h⟩ := h
  obtain ⟨c, h1, h2⟩ := r.at h
  exact ⟨a, c, e, h, h1, h2⟩
theorem seqL_ok {xs : List D} (r : RelH W ι H st) (h : Rep W ι H d v) (e : seqL st d = some xs) : ∃ a vs, v = .ref a ∧ H a = some (.lst vs) ∧ Reps W ι H xs vs := by
  unfold seqL at e
  split at e
  · cases e
    simp only [Rep] at h
    obtain ⟨a, e, _, vs, h1, h2⟩ := h
    exact ⟨a, vs, e, h1, h2⟩
  · obtain ⟨a, c, e1, _, h1, h2⟩ := rep_ref r h
    rw [h1] at e
    split at e
    · rename_i q
      cases e
      cases q
      obtain ⟨vs, h3, h4⟩ := h2
      exact ⟨a, vs, e1, h3, h4⟩
    · cases e
  · cases e
theorem seqT_ok {xs : List D} (h : Rep W ι H d v) (e : seqT d = some xs) : ∃ a vs, v = .ref a ∧ H a = some (.tup vs) ∧ Reps W ι H xs vs := by
  unfold seqT at e
  split at e
  · cases e
    simp only [Rep] at h
    obtain ⟨a, e, vs, h1, h2⟩ := h
    exact ⟨a, vs, e, h1, h2⟩
  · cases e
theorem seqA_ok {xs : List D} (r : RelH W ι H st) (h : Rep W ι H d v) (e : seqA st d = some xs) : ∃ a vs, v = .ref a ∧ (SqL W.K H a vs ∨ SqT W.K H a vs) ∧ Reps W ι H xs vs := by
  unfold seqA at e
  split at e
  · cases e
    simp only [Rep] at h
    obtain ⟨a, e, vs, h1, h2⟩ := h
    exact ⟨a, vs, e, .inr (SqT.of h1), h2⟩
  · cases e
    simp only [Rep] at h
    obtain ⟨a, e, o, vs, _, h1, h2⟩ := h
    exact ⟨a, vs, e, .inr (.inl (.inr ⟨o, h1⟩)), h2⟩
  · cases e
    simp only [Rep] at h
    obtain ⟨a, e, h1⟩ := h
    exact ⟨a, _, e, .inl h1.sq, Reps.map fun x _ => by simp only [Rep]⟩
  · obtain ⟨a, vs, h1, h2, h3⟩ := seqL_ok r h e
    exact ⟨a, vs, h1, .inl (SqL.of h2), h3⟩
def isTpf : D → Bool
  | .tpf _ => true
  | _ => false
theorem tpf_ok {xs : List D} (h : Rep W ι H (.tpf xs) v) : ∃ a o vs, v = .ref a ∧ (o.cls = .type "tuple" ∧ o.dict = none) ∧ H a = some (.frz o (.tup vs)) ∧ SqT W.K H a vs ∧ Reps W ι H xs vs := by
  simp only [Rep] at h
  obtain ⟨a, e, o, vs, h0, h1, h2⟩ := h
  exact ⟨a, o, vs, e, h0, h1, .inl (.inr ⟨o, h1⟩), h2⟩
theorem seqA_list {xs : List D} (r : RelH W ι H st) (h : Rep W ι H d v) (e : seqA st d = some xs) (n : seqT d = none) (n2 : isTpf d = false) : ∃ a vs, v = .ref a ∧ SqL W.K H a vs ∧ Reps W ι H xs vs := by
  unfold seqA at e
  split at e
  · cases n
  · cases n2
  · cases e
    simp only [Rep] at h
    obtain ⟨a, e, h1⟩ := h
    exact ⟨a, _, e, h1.sq, Reps.map fun x _ => by simp only [Rep]⟩
  · obtain ⟨a, vs, h1, h2, h3⟩ := seqL_ok r h e
    exact ⟨a, vs, h1, SqL.of h2, h3⟩
theorem dicK_ok {ks : List Key} {ds : List D} (r : RelH W ι H st) (h : Rep W ι H d v) (e : dicK st d = some (ks, ds)) : ∃ a vs, v = .ref a ∧ H a = some (.dK (ks.zip vs)) ∧ ks.length = ds.length ∧ Reps W ι H ds vs := by
  unfold dicK at e
  split at e
  · cases e
    simp only [Rep] at h
    obtain ⟨a, e, _, vs, h1, h2⟩ := h
    exact ⟨a, vs, e, h1, h2⟩
  · obtain ⟨a, c, e1, _, h1, h2⟩ := rep_ref r h
    rw [h1] at e
    split at e
    · rename_i q
      cases e
      cases q
      obtain ⟨vs, h3, h4⟩ := h2
      exact ⟨a, vs, e1, h3, h4⟩
    · cases e
  · cases e
theorem dicT_ok {ks : List (List Key)} {ds : List D} (r : RelH W ι H st) (h : Rep W ι H d v) (e : dicT st d = some (ks, ds)) : ∃ a vs, v = .ref a ∧ H a = some (.dT (ks.zip vs)) ∧ ks.length = ds.length ∧ Reps W ι H ds vs := by
  unfold dicT at e
  split at e
  · cases e
    simp only [Rep] at h
    obtain ⟨a, e, _, vs, h1, h2⟩ := h
    exact ⟨a, vs, e, h1, h2⟩
  · obtain ⟨a, c, e1, _, h1, h2⟩ := rep_ref r h
    rw [h1] at e
    split at e
    · rename_i q
      cases e
      cases q
      obtain ⟨vs, h3, h4⟩ := h2
      exact ⟨a, vs, e1, h3, h4⟩
    · cases e
  · cases e
end

mutual
def fz (lk : Nat → Option D) : D → Option D
  | .tup ds => (fzs lk ds).map .tup
  | .tpf ds => (fzs lk ds).map .tpf
  | .lst ds => (fzs lk ds).map .lst
  | .dk ks ds => (fzs lk ds).map (.dk ks)
  | .dt ks ds => (fzs lk ds).map (.dt ks)
  | .ins n fs ds => (fzs lk ds).map (.ins n fs)
  | .ref i => lk i
  | d => some d
def fzs (lk : Nat → Option D) : List D → Option (List D)
  | [] => some []
  | d :: ds => match fz lk d with
    | some d' => (fzs lk ds).map (d' :: ·)
    | none => none
end
def lkc (st : Store) (n : Nat) : Nat → Nat → Option D
  | 0, i => if i < n then some (.ref i) else none
  | k + 1, i => if i < n then some (.ref i) else match st[i]? with
    | some (.lst ds) => (fzs (lkc st n k) ds).map .lst
    | some (.dk ks ds) => (fzs (lkc st n k) ds).map (.dk ks)
    | some (.dt ks ds) => (fzs (lkc st n k) ds).map (.dt ks)
    | some (.set ns) => some (.set ns)
    | some (.ins m fs ds) => (fzs (lkc st n k) ds).map (.ins m fs)
    | _ => none
def view (st : Store) (d : D) : Option D := fz (lkc st 0 4) d
section
variable {W : Wd} {ι ι' : Lay} {H : Hp} {st : Store}
mutual
theorem fz_ok {lk : Nat → Option D} (hs : ∀ a, ι'.has a → ι.has a) (hl : ∀ i a d', ι.c[i]? = some a → lk i = some d' → Rep W ι' H d' (.ref a)) : ∀ (d d' : D) (v : V), fz lk d = some d' → Rep W ι H d v → Rep W ι' H d' v
  | .non, _, _, e, h => by simp only [fz] at e; cases e; simpa only [Rep] using h
  | .bl _, _, _, e, h => by simp only [fz] at e; cases e; simpa only [Rep] using h
  | .int _, _, _, e, h => by simp only [fz] at e; cases e; simpa only [Rep] using h
  | .str _, _, _, e, h => by simp only [fz] at e; cases e; simpa only [Rep] using h
  | .ty _, _, _, e, h => by simp only [fz] at e; cases e; simpa only [Rep] using h
  | .cls _, _, _, e, h => by simp only [fz] at e; cases e; simpa only [Rep] using h
  | .scr _, _, _, e, h => by simp only [fz] at e; cases e; simpa only [Rep] using h
  | .set _, _, _, e, h => by
    simp only [fz] at e
    cases e
    simp only [Rep] at h ⊢
    obtain ⟨a, e, n, h1⟩ := h
    exact ⟨a, e, fun m => n (hs a m), h1⟩
  | .ref i, _, _, e, h => by
    simp only [fz] at e
    simp only [Rep] at h
    obtain ⟨a, rfl, h1⟩ := h
    exact hl i a _ h1 e
  | .tup ds, _, _, e, h => by
    simp only [fz, Option.map_eq_some_iff] at e
    obtain ⟨es, e1, rfl⟩ := e
    simp only [Rep] at h ⊢
    obtain ⟨a, e, vs, h1, h2⟩ := h
    exact ⟨a, e, vs, h1, fzs_ok hs hl ds es vs e1 h2⟩
  | .tpf ds, _, _, e, h => by
    simp only [fz, Option.map_eq_some_iff] at e
    obtain ⟨es, e1, rfl⟩ := e
    simp only [Rep] at h ⊢
    obtain ⟨a, e, o, vs, h0, h1, h2⟩ := h
    exact ⟨a, e, o, vs, h0, h1, fzs_ok hs hl ds es vs e1 h2⟩
  | .lst ds, _, _, e, h => by
    simp only [fz, Option.map_eq_some_iff] at e
    obtain ⟨es, e1, rfl⟩ := e
    simp only [Rep] at h ⊢
    obtain ⟨a, e, n, vs, h1, h2⟩ := h
    exact ⟨a, e, fun m => n (hs a m), vs, h1, fzs_ok hs hl ds es vs e1 h2⟩
  | .dk ks ds, _, _, e, h => by
    simp only [fz, Option.map_eq_some_iff] at e
    obtain ⟨es, e1, rfl⟩ := e
    simp only [Rep] at h ⊢
    obtain ⟨a, e, n, vs, h1, l, h2⟩ := h
    have h3 := fzs_ok hs hl ds es vs e1 h2
    exact ⟨a, e, fun m => n (hs a m), vs, h1, by rw [l, h2.length, h3.length], h3⟩
  | .dt ks ds, _, _, e, h => by
    simp only [fz, Option.map_eq_some_iff] at e
    obtain ⟨es, e1, rfl⟩ := e
    simp only [Rep] at h ⊢
    obtain ⟨a, e, n, vs, h1, l, h2⟩ := h
    have h3 := fzs_ok hs hl ds es vs e1 h2
    exact ⟨a, e, fun m => n (hs a m), vs, h1, by rw [l, h2.length, h3.length], h3⟩
  | .ins m fs ds, _, _, e, h => by
    simp only [fz, Option.map_eq_some_iff] at e
    obtain ⟨es, e1, rfl⟩ := e
    simp only [Rep] at h ⊢
    obtain ⟨a, e, n, dx, vs, h1, l, h2⟩ := h
    have h3 := fzs_ok hs hl ds es vs e1 h2
    exact ⟨a, e, fun m => n (hs a m), dx, vs, h1, by rw [l, h2.length, h3.length], h3⟩
theorem fzs_ok {lk : Nat → Option D} (hs : ∀ a, ι'.has a → ι.has a) (hl : ∀ i a d', ι.c[i]? = some a → lk i = some d' → Rep W ι' H d' (.ref a)) : ∀ (ds es : List D) (vs : List V), fzs lk ds = some es → Reps W ι H ds vs → Reps W ι' H es vs
  | [], _, _, e, h => by simp only [fzs] at e; cases e; rw [h.nil_of]; exact Reps.nil
  | d :: ds, _, _, e, h => by
    obtain ⟨v, r, rfl, h1, h2⟩ := h.uncons
    simp only [fzs] at e
    split at e
    · rename_i d' q
      rw [Option.map_eq_some_iff] at e
      obtain ⟨es, e1, rfl⟩ := e
      exact Reps.cons (fz_ok hs hl d d' v q h1) (fzs_ok hs hl ds es r e1 h2)
    · cases e
end
theorem take_get {ι : List Addr} (n : Nat) {i : Nat} (h : i < n) : (ι.take n)[i]? = ι[i]? := by rw [List.getElem?_take, if_pos h]
theorem nodup_take_notin {ι : List Addr} (nd : ι.Nodup) {n i : Nat} {a : Addr} (h : ι[i]? = some a) (hi : ¬ i < n) : a ∉ ι.take n := fun m => by
  obtain ⟨j, hj, e⟩ := List.mem_iff_getElem.mp m
  rw [List.getElem_take] at e
  obtain ⟨l, e2⟩ := List.getElem?_eq_some_iff.mp h
  have := (List.getElem_inj nd).mp (e.trans e2.symm)
  rw [List.length_take] at hj
  omega
theorem lkc_ok (r : RelH W ι H st) (n : Nat) : ∀ (k i : Nat) (a : Addr) (d' : D), ι.c[i]? = some a → lkc st n k i = some d' → Rep W (ι.cut n) H d' (.ref a)
  | 0, i, a, d', h, e => by
    unfold lkc at e
    split at e
    · rename_i hi
      cases e
      simp only [Rep]
      exact ⟨a, rfl, by show (ι.c.take n)[i]? = _; rw [take_get n hi]; exact h⟩
    · cases e
  | k + 1, i, a, d', h, e => by
    unfold lkc at e
    split at e
    · rename_i hi
      cases e
      simp only [Rep]
      exact ⟨a, rfl, by show (ι.c.take n)[i]? = _; rw [take_get n hi]; exact h⟩
    · rename_i hi
      have na : ¬ (ι.cut n).has a := fun m => m.elim (nodup_take_notin r.nd h hi) (r.dis a (List.mem_of_getElem? h))
      obtain ⟨c, hc, ok⟩ := r.at h
      have hs : ∀ a, (ι.cut n).has a → ι.has a := fun a m => m.imp List.mem_of_mem_take id
      have ih := fun i a d' => lkc_ok r n k i a d'
      split at e
      · rename_i ds q
        rw [hc] at q
        cases q
        rw [Option.map_eq_some_iff] at e
        obtain ⟨es, e1, rfl⟩ := e
        obtain ⟨vs, h1, h2⟩ := ok
        simp only [Rep]
        exact ⟨a, rfl, na, vs, h1, fzs_ok hs ih _ _ _ e1 h2⟩
      · rename_i ks ds q
        rw [hc] at q
        cases q
        rw [Option.map_eq_some_iff] at e
        obtain ⟨es, e1, rfl⟩ := e
        obtain ⟨vs, h1, l, h2⟩ := ok
        have h3 := fzs_ok hs ih _ _ _ e1 h2
        simp only [Rep]
        exact ⟨a, rfl, na, vs, h1, by rw [l, h2.length, h3.length], h3⟩
      · rename_i ks ds q
        rw [hc] at q
        cases q
        rw [Option.map_eq_some_iff] at e
        obtain ⟨es, e1, rfl⟩ := e
        obtain ⟨vs, h1, l, h2⟩ := ok
        have h3 := fzs_ok hs ih _ _ _ e1 h2
        simp only [Rep]
        exact ⟨a, rfl, na, vs, h1, by rw [l, h2.length, h3.length], h3⟩
      · rename_i ns q
        rw [hc] at q
        cases q
        cases e
        simp only [Rep]
        exact ⟨a, rfl, na, ok⟩
      · rename_i m fs ds q
        rw [hc] at q
        cases q
        rw [Option.map_eq_some_iff] at e
        obtain ⟨es, e1, rfl⟩ := e
        obtain ⟨dx, vs, h1, l, h2⟩ := ok
        have h3 := fzs_ok hs ih _ _ _ e1 h2
        simp only [Rep]
        exact ⟨a, rfl, na, dx, vs, h1, by rw [l, h2.length, h3.length], h3⟩
      · cases e
theorem fzn_ok (r : RelH W ι H st) (n k : Nat) {d d' : D} {v : V} (e : fz (lkc st n k) d = some d') (h : Rep W ι H d v) : Rep W (ι.cut n) H d' v :=
  fz_ok (fun a (m : (ι.cut n).has a) => (show ι.has a from Or.imp (List.mem_of_mem_take (i := n)) id m)) (fun i a d' => lkc_ok r n k i a d') d d' v e h
end

mutual
def D.py : D → Option PyData
  | .non => some .none
  | .bl b => some (.bool b)
  | .int i => some (.int i)
  | .str x => some (.str x)
  | .tup ds => (D.pys ds).map .tuple
  | .tpf ds => (D.pys ds).map .tuple
  | .lst ds => (D.pys ds).map .list
  | .scr ns => some (.list (ns.map .int))
  | _ => none
def D.pys : List D → Option (List PyData)
  | [] => some []
  | d :: ds => match D.py d with
    | some p => (D.pys ds).map (p :: ·)
    | none => none
end
def pyOf (st : Store) (d : D) : Option PyData := (view st d).bind D.py
section
variable {W : Wd} {ι : Lay} {H : Hp} {st : Store}
mutual
theorem py_ok : ∀ (d : D) (p : PyData) (v : V), d.py = some p → Rep W ι H d v → Dp W.K H v p
  | .non, _, _, e, h => by simp only [D.py] at e; cases e; simp only [Rep] at h; subst h; exact .non
  | .bl b, _, _, e, h => by simp only [D.py] at e; cases e; simp only [Rep] at h; subst h; exact .bl b
  | .int b, _, _, e, h => by simp only [D.py] at e; cases e; simp only [Rep] at h; subst h; exact .int b
  | .str b, _, _, e, h => by simp only [D.py] at e; cases e; simp only [Rep] at h; subst h; exact .str b
  | .scr ns, _, _, e, h => by
    simp only [D.py] at e
    cases e
    simp only [Rep] at h
    obtain ⟨a, rfl, h1⟩ := h
    exact .lst h1.sq (dp_map fun n _ => .int n)
  | .tup ds, _, _, e, h => by
    simp only [D.py, Option.map_eq_some_iff] at e
    obtain ⟨es, e1, rfl⟩ := e
    simp only [Rep] at h
    obtain ⟨a, rfl, vs, h1, h2⟩ := h
    exact .tup (SqT.of h1) (pys_ok ds es vs e1 h2)
  | .tpf ds, _, _, e, h => by
    simp only [D.py, Option.map_eq_some_iff] at e
    obtain ⟨es, e1, rfl⟩ := e
    obtain ⟨a, o, vs, rfl, _, _, h1, h2⟩ := tpf_ok h
    exact .tup h1 (pys_ok ds es vs e1 h2)
  | .lst ds, _, _, e, h => by
    simp only [D.py, Option.map_eq_some_iff] at e
    obtain ⟨es, e1, rfl⟩ := e
    simp only [Rep] at h
    obtain ⟨a, rfl, _, vs, h1, h2⟩ := h
    exact .lst (SqL.of h1) (pys_ok ds es vs e1 h2)
  | .ty _, _, _, e, h => by simp [D.py] at e
  | .cls _, _, _, e, h => by simp [D.py] at e
  | .dk _ _, _, _, e, h => by simp [D.py] at e
  | .dt _ _, _, _, e, h => by simp [D.py] at e
  | .set _, _, _, e, h => by simp [D.py] at e
  | .ins _ _ _, _, _, e, h => by simp [D.py] at e
  | .ref _, _, _, e, h => by simp [D.py] at e
theorem pys_ok : ∀ (ds : List D) (ps : List PyData) (vs : List V), D.pys ds = some ps → Reps W ι H ds vs → DpAll W.K H vs ps
  | [], _, _, e, h => by simp only [D.pys] at e; cases e; rw [h.nil_of]; exact .nil
  | d :: ds, _, _, e, h => by
    obtain ⟨v, r, rfl, h1, h2⟩ := h.uncons
    simp only [D.pys] at e
    split at e
    · rename_i p q
      rw [Option.map_eq_some_iff] at e
      obtain ⟨es, e1, rfl⟩ := e
      exact .cons (py_ok d p v q h1) (pys_ok ds es r e1 h2)
    · cases e
end
theorem pyOf_ok (r : RelH W ι H st) {d : D} {p : PyData} {v : V} (e : pyOf st d = some p) (h : Rep W ι H d v) : Dp W.K H v p := by
  unfold pyOf at e
  rw [Option.bind_eq_some_iff] at e
  obtain ⟨d', e1, e2⟩ := e
  exact py_ok d' p v e2 (fzn_ok r 0 4 e1 h)
end

def M2 (W : Wd) (f : D → D → Store → Option D) : R2 := fun x y H Q => ∃ ι st a b d, RelH W ι H st ∧ Rep W ι H a x ∧ Rep W ι H b y ∧ f a b st = some d ∧ OkE W ι H d st Q
def MA (W : Wd) (f : FM) : List V → Hp → VK → Prop := fun vs H Q => ∃ ι st as d st', RelH W ι H st ∧ Reps W ι H as vs ∧ f as st = some (d, st') ∧ OkE W ι H d st' Q
def ro (f : List D → Store → Option D) : FM := fun ds st => (f ds st).map (·, st)

def eVar (i : Nat) : EM := fun env st => match env[i]? with
  | some (some d) => some (d, st)
  | _ => none
def eC (d : D) : EM := fun _ st => some (d, st)
def eUn (f : D → Store → Option D) (a : EM) : EM := fun env st => match a env st with
  | some (x, s1) => (f x s1).map (·, s1)
  | none => none
def eOp (f : D → D → Store → Option D) (a b : EM) : EM := fun env st => match a env st with
  | some (x, s1) => match b env s1 with
    | some (y, s2) => (f x y s2).map (·, s2)
    | none => none
  | none => none
def aNil : AM := fun _ st => some ([], st)
def aCons (a : EM) (r : AM) : AM := fun env st => match a env st with
  | some (x, s1) => match r env s1 with
    | some (xs, s2) => some (x :: xs, s2)
    | none => none
  | none => none
def eCall (f : FM) (a : AM) : EM := fun env st => match a env st with
  | some (xs, s1) => f xs s1
  | none => none
def eTup (a : AM) : EM := fun env st => match a env st with
  | some (xs, s1) => if xs.length ≤ sizeLine then some (.tup xs, s1) else none
  | none => none
def eLst (a : AM) : EM := fun env st => match a env st with
  | some (xs, s1) => if xs.length ≤ sizeLine then some (.lst xs, s1) else none
  | none => none
def eLstM (a : AM) : EM := fun env st => match a env st with
  | some (xs, s1) => if xs.length ≤ sizeLine then some (.ref s1.length, s1 ++ [.lst xs]) else none
  | none => none
def bE (a : EM) : TM := fun env st => match a env st with
  | some (.bl b, s1) => some (b, s1)
  | _ => none
def bAnd (a b : TM) : TM := fun env st => match a env st with
  | some (true, s1) => b env s1
  | r => r
def bOr (a b : TM) : TM := fun env st => match a env st with
  | some (false, s1) => b env s1
  | r => r
def bNot (a : TM) : TM := fun env st => match a env st with
  | some (b, s1) => some (!b, s1)
  | none => none
def eAnd (a b : EM) : EM := fun env st => match a env st with
  | some (.bl true, s1) => b env s1
  | some (.bl false, s1) => some (.bl false, s1)
  | _ => none
def eOr (a b : EM) : EM := fun env st => match a env st with
  | some (.bl false, s1) => b env s1
  | some (.bl true, s1) => some (.bl true, s1)
  | _ => none
def eNot (a : EM) : EM := fun env st => match a env st with
  | some (.bl b, s1) => some (.bl (!b), s1)
  | _ => none
def eIf (c : TM) (a b : EM) : EM := fun env st => match c env st with
  | some (true, s1) => a env s1
  | some (false, s1) => b env s1
  | none => none
def eChain (f g : D → D → Store → Option D) (a b c : EM) : EM := fun env st => match a env st with
  | some (x, s1) => match b env s1 with
    | some (y, s2) => match f x y s2 with
      | some (.bl true) => match c env s2 with
        | some (z, s3) => (g y z s3).map (·, s3)
        | none => none
      | some (.bl false) => some (.bl false, s2)
      | _ => none
    | none => none
  | none => none

section
variable {X : Cx} {W : Wd} {a b c e : Expr} {es : List Expr} {rest : List Expr} {pos : Pos} {ma mb mc : EM} {ta tb tc : TM} {f g : D → D → Store → Option D}
theorem T.of {m : EM} {σ : L2.St} {H : Hp} {Q : VK} {ι : Lay} {st st' : Store} {env : Env} {d : D} (r : RelH W ι H st) (n : REnv W ι H env σ) (e : m env st = some (d, st')) (k : OkE W ι H d st' Q) : T W m σ H Q := ⟨ι, st, env, d, st', r, n, e, k⟩

theorem j_var {i : Nat} {x : Str} {pos : Pos} (hN : X.N[i]? = some x) (hv : Vis X.env.scope x) (hd : (x == ("__debug__" : Str)) = false := by decide) (hcd : (x == ("__classdict__" : Str)) = false := by decide) : PE X (.Name x pos) (T W (eVar i)) :=
  (pe_var hN hv hd hcd).imp fun σ H Q ⟨ι, st, env, d, st', r, n, e, k⟩ => by
    unfold eVar at e
    split at e
    · rename_i d' q
      cases e
      obtain ⟨v, h1, h2⟩ := n.get i _ q
      exact ⟨v, h1, k.now r h2⟩
    · cases e
theorem tC_of {d : D} {v : V} (h : ∀ ι H, Rep W ι H d v) (he : PE X e (tC v)) : PE X e (T W (eC d)) :=
  he.imp fun σ H Q ⟨ι, st, env, d', st', r, n, e, k⟩ => by
    cases e
    exact k.now r (h _ _)
theorem j_int {i : Int} {j pos} : PE X (.Constant (.int i) j pos) (T W (eC (.int i))) := tC_of (fun _ _ => by simp only [Rep]) pe_int
theorem j_bl {b : Bool} {j pos} : PE X (.Constant (.bool b) j pos) (T W (eC (.bl b))) := tC_of (fun _ _ => by simp only [Rep]) pe_bl
theorem j_non {j pos} : PE X (.Constant .none j pos) (T W (eC .non)) := tC_of (fun _ _ => by simp only [Rep]) pe_non
theorem j_str {x : Str} {j pos} : PE X (.Constant (.str x) j pos) (T W (eC (.str x))) := tC_of (fun _ _ => by simp only [Rep]) pe_str

theorem tOp_of {σ : L2.St} {H : Hp} {Q : VK} (h : T W (eOp f ma mb) σ H Q) : tOp (M2 W f) (T W ma) (T W mb) σ H Q := by
  obtain ⟨ι, st, env, d, st', r, n, e, k⟩ := h
  unfold eOp at e
  split at e
  · rename_i x s1 e1
    split at e
    · rename_i y s2 e2
      rw [Option.map_eq_some_iff] at e
      obtain ⟨z, e3, q⟩ := e
      cases q
      exact T.of r n e1 fun v ι1 H1 g1 r1 p1 => T.of r1 (n.grow g1) e2 fun u ι2 H2 g2 r2 p2 => ⟨ι2, _, x, y, _, r2, Rep.grow g2 _ _ p1, p2, e3, k.go (g1.trans g2)⟩
    · cases e
  · cases e
theorem j_op {op : Operator} (ho : OpR X (binaryOp op) (M2 W f)) (ha : PE X a (T W ma)) (hb : PE X b (T W mb)) : PE X (.BinOp a op b pos) (T W (eOp f ma mb)) := (pe_op ho ha hb).imp fun _ _ _ => tOp_of
theorem j_cmp {op : CmpOp} (ho : OpR X (compareOp op) (M2 W f)) (ha : PE X a (T W ma)) (hb : PE X b (T W mb)) (hm : behindInMarks op b = false) : PE X (.Compare a [op] [b] pos) (T W (eOp f ma mb)) := (pe_cmpR ho ha hb hm).imp fun _ _ _ => tOp_of
theorem j_ix (hr : IxR X (M2 W f)) (ha : PE X a (T W ma)) (hb : PE X b (T W mb)) (hs : PlainIx b) : PE X (.Subscript a b pos) (T W (eOp f ma mb)) := (pe_ix hr ha hb hs).imp fun _ _ _ => tOp_of
theorem TB_bE {σ : L2.St} {H : Hp} {Q : Bool → Hp → Prop} (h : TB W (bE ma) σ H Q) : T W ma σ H fun x H' => ∃ k, x = .bl k ∧ Q k H' := by
  obtain ⟨ι, st, env, d, st', r, n, e, k⟩ := h
  unfold bE at e
  split at e
  · rename_i b' s1 e1
    cases e
    exact T.of r n e1 fun v ι1 H1 g1 r1 p1 => ⟨_, by simpa only [Rep] using p1, k _ _ g1 r1⟩
  · cases e
theorem jt_cmp {op : CmpOp} (ho : OpR X (compareOp op) (M2 W f)) (ha : PE X a (T W ma)) (hb : PE X b (T W mb)) (hm : behindInMarks op b = false) : PT X (.Compare a [op] [b] pos) (TB W (bE (eOp f ma mb))) :=
  (pt_cmpR ho ha hb hm).imp fun σ H Q h => tOp_of (TB_bE h)
theorem jt_val (h : PE X e (T W ma)) (he : ∀ whole, isTrue e X.env whole = (do let v ← whole; standAt e.pos; holding [v] (truthy v)) := by intro _; rfl) : PT X e (TB W (bE ma)) :=
  (pt_val h he).imp fun σ H Q h => TB_bE h
theorem TB.of {m : TM} {σ : L2.St} {H : Hp} {Q : Bool → Hp → Prop} {ι : Lay} {st st' : Store} {env : Env} {d : Bool} (r : RelH W ι H st) (n : REnv W ι H env σ) (e : m env st = some (d, st')) (k : OkB W ι H d st' Q) : TB W m σ H Q := ⟨ι, st, env, d, st', r, n, e, k⟩
theorem tAnd_of {σ : L2.St} {H : Hp} {Q : Bool → Hp → Prop} (h : TB W (bAnd ta tb) σ H Q) : tAnd (TB W ta) (TB W tb) σ H Q := by
  obtain ⟨ι, st, env, d, st', r, n, e, k⟩ := h
  unfold bAnd at e
  split at e
  · rename_i s1 e1
    exact TB.of r n e1 fun ι1 H1 g1 r1 => (if_pos rfl).mpr (TB.of r1 (n.grow g1) e (k.go g1))
  · rename_i hne
    rcases hh : ta env st with _ | ⟨b1, s1⟩
    · rw [hh] at e; cases e
    · cases b1 with
      | true => exact absurd hh (hne s1)
      | false =>
        rw [hh] at e
        cases e
        exact TB.of r n hh fun ι1 H1 g1 r1 => (if_neg Bool.false_ne_true).mpr (k _ _ g1 r1)
theorem tOr_of {σ : L2.St} {H : Hp} {Q : Bool → Hp → Prop} (h : TB W (bOr ta tb) σ H Q) : tOr (TB W ta) (TB W tb) σ H Q := by
  obtain ⟨ι, st, env, d, st', r, n, e, k⟩ := h
  unfold bOr at e
  split at e
  · rename_i s1 e1
    exact TB.of r n e1 fun ι1 H1 g1 r1 => (if_neg Bool.false_ne_true).mpr (TB.of r1 (n.grow g1) e (k.go g1))
  · rename_i hne
    rcases hh : ta env st with _ | ⟨b1, s1⟩
    · rw [hh] at e; cases e
    · cases b1 with
      | false => exact absurd hh (hne s1)
      | true =>
        rw [hh] at e
        cases e
        exact TB.of r n hh fun ι1 H1 g1 r1 => (if_pos rfl).mpr (k _ _ g1 r1)
theorem jw_and1 (ha : PT X a (TB W ta)) : PW X (.BoolOp .And [a] pos) (TB W ta) := pw_and1 ha
theorem jw_or1 (ha : PT X a (TB W ta)) : PW X (.BoolOp .Or [a] pos) (TB W ta) := pw_or1 ha
theorem jw_and (ha : PT X a (TB W ta)) (hb : PW X (.BoolOp .And (b :: rest) pos) (TB W tb)) : PW X (.BoolOp .And (a :: b :: rest) pos) (TB W (bAnd ta tb)) := (pw_and ha hb).imp fun _ _ _ => tAnd_of
theorem jw_or (ha : PT X a (TB W ta)) (hb : PW X (.BoolOp .Or (b :: rest) pos) (TB W tb)) : PW X (.BoolOp .Or (a :: b :: rest) pos) (TB W (bOr ta tb)) := (pw_or ha hb).imp fun _ _ _ => tOr_of
theorem jt_not (ha : PT X a (TB W ta)) : PT X (.UnaryOp .Not a pos) (TB W (bNot ta)) := (pt_not ha).imp fun σ H Q ⟨ι, st, env, d, st', r, n, e, k⟩ => by
  unfold bNot at e
  split at e
  · rename_i b1 s1 e1
    cases e
    exact TB.of r n e1 k
  · cases e
theorem j_one {op} (h : PE X a (T W ma)) : PE X (.BoolOp op [a] pos) (T W ma) := pe_one h
theorem j_and (ha : PE X a (T W ma)) (hb : PE X (.BoolOp .And (b :: rest) pos) (T W mb)) : PE X (.BoolOp .And (a :: b :: rest) pos) (T W (eAnd ma mb)) := (pe_and ha hb).imp fun σ H Q ⟨ι, st, env, d, st', r, n, e, k⟩ => by
  unfold eAnd at e
  split at e
  · rename_i s1 e1
    exact T.of r n e1 fun v ι1 H1 g1 r1 p1 => ⟨true, by simpa only [Rep] using p1, (if_pos rfl).mpr (T.of r1 (n.grow g1) e (k.go g1))⟩
  · rename_i s1 e1
    cases e
    exact T.of r n e1 fun v ι1 H1 g1 r1 p1 => ⟨false, by simpa only [Rep] using p1, (if_neg Bool.false_ne_true).mpr (k _ _ _ g1 r1 (by simp only [Rep]))⟩
  · cases e
theorem j_not (ha : PE X a (T W ma)) : PE X (.UnaryOp .Not a pos) (T W (eNot ma)) := (pe_not ha).imp fun σ H Q ⟨ι, st, env, d, st', r, n, e, k⟩ => by
  unfold eNot at e
  split at e
  · rename_i b1 s1 e1
    cases e
    exact T.of r n e1 fun v ι1 H1 g1 r1 p1 => ⟨b1, by simpa only [Rep] using p1, k _ _ _ g1 r1 (by simp only [Rep])⟩
  · cases e
theorem j_if (hc : PT X c (TB W tc)) (ha : PE X a (T W ma)) (hb : PE X b (T W mb)) : PE X (.IfExp c a b pos) (T W (eIf tc ma mb)) := (pe_ifExp hc ha hb).imp fun σ H Q ⟨ι, st, env, d, st', r, n, e, k⟩ => by
  unfold eIf at e
  split at e
  · rename_i s1 e1
    exact TB.of r n e1 fun ι1 H1 g1 r1 => (if_pos rfl).mpr (T.of r1 (n.grow g1) e (k.go g1))
  · rename_i s1 e1
    exact TB.of r n e1 fun ι1 H1 g1 r1 => (if_neg Bool.false_ne_true).mpr (T.of r1 (n.grow g1) e (k.go g1))
  · cases e
theorem chain_of {σ : L2.St} {H : Hp} {Q : VK} (h : T W (eChain f g ma mb mc) σ H Q) : tChain (M2 W f) (M2 W g) (T W ma) (T W mb) (T W mc) σ H Q := by
  obtain ⟨ι, st, env, d, st', r, n, e, k⟩ := h
  unfold eChain at e
  split at e
  · rename_i x s1 e1
    split at e
    · rename_i y s2 e2
      refine T.of r n e1 fun v ι1 H1 g1 r1 p1 => T.of r1 (n.grow g1) e2 fun u ι2 H2 g2 r2 p2 => ?_
      split at e
      · rename_i e3
        refine ⟨ι2, s2, x, y, .bl true, r2, Rep.grow g2 _ _ p1, p2, e3, fun z ι3 H3 g3 r3 p3 => ⟨true, by simpa only [Rep] using p3, (if_pos rfl).mpr ?_⟩⟩
        split at e
        · rename_i z s3 e4
          rw [Option.map_eq_some_iff] at e
          obtain ⟨q, e5, e6⟩ := e
          cases e6
          exact T.of r3 (((n.grow g1).grow g2).grow g3) e4 fun w' ι4 H4 g4 r4 p4 => ⟨ι4, _, y, z, _, r4, Rep.grow g4 _ _ (Rep.grow g3 _ _ p2), p4, e5, k.go (((g1.trans g2).trans g3).trans g4)⟩
        · cases e
      · rename_i e3
        cases e
        refine ⟨ι2, _, x, y, .bl false, r2, Rep.grow g2 _ _ p1, p2, e3, fun z ι3 H3 g3 r3 p3 => ⟨false, by simpa only [Rep] using p3, (if_neg Bool.false_ne_true).mpr ?_⟩⟩
        exact k _ _ _ ((g1.trans g2).trans g3) r3 (by simp only [Rep])
      · cases e
    · cases e
  · cases e
theorem j_chain {op op' : CmpOp} (ho : OpR X (compareOp op) (M2 W f)) (ho' : OpR X (compareOp op') (M2 W g)) (ha : PE X a (T W ma)) (hb : PE X b (T W mb)) (hc : PE X c (T W mc))
    (hm : lastMarks [op, op'] [b, c] = false := by with_unfolding_all rfl) : PE X (.Compare a [op, op'] [b, c] pos) (T W (eChain f g ma mb mc)) := (pe_chain ho ho' ha hb hc hm).imp fun _ _ _ => chain_of
theorem jt_chain {op op' : CmpOp} (ho : OpR X (compareOp op) (M2 W f)) (ho' : OpR X (compareOp op') (M2 W g)) (ha : PE X a (T W ma)) (hb : PE X b (T W mb)) (hc : PE X c (T W mc))
    (hm : lastMarks [op, op'] [b, c] = false := by with_unfolding_all rfl) : PT X (.Compare a [op, op'] [b, c] pos) (TB W (bE (eChain f g ma mb mc))) := (pt_chain ho ho' ha hb hc hm).imp fun _ _ _ h => chain_of (TB_bE h)

theorem TA.of {m : AM} {σ : L2.St} {H : Hp} {Q : List V → Hp → Prop} {ι : Lay} {st st' : Store} {env : Env} {d : List D} (r : RelH W ι H st) (n : REnv W ι H env σ) (e : m env st = some (d, st')) (k : OkA W ι H d st' Q) : TAs W m σ H Q := ⟨ι, st, env, d, st', r, n, e, k⟩
theorem ja_nil : PA X [] (TAs W aNil) := pa_nil.imp fun σ H Q ⟨ι, st, env, d, st', r, n, e, k⟩ => by
  cases e
  exact k _ _ _ Grow.refl r Reps.nil
theorem ja_cons {mr : AM} (ha : PE X e (T W ma)) (hr : PA X es (TAs W mr)) (hs : starEach (e :: es) X.env = (false, eval e X.env) :: starEach es X.env := by rfl) : PA X (e :: es) (TAs W (aCons ma mr)) := (pa_cons ha hr hs).imp fun σ H Q ⟨ι, st, env, d, st', r, n, e, k⟩ => by
  unfold aCons at e
  split at e
  · rename_i x s1 e1
    split at e
    · rename_i xs s2 e2
      cases e
      exact T.of r n e1 fun v ι1 H1 g1 r1 p1 => TA.of r1 (n.grow g1) e2 fun vs ι2 H2 g2 r2 p2 => k _ _ _ (g1.trans g2) r2 (Reps.cons (Rep.grow g2 _ _ p1) p2)
    · cases e
  · cases e
theorem j_tup {x1} {mr : AM} (h : PA X es (TAs W mr)) : PE X (.Tuple es x1 pos) (T W (eTup mr)) := (pe_tup h).imp fun σ H Q ⟨ι, st, env, d, st', r, n, e, k⟩ => by
  unfold eTup at e
  split at e
  · rename_i xs s1 e1
    split at e
    · rename_i hz
      cases e
      exact TA.of r n e1 fun vs ι1 H1 g1 r1 p1 => ⟨by rw [← p1.length]; exact hz, fun p hp => (k.go g1).tup r1 p1 hp⟩
    · cases e
  · cases e
theorem j_lst {mr : AM} (h : PA X es (TAs W mr)) : PE X (.List es pos) (T W (eLst mr)) := (pe_lst h).imp fun σ H Q ⟨ι, st, env, d, st', r, n, e, k⟩ => by
  unfold eLst at e
  split at e
  · rename_i xs s1 e1
    split at e
    · rename_i hz
      cases e
      exact TA.of r n e1 fun vs ι1 H1 g1 r1 p1 => ⟨by rw [← p1.length]; exact hz, fun p hp => (k.go g1).lst r1 p1 hp⟩
    · cases e
  · cases e
theorem j_lstM {mr : AM} (h : PA X es (TAs W mr)) : PE X (.List es pos) (T W (eLstM mr)) := (pe_lst h).imp fun σ H Q ⟨ι, st, env, d, st', r, n, e, k⟩ => by
  unfold eLstM at e
  split at e
  · rename_i xs s1 e1
    split at e
    · rename_i hz
      cases e
      exact TA.of r n e1 fun vs ι1 H1 g1 r1 p1 => ⟨by rw [← p1.length]; exact hz, fun p hp => (k.go g1).lstM r1 p1 hp⟩
    · cases e
  · cases e
theorem tCB_of {F : FM} {mr : AM} {σ : L2.St} {H : Hp} {Q : VK} (h : T W (eCall F mr) σ H Q) : tCB (MA W F) (TAs W mr) σ H Q := by
  obtain ⟨ι, st, env, d, st', r, n, e, k⟩ := h
  unfold eCall at e
  split at e
  · rename_i xs s1 e1
    exact TA.of r n e1 fun vs ι1 H1 g1 r1 p1 => ⟨ι1, s1, xs, d, st', r1, p1, e, k.go g1⟩
  · cases e
theorem j_callB {x : Str} {id : String} {p : Pos} {F : FM} {mr : AM} (hc : CallR X (.builtin id) (MA W F)) (hg : Gl X x) (hm : X.mg x = none) (hv : bootBuiltins x = some (.builtin id)) (ha : PA X (e :: es) (TAs W mr)) (hn : x ≠ "__name__" := by decide) (hdb : (x == ("__debug__" : Str)) = false := by decide)
    (he : starEach (e :: es) X.env = (false, eval e X.env) :: starEach es X.env := by rfl) (hpl : (backTo pos (starEach es X.env)).any (·.1) = false := by rfl) : PE X (.Call (.Name x p) (e :: es) [] pos) (T W (eCall F mr)) := (pe_callB hc hg hm hv ha hn hdb he hpl).imp fun _ _ _ => tCB_of
theorem j_callTy {x : Str} {id : String} {p : Pos} {F : FM} {mr : AM} (hc : CallR X (.type id) (MA W F)) (hg : Gl X x) (hm : X.mg x = none) (hv : bootBuiltins x = some (.type id)) (ha : PA X (e :: es) (TAs W mr)) (hn : x ≠ "__name__" := by decide) (hdb : (x == ("__debug__" : Str)) = false := by decide)
    (he : starEach (e :: es) X.env = (false, eval e X.env) :: starEach es X.env := by rfl) (hpl : (backTo pos (starEach es X.env)).any (·.1) = false := by rfl) : PE X (.Call (.Name x p) (e :: es) [] pos) (T W (eCall F mr)) := (pe_callTy hc hg hm hv ha hn hdb he hpl).imp fun _ _ _ => tCB_of
end
end My

namespace My
open PySem PySem.Spec PyProof.Rows L2

abbrev GM := D → Env → Option Env
abbrev GMs := List D → Env → Option Env
def gNm (i : Nat) : GM := fun d env => some (env.set i (some d))
def gsNil : GMs := fun ds env => match ds with
  | [] => some env
  | _ => none
def gsCons (g : GM) (gs : GMs) : GMs := fun ds env => match ds with
  | d :: ds => match g d env with
    | some e => gs ds e
    | none => none
  | [] => none
def gTp (n : Nat) (gs : GMs) : GM := fun d env => match d with
  | .tup xs => if xs.length = n then gs xs env else none
  | _ => none
def TGm (W : Wd) (g : GM) (vs : List Nat) : TG := fun v σ H Q => ∃ ι st env d env', RelH W ι H st ∧ REnv W ι H env σ ∧ Rep W ι H d v ∧ g d env = some env' ∧
  ∀ σ', REnv W ι H env' σ' → L2.wipe σ' vs = L2.wipe σ vs → Q σ' H
def TGsm (W : Wd) (g : GMs) (vs : List Nat) : TGs := fun us σ H Q => ∃ ι st env ds env', RelH W ι H st ∧ REnv W ι H env σ ∧ Reps W ι H ds us ∧ g ds env = some env' ∧
  ∀ σ', REnv W ι H env' σ' → L2.wipe σ' vs = L2.wipe σ vs → Q σ' H
theorem wipe_set (σ : L2.St) (i : Nat) (x : Option V) : ∀ vs : List Nat, (i ∈ vs → L2.wipe (σ.set i x) vs = L2.wipe σ vs) ∧ (i ∉ vs → L2.wipe (σ.set i x) vs = (L2.wipe σ vs).set i x)
  | [] => ⟨fun h => by simp at h, fun _ => rfl⟩
  | v :: vs => by
    obtain ⟨h1, h2⟩ := wipe_set σ i x vs
    constructor
    · intro h
      show (L2.wipe (σ.set i x) vs).set v none = (L2.wipe σ vs).set v none
      by_cases hi : i ∈ vs
      · rw [h1 hi]
      · have : i = v := by simpa [hi] using h
        subst this
        rw [h2 hi, List.set_set]
    · intro h
      simp only [List.mem_cons, not_or] at h
      show (L2.wipe (σ.set i x) vs).set v none = ((L2.wipe σ vs).set v none).set i x
      rw [h2 h.2, List.set_comm _ _ h.1]

section
variable {X : Cx} {W : Wd} {pos : Pos}
theorem _root_.L2.PG.imp' {X : Cx} {tg : Expr} {t t' : TG} (h : PG X tg t) (k : ∀ v σ H Q, t' v σ H Q → t v σ H Q) : PG X tg t' := ⟨fun p s σ H v u Q I r q => h.run p s σ H v u Q I r (k _ _ _ _ q)⟩
theorem _root_.L2.PGs.imp {X : Cx} {tg : List Expr} {t t' : TGs} (h : PGs X tg t) (k : ∀ v σ H Q, t' v σ H Q → t v σ H Q) : PGs X tg t' := ⟨fun p s σ H v u Q I r q => h.run p s σ H v u Q I r (k _ _ _ _ q)⟩
theorem jg_name {i : Nat} {x : Str} {vs : List Nat} (hN : X.N.Nodup) (hi : X.N[i]? = some x) (hx : Loc X.env.scope x) (hv : i ∈ vs := by decide) (hf : X.fn x = true ∨ X.env.scope.names.lookup x = some .local := by first | exact .inl rfl | exact .inr rfl | assumption) : PG X (.Name x pos) (TGm W (gNm i) vs) :=
  (pg_name hN hi hx hf).imp' fun v σ H Q ⟨ι, st, env, d, env', r, n, h, e, k⟩ => by
    cases e
    exact k _ (n.set i h) ((wipe_set σ i (some v) vs).1 hv)
theorem jgs_nil {vs : List Nat} : PGs X [] (TGsm W gsNil vs) := pgs_nil.imp fun us σ H Q ⟨ι, st, env, d, env', r, n, h, e, k⟩ => by
  cases d with
  | nil =>
    cases e
    exact ⟨h.nil_of, k _ n rfl⟩
  | cons _ _ => cases e
theorem jgs_cons {e : Expr} {es : List Expr} {g : GM} {gs : GMs} {vs : List Nat} (h1 : PG X e (TGm W g vs)) (h2 : PGs X es (TGsm W gs vs))
    (hs : (assignEach (e :: es) X.env).map (·.2) = assign e X.env :: (assignEach es X.env).map (·.2) := by rfl) : PGs X (e :: es) (TGsm W (gsCons g gs) vs) := (pgs_cons h1 h2 hs).imp fun us σ H Q ⟨ι, st, env, d, env', r, n, h, e, k⟩ => by
  cases d with
  | nil => cases e
  | cons d ds =>
    unfold gsCons at e
    dsimp only at e
    split at e
    · rename_i e1 q
      obtain ⟨v, u, rfl, h1, h2⟩ := h.uncons
      exact ⟨v, u, rfl, ι, st, env, d, e1, r, n, h1, q, fun σ1 n1 w1 => ⟨ι, st, e1, ds, env', r, n1, h2, e, fun σ2 n2 w2 => k _ n2 (w2.trans w1)⟩⟩
    · cases e
theorem jg_tup {es : List Expr} {kk : Nat} {gs : GMs} {n : Nat} {vs : List Nat} (hK : X.K = W.K) (hc : X.calm = true) (h : PGs X es (TGsm W gs vs))
    (hn : (assignEach es X.env).length = n := by rfl) (hst : (assignEach es X.env).findIdx? (·.1) = none := by rfl) : PG X (.Tuple es kk pos) (TGm W (gTp n gs) vs) := (pg_tup hc h hn hst).imp' fun v σ H Q ⟨ι, st, env, d, env', r, n', h, e, k⟩ => by
  unfold gTp at e
  split at e
  · rename_i xs
    split at e
    · rename_i hl
      obtain ⟨a, us, rfl, h1, h2⟩ := seqT_ok h (xs := xs) rfl
      exact ⟨a, us, rfl, SqT.of h1, by rw [← h2.length]; exact hl, ι, st, env, xs, env', r, n', h2, e, k⟩
    · cases e
  · cases e

abbrev IM := Env → Store → Option (List D × (Store → Prop) × Store)
structure ItOk (W : Wd) (J : It) (ι0 : Lay) (H0 : Hp) (ds : List D) (gd : Store → Prop) : Prop where
  go : ∀ (i : Nat) (ι : Lay) (H : Hp) (st : Store) (d : D), Gro ι0 H0 ι H → RelH W ι H st → gd st → ds[i]? = some d → J.go i H ∧ ∀ x H', J.yld i H x H' → Grow ι H ι H' ∧ RelH W ι H' st ∧ Rep W ι H' d x
  stop : ∀ (ι : Lay) (H : Hp) (st : Store), Gro ι0 H0 ι H → RelH W ι H st → gd st → J.stop ds.length H
def TIm (W : Wd) (im : IM) : TI := fun σ H R => ∃ ι st env ds gd st', RelH W ι H st ∧ REnv W ι H env σ ∧ im env st = some (ds, gd, st') ∧
  ∀ J ι' H', Grow ι H ι' H' → RelH W ι' H' st' → ItOk W J ι' H' ds gd → R J H'
def always : Store → Prop := fun _ => True
def iSeq (m : EM) : IM := fun env st => match m env st with
  | some (.tup xs, s1) => some (xs, always, s1)
  | some (.tpf xs, s1) => some (xs, always, s1)
  | some (.lst xs, s1) => some (xs, always, s1)
  | some (.scr ns, s1) => some (ns.map .int, always, s1)
  | some (.ref i, s1) => match s1[i]? with
    | some (.lst xs) => some (xs, fun s => s[i]? = some (.lst xs), s1)
    | _ => none
  | _ => none
theorem itOk_list {a : Addr} {ι0 : Lay} {H0 : Hp} {ds : List D} {gd : Store → Prop} (h : ∀ ι H st, Gro ι0 H0 ι H → RelH W ι H st → gd st → ∃ vs, SqL W.K H a vs ∧ Reps W ι H ds vs) : ItOk W (Itl W.K a) ι0 H0 ds gd where
  go := fun i ι H st d g r k e => by
    obtain ⟨vs, h1, h2⟩ := h ι H st g r k
    obtain ⟨v, h3, h4⟩ := h2.get e
    refine ⟨⟨vs, v, h1, h3⟩, fun x H' ⟨e1, e2⟩ => ?_⟩
    subst e1
    have := e2 _ h1
    rw [h3] at this
    cases this
    exact ⟨Grow.refl, r, h4⟩
  stop := fun ι H st g r k => by
    obtain ⟨vs, h1, h2⟩ := h ι H st g r k
    exact ⟨vs, h1, by rw [h2.length]; exact Nat.le_refl _⟩
theorem itOk_tup {a : Addr} {ι0 : Lay} {H0 : Hp} {ds : List D} {gd : Store → Prop} (h : ∀ ι H st, Gro ι0 H0 ι H → RelH W ι H st → gd st → ∃ vs, SqT W.K H a vs ∧ Reps W ι H ds vs) : ItOk W (Itt W.K a) ι0 H0 ds gd where
  go := fun i ι H st d g r k e => by
    obtain ⟨vs, h1, h2⟩ := h ι H st g r k
    obtain ⟨v, h3, h4⟩ := h2.get e
    refine ⟨⟨vs, v, h1, h3⟩, fun x H' ⟨e1, e2⟩ => ?_⟩
    subst e1
    have := e2 _ h1
    rw [h3] at this
    cases this
    exact ⟨Grow.refl, r, h4⟩
  stop := fun ι H st g r k => by
    obtain ⟨vs, h1, h2⟩ := h ι H st g r k
    exact ⟨vs, h1, by rw [h2.length]; exact Nat.le_refl _⟩
theorem ji_seq {tg l : Expr} {m : EM} (hK : X.K = W.K) (hl : PE X l (T W m)) : PI X tg l (TIm W (iSeq m)) := by
  refine ⟨fun pins s σ H R I h => ?_⟩
  obtain ⟨ι, st, env, ds, gd, st', r, n, e, k⟩ := h
  unfold iSeq at e
  split at e
  · rename_i xs s1 e1
    cases e
    refine (pi_tup hl).run pins s σ H R I (T.of r n e1 fun v ι1 H1 g1 r1 p1 => ?_)
    obtain ⟨a, vs, rfl, h1, h2⟩ := seqT_ok p1 (xs := ds) rfl
    rw [hK]
    exact ⟨a, rfl, ⟨vs, SqT.of h1⟩, k _ ι1 H1 g1 r1 (itOk_tup fun ι2 H2 s2 g2 _ _ => ⟨vs, SqT.of (g2.keep _ _ (.inr fun z => z) h1), Reps.gro g2 _ _ h2⟩)⟩
  · rename_i xs s1 e1
    cases e
    refine (pi_tup hl).run pins s σ H R I (T.of r n e1 fun v ι1 H1 g1 r1 p1 => ?_)
    obtain ⟨a, o, vs, rfl, _, h0, h1, h2⟩ := tpf_ok p1
    rw [hK]
    exact ⟨a, rfl, ⟨vs, h1⟩, k _ ι1 H1 g1 r1 (itOk_tup fun ι2 H2 s2 g2 _ _ => ⟨vs, .inl (.inr ⟨o, g2.keep _ _ (.inr fun z => z) h0⟩), Reps.gro g2 _ _ h2⟩)⟩
  · rename_i xs s1 e1
    cases e
    refine (pi_list hl).run pins s σ H R I (T.of r n e1 fun v ι1 H1 g1 r1 p1 => ?_)
    simp only [Rep] at p1
    obtain ⟨a, rfl, na, vs, h1, h2⟩ := p1
    rw [hK]
    exact ⟨a, rfl, ⟨vs, SqL.of h1⟩, k _ ι1 H1 g1 r1 (itOk_list fun ι2 H2 s2 g2 _ _ => ⟨vs, SqL.of (g2.keep _ _ (.inl na) h1), Reps.gro g2 _ _ h2⟩)⟩
  · rename_i ns s1 e1
    cases e
    refine (pi_list hl).run pins s σ H R I (T.of r n e1 fun v ι1 H1 g1 r1 p1 => ?_)
    simp only [Rep] at p1
    obtain ⟨a, rfl, h1⟩ := p1
    rw [hK]
    exact ⟨a, rfl, ⟨_, h1.sq⟩, k _ ι1 H1 g1 r1 (itOk_list fun ι2 H2 s2 g2 _ _ => ⟨_, (g2.fzL h1).sq, Reps.map fun x _ => by simp only [Rep]⟩)⟩
  · rename_i i s1 e1
    split at e
    · rename_i xs q
      cases e
      refine (pi_list hl).run pins s σ H R I (T.of r n e1 fun v ι1 H1 g1 r1 p1 => ?_)
      simp only [Rep] at p1
      obtain ⟨a, rfl, h1⟩ := p1
      obtain ⟨c, hc, ok⟩ := r1.at h1
      rw [q] at hc
      cases hc
      obtain ⟨vs, h2, h3⟩ := ok
      rw [hK]
      refine ⟨a, rfl, ⟨vs, SqL.of h2⟩, k _ ι1 H1 g1 r1 (itOk_list fun ι2 H2 s2 g2 r2 gd2 => ?_)⟩
      obtain ⟨c, hc, ok⟩ := r2.at (g2.pre _ _ h1)
      rw [gd2] at hc
      cases hc
      obtain ⟨us, h4, h5⟩ := ok
      exact ⟨us, SqL.of h4, h5⟩
    · cases e
  · cases e
def intsTo (lo : Int) (n : Nat) : List D := (List.range n).map fun i => .int (lo + (i : Nat))
def iRange1 (a : EM) : IM := fun env st => match a env st with
  | some (.int j, s1) => if -(2 ^ 62) ≤ j ∧ j < 2 ^ 62 then some (intsTo 0 j.toNat, always, s1) else none
  | _ => none
def iRange2 (a b : EM) : IM := fun env st => match a env st with
  | some (.int i, s1) => match b env s1 with
    | some (.int j, s2) => if (-(2 ^ 62) ≤ i ∧ i < 2 ^ 62) ∧ (-(2 ^ 62) ≤ j ∧ j < 2 ^ 62) then some (intsTo i (j - i).toNat, always, s2) else none
    | _ => none
  | _ => none
theorem intsTo_get {lo : Int} {n i : Nat} {d : D} (h : (intsTo lo n)[i]? = some d) : i < n ∧ d = .int (lo + (i : Nat)) := by
  unfold intsTo at h
  rw [List.getElem?_map] at h
  by_cases hi : i < n
  · rw [List.getElem?_range hi] at h
    cases h
    exact ⟨hi, rfl⟩
  · rw [List.getElem?_eq_none (by simpa using hi)] at h
    cases h
theorem intsTo_len {lo : Int} {n : Nat} : (intsTo lo n).length = n := by simp [intsTo]
theorem itOk_range {lo : Int} {n : Nat} {ι0 : Lay} {H0 : Hp} : ItOk W (Itr lo n) ι0 H0 (intsTo lo n) always where
  go := fun i ι H st d g r k e => by
    obtain ⟨h1, rfl⟩ := intsTo_get e
    refine ⟨h1, fun x H' ⟨e1, e2⟩ => ?_⟩
    subst e1
    subst e2
    exact ⟨Grow.refl, r, by simp only [Rep]⟩
  stop := fun ι H st g r k => by
    rw [intsTo_len]
    exact Nat.le_refl n
theorem ji_range1 {tg a : Expr} {m : EM} {p : Pos} (hg : Gl X "range") (hm : X.mg "range" = none) (ha : PE X a (T W m)) (hs : starEach [a] X.env = [(false, eval a X.env)] := by rfl) : PI X tg (.Call (.Name "range" p) [a] [] pos) (TIm W (iRange1 m)) :=
  (pi_range1 hg hm (ja_cons ha ja_nil hs) hs).imp fun σ H R ⟨ι, st, env, ds, gd, st', r, n, e, k⟩ => by
    unfold iRange1 at e
    split at e
    · rename_i j s1 e1
      split at e
      · rename_i hz
        cases e
        refine TA.of r n (d := [.int j]) (st' := st') (by unfold aCons; rw [e1]; rfl) fun vs ι1 H1 g1 r1 p1 => ?_
        obtain ⟨v, u, rfl, h1, h2⟩ := p1.uncons
        have e3 := h2.nil_of
        subst e3
        simp only [Rep] at h1
        subst h1
        exact ⟨j, rfl, hz.1, hz.2, k _ ι1 H1 g1 r1 itOk_range⟩
      · cases e
    · cases e
open Classical in
noncomputable def lcGo (gd : Store → Prop) (g : GM) (tt : TM) (el : EM) (env : Env) : List D → Store → Option (List D × Store)
  | [], st => if gd st then some ([], st) else none
  | d :: ds, st => if gd st then match g d env with
      | some e2 => match tt e2 st with
        | some (true, s1) => match el e2 s1 with
          | some (y, s2) => match lcGo gd g tt el env ds s2 with
            | some (ys, s3) => some (y :: ys, s3)
            | none => none
          | none => none
        | some (false, s1) => lcGo gd g tt el env ds s1
        | none => none
      | none => none
    else none
noncomputable def eLc (im : IM) (g : GM) (tt : TM) (el : EM) (vs : List Nat) : EM := fun env st => match im env st with
  | some (ds, gd, s1) => match lcGo gd g tt el (wipeE env vs) ds s1 with
    | some (ys, s2) => if ys.length ≤ sizeLine then some (.lst ys, s2) else none
    | none => none
  | none => none
def bYes : TM := fun _ st => some (true, st)
theorem lc_of {im : IM} {g : GM} {tt : TM} {el : EM} {vs : List Nat} {σ : L2.St} {H : Hp} {Q : VK} (h : T W (eLc im g tt el vs) σ H Q) : tLc (TIm W im) (TGm W g vs) (TB W tt) (T W el) vs σ H Q := by
  obtain ⟨ι, st, env, d, st', r, n, e, k⟩ := h
  unfold eLc at e
  split at e
  · rename_i ds gd s1 e1
    split at e
    · rename_i ys s2 e2
      split at e
      · rename_i hz
        cases e
        refine ⟨ι, st, env, ds, gd, s1, r, n, e1, fun J ι1 H1 g1 r1 ok L hL => ?_⟩
        have n1 := n.grow g1
        refine ⟨fun i m H => i + m = ds.length ∧ ∃ ι2 s acc rest vacc, Grow ι1 H1 ι2 H ∧ Gro ι1 H1 (ι2.hide L) H ∧ RelH W (ι2.hide L) H s ∧ H L = some (.lst vacc) ∧ Reps W (ι2.hide L) H acc vacc ∧ lcGo gd g tt el (wipeE env vs) (ds.drop i) s = some (rest, st') ∧ ys = acc ++ rest, ⟨ds.length, by omega, ι1, s1, [], ys, [], Grow.laid hL, Gro.hide hL, r1.hide hL, upd_same, Reps.nil, e2, rfl⟩, ?_⟩
        rintro i m H2 ⟨hm, ι2, s, acc, rest, vacc, g2, gg2, r2, hL2, hacc, hgo, hys⟩
        by_cases hi : i < ds.length
        · right
          have hd : ds.drop i = ds[i] :: ds.drop (i + 1) := List.drop_eq_getElem_cons hi
          rw [hd] at hgo
          unfold lcGo at hgo
          split at hgo
          · rename_i hgd
            obtain ⟨j1, j2⟩ := ok.go i _ H2 s _ gg2 r2 hgd (List.getElem?_eq_getElem hi)
            refine ⟨j1, fun H' => ∃ ι2 s acc rest vacc, Grow ι1 H1 ι2 H' ∧ Gro ι1 H1 (ι2.hide L) H' ∧ RelH W (ι2.hide L) H' s ∧ H' L = some (.lst vacc) ∧ Reps W (ι2.hide L) H' acc vacc ∧ lcGo gd g tt el (wipeE env vs) (ds.drop (i + 1)) s = some (rest, st') ∧ ys = acc ++ rest, fun H' nx => ⟨m - 1, by omega, by omega, nx⟩, fun x H3 hy => ?_⟩
            obtain ⟨g3, r3, p3⟩ := j2 x H3 hy
            split at hgo
            · rename_i e3 q3
              have n3 : REnv W (ι2.hide L) H3 (wipeE env vs) (L2.wipe σ vs) := ((n1.wipe vs).gro gg2).grow g3
              refine ⟨_, s, _, _, e3, r3, n3, p3, q3, fun σ2 n4 w4 => ⟨w4.trans ?_, ?_⟩⟩
              · exact wipe_wipe σ vs
              have hLk : L ∈ (ι2.hide L).k := List.mem_cons_self
              have hLc : L ∉ (ι2.hide L).c := fun z => r2.dis L z hLk
              split at hgo
              · rename_i s4 q4
                refine TB.of r3 n4 q4 fun ι4 H4 g4 r4 => ?_
                rw [if_pos rfl]
                split at hgo
                · rename_i y s5 q5
                  split at hgo
                  · rename_i ys' s6 q6
                    cases hgo
                    refine T.of r4 (n4.grow g4) q5 fun v ι5 H5 g5 r5 p5 => ?_
                    have hk5 : ι5.k = L :: ι2.k := (g5.hid.trans g4.hid)
                    have e5 : ι5 = (Lay.hide ⟨ι5.c, ι2.k⟩ L) := by
                      cases ι5
                      simp only [Lay.hide]
                      exact congrArg _ hk5
                    have gg : Grow (ι2.hide L) H2 ι5 H5 := (g3.trans g4).trans g5
                    have hL5 : H5 L = some (.lst vacc) := gg.keep _ _ (.inl hLc) hL2
                    have hacc5 := Reps.append (Reps.grow gg _ _ hacc) (Reps.cons p5 Reps.nil)
                    rw [e5] at r5 hacc5 gg
                    have l5 : acc.length + 1 ≤ ys.length := by rw [hys]; simp
                    refine ⟨vacc, hL5, by rw [← hacc.length]; omega, ⟨ι5.c, ι2.k⟩, s5, acc ++ [y], ys', vacc ++ [v], ?_, ?_, r5.over List.mem_cons_self hL5 trivial, upd_same, Reps.gro (Gro.over List.mem_cons_self hL5 trivial) _ _ hacc5, q6, by rw [hys]; simp⟩
                    · refine ⟨fun i a h => gg.pre i a (g2.pre i a h), fun a o nn h => ?_, fun a m => ?_, g2.hid⟩
                      · have := ne_of_none h hL
                        exact kp_set this (gg.keep a o (nn.imp (fun nn z => by
                          rcases g2.new a z with q | q
                          · exact nn q
                          · rw [h] at q; cases q) id) (g2.keep a o nn h))
                      · rcases gg.new a m with q | q
                        · exact g2.new a q
                        · by_cases hc : a ∈ ι1.c
                          · exact .inl hc
                          · refine .inr ?_
                            cases e : H1 a with
                            | none => rfl
                            | some o => rw [g2.keep a o (.inl hc) e] at q; cases q
                    · refine ⟨fun i a h => gg.pre i a (gg2.pre i a h), fun a o nn h => ?_, fun a o nn h => ?_⟩
                      · have := ne_of_none h hL
                        exact kp_set this (gg.gro.keep a o (nn.imp (fun nn => gg2.notin a o nn h) id) (gg2.keep a o nn h))
                      · exact gg.gro.notin a o (gg2.notin a o nn h) (gg2.keep a o (.inl nn) h)
                  · cases hgo
                · cases hgo
              · rename_i s4 q4
                refine TB.of r3 n4 q4 fun ι4 H4 g4 r4 => ?_
                rw [if_neg Bool.false_ne_true]
                have hk5 : ι4.k = L :: ι2.k := g4.hid
                have e5 : ι4 = (Lay.hide ⟨ι4.c, ι2.k⟩ L) := by
                  cases ι4
                  simp only [Lay.hide]
                  exact congrArg _ hk5
                have gg : Grow (ι2.hide L) H2 ι4 H4 := g3.trans g4
                have hL5 : H4 L = some (.lst vacc) := gg.keep _ _ (.inl hLc) hL2
                have hacc5 := Reps.grow gg _ _ hacc
                rw [e5] at r4 hacc5 gg
                refine ⟨⟨ι4.c, ι2.k⟩, s4, acc, rest, vacc, ?_, ?_, r4, hL5, hacc5, hgo, hys⟩
                · refine ⟨fun i a h => gg.pre i a (g2.pre i a h), fun a o nn h => ?_, fun a m => ?_, g2.hid⟩
                  · exact gg.keep a o (nn.imp (fun nn z => by
                      rcases g2.new a z with q | q
                      · exact nn q
                      · rw [h] at q; cases q) id) (g2.keep a o nn h)
                  · rcases gg.new a m with q | q
                    · exact g2.new a q
                    · by_cases hc : a ∈ ι1.c
                      · exact .inl hc
                      · refine .inr ?_
                        cases e : H1 a with
                        | none => rfl
                        | some o => rw [g2.keep a o (.inl hc) e] at q; cases q
                · refine ⟨fun i a h => gg.pre i a (gg2.pre i a h), fun a o nn h => ?_, fun a o nn h => ?_⟩
                  · exact gg.gro.keep a o (nn.imp (fun nn => gg2.notin a o nn h) id) (gg2.keep a o nn h)
                  · exact gg.gro.notin a o (gg2.notin a o nn h) (gg2.keep a o (.inl nn) h)
              · cases hgo
            · cases hgo
          · cases hgo
        · left
          have hie : i = ds.length := by omega
          subst hie
          rw [List.drop_length] at hgo
          unfold lcGo at hgo
          split at hgo
          · rename_i hgd
            cases hgo
            refine ⟨ok.stop _ H2 _ gg2 r2 hgd, ?_⟩
            rw [List.append_nil] at hys
            subst hys
            refine k _ ι2 H2 (g1.trans g2) r2.show ?_
            simp only [Rep]
            refine ⟨L, rfl, fun z => ?_, vacc, hL2, Reps.gro Gro.show _ _ hacc⟩
            rcases z with z | z
            · exact r2.dis L z List.mem_cons_self
            · rw [g2.hid] at z
              exact r1.free hL (.inr z)
          · cases hgo
      · cases e
    · cases e
  · cases e
where
  wipe_wipe (σ : L2.St) (vs : List Nat) : L2.wipe (L2.wipe σ vs) vs = L2.wipe σ vs := by
    have h : ∀ (us : List Nat) (τ : L2.St), (∀ v ∈ us, v ∈ vs) → L2.wipe (L2.wipe τ us) vs = L2.wipe τ vs := by
      intro us
      induction us with
      | nil => intro τ _; rfl
      | cons u us ih =>
        intro τ hu
        show L2.wipe ((L2.wipe τ us).set u none) vs = _
        rw [(wipe_set _ u none vs).1 (hu u List.mem_cons_self)]
        exact ih τ fun v hv => hu v (List.mem_cons_of_mem _ hv)
    exact h vs σ fun _ h => h
theorem jts_nil : PTs X [] (TB W bYes) := ⟨fun pins s σ H Q I ⟨ι, st, env, d, st', r, n, e, k⟩ => by
  cases e
  exact pts_nil.run pins s σ H Q I (k _ _ Grow.refl r)⟩
theorem j_lc {elt tg iter : Expr} {ifs : List Expr} {scope : Scope} {own : List (Str × Nat)} {im : IM} {g : GM} {tt : TM} {el : EM} (hc : X.calm = true) (hN : X.N.Nodup) (hi : PI X tg iter (TIm W im)) (ok : BlkOk X.N X.env.scope scope own)
    (hg : ∀ (s : Shared) (H : Hp) (C : Addr) (cl : List (Str × Addr)) (fp : List Addr), PG (X.blk s H scope (compEnvC scope cl C X.env) fp) tg (TGm W g (own.map (·.2)))) (ht : ∀ (s : Shared) (H : Hp) (C : Addr) (cl : List (Str × Addr)) (fp : List Addr), PTs (X.blk s H scope (compEnvC scope cl C X.env) fp) ifs (TB W tt))
    (he : ∀ (s : Shared) (H : Hp) (C : Addr) (cl : List (Str × Addr)) (fp : List Addr), PE (X.blk s H scope (compEnvC scope cl C X.env) fp) elt (T W el)) (hs : ∀ x, foldedSetIterable iter X.env x = pure x := by intro _; rfl) :
    PE X (.ListComp elt [⟨tg, iter, ifs, 0⟩] scope pos) (T W (eLc im g tt el (own.map (·.2)))) := (pe_lc hc hN hi ok hg ht he hs).imp fun _ _ _ => lc_of
end
end My

namespace My
open PySem PySem.Spec PyProof.Rows L2

def sSkip : SM := fun env st => some (.nx env, st)
def sSeq (a b : SM) : SM := fun env st => match a env st with
  | some (.nx e, s1) => b e s1
  | r => r
def sSet (i : Nat) (m : EM) : SM := fun env st => match m env st with
  | some (d, s1) => some (.nx (env.set i (some d)), s1)
  | none => none
def sAsg (m : EM) (g : GM) : SM := fun env st => match m env st with
  | some (d, s1) => match g d env with
    | some e => some (.nx e, s1)
    | none => none
  | none => none
def sPar (i j : Nat) (a : AM) : SM := fun env st => match a env st with
  | some ([x, y], s1) => some (.nx ((env.set i (some x)).set j (some y)), s1)
  | _ => none
def sPar3 (i j l : Nat) (a : AM) : SM := fun env st => match a env st with
  | some ([x, y, z], s1) => some (.nx (((env.set i (some x)).set j (some y)).set l (some z)), s1)
  | _ => none
def sRet (m : EM) : SM := fun env st => match m env st with
  | some (d, s1) => some (.rt d, s1)
  | none => none
def sDrop (m : EM) : SM := fun env st => match m env st with
  | some (_, s1) => some (.nx env, s1)
  | none => none
def sIf (c : TM) (a b : SM) : SM := fun env st => match c env st with
  | some (true, s1) => a env s1
  | some (false, s1) => b env s1
  | none => none
def sBrk : SM := fun env st => some (.bk env, st)
def sCnt : SM := fun env st => some (.ct env, st)
def sAug (i : Nat) (f : D → D → Store → Option D) (m : EM) : SM := fun env st => match env[i]? with
  | some (some x) => match m env st with
    | some (y, s1) => match f x y s1 with
      | some z => some (.nx (env.set i (some z)), s1)
      | none => none
    | none => none
  | _ => none
def sSub (f : D → D → D → Store → Option Store) (mo mi mv : EM) : SM := fun env st => match mv env st with
  | some (v, s1) => match mo env s1 with
    | some (o, s2) => match mi env s2 with
      | some (i, s3) => match f o i v s3 with
        | some s4 => some (.nx env, s4)
        | none => none
      | none => none
    | none => none
  | none => none
open Classical in
noncomputable def forGo (gd : Store → Prop) (g : GM) (body : SM) : List D → Env → Store → Option (Out × Store)
  | [], env, st => if gd st then some (.nx env, st) else none
  | d :: ds, env, st => if gd st then match g d env with
      | some e1 => match body e1 st with
        | some (.nx e2, s2) => forGo gd g body ds e2 s2
        | some (.ct e2, s2) => forGo gd g body ds e2 s2
        | some (.bk e2, s2) => some (.nx e2, s2)
        | some (.rt d, s2) => some (.rt d, s2)
        | none => none
      | none => none
    else none
noncomputable def sFor (im : IM) (g : GM) (body : SM) : SM := fun env st => match im env st with
  | some (ds, gd, s1) => forGo gd g body ds env s1
  | none => none
def M3 (W : Wd) (f : D → D → D → Store → Option Store) : TSet := fun o i v H Q => ∃ ι st a b c st', RelH W ι H st ∧ Rep W ι H a o ∧ Rep W ι H b i ∧ Rep W ι H c v ∧ f a b c st = some st' ∧ ∀ ι' H', Grow ι H ι' H' → RelH W ι' H' st' → Q H'

section
variable {X : Cx} {W : Wd} {pos : Pos} {e : Expr} {m : EM} {a b : SM}
theorem TSt.of {m : SM} {σ : L2.St} {H : Hp} {D : Ends} {ι : Lay} {st st' : Store} {env : Env} {o : Out} (r : RelH W ι H st) (n : REnv W ι H env σ) (e : m env st = some (o, st')) (k : OkS W ι H o st' D) : TSt W m D σ H := ⟨ι, st, env, o, st', r, n, e, k⟩
theorem OkN.now {env : Env} {st : Store} {Q : L2.St → Hp → Prop} {ι : Lay} {H : Hp} {σ : L2.St} (k : OkN W ι H env st Q) (r : RelH W ι H st) (n : REnv W ι H env σ) : Q σ H := k σ ι H Grow.refl r n
theorem jb_nil : PSs X [] (TSt W sSkip) := pss_nil.imp fun D σ H ⟨ι, st, env, o, st', r, n, e, k⟩ => by
  cases e
  exact OkN.now (env := env) k r n
theorem seq_of {D : Ends} {σ : L2.St} {H : Hp} (h : TSt W (sSeq a b) D σ H) : tSeq (TSt W a) (TSt W b) D σ H := by
  obtain ⟨ι, st, env, o, st', r, n, e, k⟩ := h
  unfold sSeq at e
  rcases q : a env st with _ | ⟨o1, s1⟩
  · rw [q] at e; cases e
  · rw [q] at e
    cases o1 with
    | nx e1 => exact TSt.of r n q fun σ' ι' H' g r' n' => TSt.of r' n' e (OkS.go k g)
    | rt d => cases e; exact TSt.of r n q k
    | bk e1 => cases e; exact TSt.of r n q k
    | ct e1 => cases e; exact TSt.of r n q k
theorem jb_cons {st : Stmt} {rest : List Stmt} (h1 : PS X st (TSt W a)) (h2 : PSs X rest (TSt W b)) : PSs X (st :: rest) (TSt W (sSeq a b)) := (pss_cons h1 h2).imp fun _ _ _ => seq_of
theorem jb_one {st : Stmt} (h1 : PS X st (TSt W a)) : PSs X [st] (TSt W a) := pss_one h1
theorem set_of {i : Nat} {D : Ends} {σ : L2.St} {H : Hp} (h : TSt W (sSet i m) D σ H) : tAsg (T W m) (gName i) D σ H := by
  obtain ⟨ι, st, env, o, st', r, n, e, k⟩ := h
  unfold sSet at e
  split at e
  · rename_i d s1 q
    cases e
    exact T.of r n q fun v ι1 H1 g1 r1 p1 => k _ _ _ g1 r1 ((n.grow g1).set i p1)
  · cases e
theorem js_set {i : Nat} {x : Str} {e : Expr} {pos' : Pos} (hN : X.N.Nodup) (hi : X.N[i]? = some x) (hx : Loc X.env.scope x) (he : PE X e (T W m)) (hs : swapsWith e (some (.Name x pos')) pos.line X.env = pure false := by rfl) (hf : X.fn x = true ∨ X.env.scope.names.lookup x = some .local := by first | exact .inl rfl | exact .inr rfl | assumption) :
    PS X (.Assign [.Name x pos'] e pos) (TSt W (sSet i m)) := (ps_set hN hi hx he hs hf).imp fun _ _ _ => set_of
theorem js_asg {tg e : Expr} {g : GM} {vs : List Nat} (he : PE X e (T W m)) (hg : PG X tg (TGm W g vs)) (hs : swapsWithSole [tg] e pos.line X.env = pure false := by rfl) (hw : swappedStores [tg] e X.env = pure none := by rfl)
    (h1 : (assignEach [tg] X.env).map (·.2) = [assign tg X.env] := by rfl) : PS X (.Assign [tg] e pos) (TSt W (sAsg m g)) := (ps_asg he hg hs hw h1).imp fun D σ H ⟨ι, st, env, o, st', r, n, e, k⟩ => by
  unfold sAsg at e
  split at e
  · rename_i d s1 q
    split at e
    · rename_i e1 q1
      cases e
      exact T.of r n q fun v ι1 H1 g1 r1 p1 => ⟨ι1, _, env, d, e1, r1, n.grow g1, p1, q1, fun σ' n' _ => k _ _ _ g1 r1 n'⟩
    · cases e
  · cases e
theorem js_par {i j : Nat} {x y : Str} {a b : Expr} {ma : AM} {px py pt : Pos} {kt k2 pt2} (hc : X.calm = true) (hN : X.N.Nodup) (hi : X.N[i]? = some x) (hj : X.N[j]? = some y) (hij : i ≠ j)
    (hx : X.env.scope.names.lookup x = some .local) (hy : X.env.scope.names.lookup y = some .local) (ha : PA X [a, b] (TAs W ma))
    (hw : swappedStores [.Tuple [.Name x px, .Name y py] kt pt] (.Tuple [a, b] k2 pt2) X.env = pure (some [x, y]))
    (hs : swapsWithSole [.Tuple [.Name x px, .Name y py] kt pt] (.Tuple [a, b] k2 pt2) pos.line X.env = pure false := by rfl) :
    PS X (.Assign [.Tuple [.Name x px, .Name y py] kt pt] (.Tuple [a, b] k2 pt2) pos) (TSt W (sPar i j ma)) := (ps_par hc hN hi hj hij hx hy ha hw hs).imp fun D σ H ⟨ι, st, env, o, st', r, n, e, k⟩ => by
  unfold sPar at e
  split at e
  · rename_i u v s1 q
    cases e
    refine TA.of r n q fun vs ι1 H1 g1 r1 p1 => ?_
    obtain ⟨v1, u1, rfl, h1, h2⟩ := p1.uncons
    obtain ⟨v2, u2, rfl, h3, h4⟩ := h2.uncons
    have e3 := h4.nil_of
    subst e3
    exact ⟨v1, v2, rfl, k _ _ _ g1 r1 (((n.grow g1).set i h1).set j h3)⟩
  · cases e
theorem js_ret (he : PE X e (T W m)) : PS X (.Return (some e) pos) (TSt W (sRet m)) := (ps_ret he).imp fun D σ H ⟨ι, st, env, o, st', r, n, e, k⟩ => by
  unfold sRet at e
  split at e
  · rename_i d s1 q
    cases e
    exact T.of r n q k
  · cases e
theorem js_if {c : Expr} {ss1 ss2 : List Stmt} {tc : TM} (hc : PT X c (TB W tc)) (ha : PSs X ss1 (TSt W a)) (hb : PSs X ss2 (TSt W b)) : PS X (.If c ss1 ss2 pos) (TSt W (sIf tc a b)) := (ps_if hc ha hb).imp fun D σ H ⟨ι, st, env, o, st', r, n, e, k⟩ => by
  unfold sIf at e
  split at e
  · rename_i s1 q
    exact TB.of r n q fun ι1 H1 g1 r1 => (if_pos rfl).mpr (TSt.of r1 (n.grow g1) e (OkS.go k g1))
  · rename_i s1 q
    exact TB.of r n q fun ι1 H1 g1 r1 => (if_neg Bool.false_ne_true).mpr (TSt.of r1 (n.grow g1) e (OkS.go k g1))
  · cases e
theorem js_sub {o i value : Expr} {mo mi mv : EM} {f : D → D → D → Store → Option Store} {pos' : Pos} (hv : PE X value (T W mv)) (ho : PE X o (T W mo)) (hi : PE X i (T W mi)) (hs : PSet X (M3 W f))
    (ha : ∀ v, assign (.Subscript o i pos') X.env v = (do
      let ov ← holding [v] (eval o X.env)
      let iv ← holding [v, ov] (eval i X.env)
      standAt pos'
      holding [v, ov, iv] (setItem ov iv v)
      release [v, ov, iv] []) := by intro _; rfl)
    (h1 : swapsWithSole [.Subscript o i pos'] value pos.line X.env = pure false := by rfl) (hw : swappedStores [.Subscript o i pos'] value X.env = pure none := by rfl)
    (h2 : (assignEach [.Subscript o i pos'] X.env).map (·.2) = [assign (.Subscript o i pos') X.env] := by rfl) : PS X (.Assign [.Subscript o i pos'] value pos) (TSt W (sSub f mo mi mv)) :=
  (ps_asg hv (pg_sub ho hi hs ha) h1 hw h2).imp fun D σ H ⟨ι, st, env, o, st', r, n, e, k⟩ => by
  unfold sSub at e
  split at e
  · rename_i v s1 q1
    split at e
    · rename_i o s2 q2
      split at e
      · rename_i i s3 q3
        split at e
        · rename_i s4 q4
          cases e
          exact T.of r n q1 fun x1 ι1 H1 g1 r1 p1 => T.of r1 (n.grow g1) q2 fun x2 ι2 H2 g2 r2 p2 => T.of r2 ((n.grow g1).grow g2) q3 fun x3 ι3 H3 g3 r3 p3 =>
            ⟨ι3, s3, o, i, v, _, r3, Rep.grow g3 _ _ p2, p3, Rep.grow g3 _ _ (Rep.grow g2 _ _ p1), q4, fun ι4 H4 g4 r4 => k _ _ _ (((g1.trans g2).trans g3).trans g4) r4 ((((n.grow g1).grow g2).grow g3).grow g4)⟩
        · cases e
      · cases e
    · cases e
  · cases e

theorem js_for {tg iter : Expr} {body : List Stmt} {im : IM} {g : GM} {bm : SM} {vs : List Nat} (hp : PassesOwn (model X.prog X.w) X.A X.env X.xe) (hc : X.calm = true) (hi : PI X tg iter (TIm W im)) (hg : PG X tg (TGm W g vs)) (hb : PSs X body (TSt W bm)) (hs : ∀ x, foldedSetIterable iter X.env x = pure x := by intro _; rfl) : PS X (.For tg iter body [] pos) (TSt W (sFor im g bm)) :=
  (ps_for hp hc hi hg hb hs).imp fun D σ H ⟨ι, st, env, o, st', r, n, e, k⟩ => by
  unfold sFor at e
  split at e
  · rename_i ds gd s1 q
    refine ⟨ι, st, env, ds, gd, s1, r, n, q, fun J ι1 H1 g1 r1 ok => ?_⟩
    have k1 := OkS.go k g1
    refine ⟨fun i m σ H => i + m = ds.length ∧ ∃ ι2 s env2, Grow ι1 H1 ι2 H ∧ RelH W ι2 H s ∧ REnv W ι2 H env2 σ ∧ forGo gd g bm (ds.drop i) env2 s = some (o, st'), ⟨ds.length, by omega, ι1, s1, env, Grow.refl, r1, n.grow g1, e⟩, ?_⟩
    rintro i m σ2 H2 ⟨hm, ι2, s, env2, g2, r2, n2, hgo⟩
    by_cases hi : i < ds.length
    · right
      have hd : ds.drop i = ds[i] :: ds.drop (i + 1) := List.drop_eq_getElem_cons hi
      rw [hd] at hgo
      unfold forGo at hgo
      split at hgo
      · rename_i hgd
        obtain ⟨j1, j2⟩ := ok.go i _ H2 s _ g2.gro r2 hgd (List.getElem?_eq_getElem hi)
        refine ⟨j1, fun σ H => ∃ ι2 s env2, Grow ι1 H1 ι2 H ∧ RelH W ι2 H s ∧ REnv W ι2 H env2 σ ∧ forGo gd g bm (ds.drop (i + 1)) env2 s = some (o, st'), fun σ' H' nx => ⟨m - 1, by omega, by omega, nx⟩, fun x H3 hy => ?_⟩
        obtain ⟨g3, r3, p3⟩ := j2 x H3 hy
        split at hgo
        · rename_i e1 q1
          refine ⟨_, s, _, _, e1, r3, n2.grow g3, p3, q1, fun σ4 n4 _ => ?_⟩
          split at hgo
          · rename_i e2 s2 q2
            exact TSt.of r3 n4 q2 fun σ5 ι5 H5 g5 r5 n5 => ⟨ι5, s2, e2, (g2.trans g3).trans g5, r5, n5, hgo⟩
          · rename_i e2 s2 q2
            exact TSt.of r3 n4 q2 fun σ5 ι5 H5 g5 r5 n5 => ⟨ι5, s2, e2, (g2.trans g3).trans g5, r5, n5, hgo⟩
          · rename_i e2 s2 q2
            cases hgo
            exact TSt.of r3 n4 q2 fun σ5 ι5 H5 g5 r5 n5 => k1 _ _ _ ((g2.trans g3).trans g5) r5 n5
          · rename_i d s2 q2
            cases hgo
            exact TSt.of r3 n4 q2 fun v ι5 H5 g5 r5 n5 => k1 _ _ _ ((g2.trans g3).trans g5) r5 n5
          · cases hgo
        · cases hgo
      · cases hgo
    · left
      have hie : i = ds.length := by omega
      subst hie
      rw [List.drop_length] at hgo
      unfold forGo at hgo
      split at hgo
      · rename_i hgd
        cases hgo
        exact ⟨ok.stop _ H2 _ g2.gro r2 hgd, k1 _ _ _ g2 r2 n2⟩
      · cases hgo
  · cases e
end

mutual
def D.blw (n : Nat) : D → Bool
  | .tup ds => D.blws n ds
  | .tpf ds => D.blws n ds
  | .lst ds => D.blws n ds
  | .dk _ ds => D.blws n ds
  | .dt _ ds => D.blws n ds
  | .ins _ _ ds => D.blws n ds
  | .ref i => decide (i < n)
  | _ => true
def D.blws (n : Nat) : List D → Bool
  | [] => true
  | d :: ds => D.blw n d && D.blws n ds
end
section
variable {W : Wd} {ι : Lay} {H : Hp} {st : Store}
mutual
theorem fz_blw {lk : Nat → Option D} {n : Nat} (h : ∀ i, i < n → lk i = some (.ref i)) : ∀ d : D, d.blw n = true → fz lk d = some d
  | .non, _ => by simp only [fz]
  | .bl _, _ => by simp only [fz]
  | .int _, _ => by simp only [fz]
  | .str _, _ => by simp only [fz]
  | .ty _, _ => by simp only [fz]
  | .cls _, _ => by simp only [fz]
  | .scr _, _ => by simp only [fz]
  | .set _, _ => by simp only [fz]
  | .ref i, e => by simp only [D.blw, decide_eq_true_eq] at e; simp only [fz]; exact h i e
  | .tup ds, e => by simp only [D.blw] at e; simp only [fz, fzs_blw h ds e, Option.map_some]
  | .tpf ds, e => by simp only [D.blw] at e; simp only [fz, fzs_blw h ds e, Option.map_some]
  | .lst ds, e => by simp only [D.blw] at e; simp only [fz, fzs_blw h ds e, Option.map_some]
  | .dk _ ds, e => by simp only [D.blw] at e; simp only [fz, fzs_blw h ds e, Option.map_some]
  | .dt _ ds, e => by simp only [D.blw] at e; simp only [fz, fzs_blw h ds e, Option.map_some]
  | .ins _ _ ds, e => by simp only [D.blw] at e; simp only [fz, fzs_blw h ds e, Option.map_some]
theorem fzs_blw {lk : Nat → Option D} {n : Nat} (h : ∀ i, i < n → lk i = some (.ref i)) : ∀ ds : List D, D.blws n ds = true → fzs lk ds = some ds
  | [], _ => by simp only [fzs]
  | d :: ds, e => by
    simp only [D.blws, Bool.and_eq_true] at e
    simp only [fzs, fz_blw h d e.1, fzs_blw h ds e.2, Option.map_some]
end
theorem lkc_lt {n k i : Nat} (h : i < n) : lkc st n k i = some (.ref i) := by
  cases k with
  | zero => simp only [lkc, if_pos h]
  | succ k => simp only [lkc, if_pos h]
mutual
theorem blw_of : ∀ (d : D) (v : V), Rep W ι H d v → d.blw ι.c.length = true
  | .non, _, _ => by simp only [D.blw]
  | .bl _, _, _ => by simp only [D.blw]
  | .int _, _, _ => by simp only [D.blw]
  | .str _, _, _ => by simp only [D.blw]
  | .ty _, _, _ => by simp only [D.blw]
  | .cls _, _, _ => by simp only [D.blw]
  | .scr _, _, _ => by simp only [D.blw]
  | .set _, _, _ => by simp only [D.blw]
  | .ref i, _, h => by
    simp only [Rep] at h
    obtain ⟨a, _, h⟩ := h
    simp only [D.blw, decide_eq_true_eq]
    exact (List.getElem?_eq_some_iff.mp h).1
  | .tup ds, _, h => by simp only [Rep] at h; obtain ⟨a, _, vs, _, h⟩ := h; simp only [D.blw]; exact blws_of ds vs h
  | .tpf ds, _, h => by simp only [Rep] at h; obtain ⟨a, _, o, vs, _, _, h⟩ := h; simp only [D.blw]; exact blws_of ds vs h
  | .lst ds, _, h => by simp only [Rep] at h; obtain ⟨a, _, _, vs, _, h⟩ := h; simp only [D.blw]; exact blws_of ds vs h
  | .dk _ ds, _, h => by simp only [Rep] at h; obtain ⟨a, _, _, vs, _, _, h⟩ := h; simp only [D.blw]; exact blws_of ds vs h
  | .dt _ ds, _, h => by simp only [Rep] at h; obtain ⟨a, _, _, vs, _, _, h⟩ := h; simp only [D.blw]; exact blws_of ds vs h
  | .ins _ _ ds, _, h => by simp only [Rep] at h; obtain ⟨a, _, _, _, vs, _, _, h⟩ := h; simp only [D.blw]; exact blws_of ds vs h
theorem blws_of : ∀ (ds : List D) (vs : List V), Reps W ι H ds vs → D.blws ι.c.length ds = true
  | [], _, _ => by simp only [D.blws]
  | d :: ds, _, h => by
    obtain ⟨v, r, rfl, h1, h2⟩ := h.uncons
    simp only [D.blws, Bool.and_eq_true]
    exact ⟨blw_of d v h1, blws_of ds r h2⟩
end
theorem cell_blw {a : Addr} {c : D} (h : CellOk W ι H a c) : c.blw ι.c.length = true := by
  cases c with
  | lst ds => obtain ⟨vs, _, h⟩ := h; simp only [D.blw]; exact blws_of ds vs h
  | dk ks ds => obtain ⟨vs, _, _, h⟩ := h; simp only [D.blw]; exact blws_of ds vs h
  | dt ks ds => obtain ⟨vs, _, _, h⟩ := h; simp only [D.blw]; exact blws_of ds vs h
  | set ns => simp only [D.blw]
  | ins n fs ds => obtain ⟨dx, vs, _, _, h⟩ := h; simp only [D.blw]; exact blws_of ds vs h
  | _ => exact h.elim
theorem reps_cut (r : RelH W ι H st) (n : Nat) {ds : List D} {vs : List V} (h : Reps W ι H ds vs) (b : D.blws n ds = true) : Reps W (ι.cut n) H ds vs :=
  fzs_ok (fun a (m : (ι.cut n).has a) => (show ι.has a from Or.imp (List.mem_of_mem_take (i := n)) id m)) (fun i a d' => lkc_ok r n 0 i a d') ds ds vs (fzs_blw (fun i hi => lkc_lt hi) ds b) h
theorem cell_cut (r : RelH W ι H st) (n : Nat) {a : Addr} {c : D} (h : CellOk W ι H a c) (b : c.blw n = true) : CellOk W (ι.cut n) H a c := by
  cases c with
  | lst ds => obtain ⟨vs, e, h⟩ := h; simp only [D.blw] at b; exact ⟨vs, e, reps_cut r n h b⟩
  | dk ks ds => obtain ⟨vs, e, l, h⟩ := h; simp only [D.blw] at b; exact ⟨vs, e, l, reps_cut r n h b⟩
  | dt ks ds => obtain ⟨vs, e, l, h⟩ := h; simp only [D.blw] at b; exact ⟨vs, e, l, reps_cut r n h b⟩
  | set ns => exact h
  | ins n fs ds => obtain ⟨dx, vs, e, l, h⟩ := h; simp only [D.blw] at b; exact ⟨dx, vs, e, l, reps_cut r _ h b⟩
  | _ => exact h.elim
end
def closeOk (st st1 : Store) : Prop := ∀ i, i < st.length → ∃ c, st1[i]? = some c ∧ (st[i]? = some c ∨ c.blw st.length = true)
open Classical in
noncomputable def fin (st : Store) (r : D) (s1 : Store) : Option (D × Store) := match fz (lkc s1 st.length 3) r with
  | some r' => if closeOk st s1 then some (r', s1.take st.length) else none
  | none => none
def enter (N : Nat) (ds : List D) : Env := ds.map some ++ List.replicate (N - ds.length) none
noncomputable def mkF (N : Nat) (body : SM) : FM := fun ds st => match body (enter N ds) st with
  | some (.rt r, s1) => fin st r s1
  | some (.nx _, s1) => fin st .non s1
  | _ => none
def mkK (N : Nat) (body : SM) : FM := fun ds st => match body (enter N ds) st with
  | some (.rt r, s1) => some (r, s1)
  | some (.nx _, s1) => some (.non, s1)
  | _ => none
def spM (W : Wd) (n : Nat) (F : FM) : Sp := fun vs H Q _ => ∃ ι st ds d st', RelH W ι H st ∧ Reps W ι H ds vs ∧ ds.length = n ∧ F ds st = some (d, st') ∧ OkE W ι H d st' Q
section
variable {W : Wd} {ι ι1 : Lay} {H H1 : Hp} {st s1 : Store}
theorem close_ok (r : RelH W ι H st) (g : Grow ι H ι1 H1) (r1 : RelH W ι1 H1 s1) (c : closeOk st s1) : ι1.cut st.length = ι ∧ Grow ι H ι H1 ∧ RelH W ι H1 (s1.take st.length) := by
  have ec : ι1.c.take st.length = ι.c := by
    apply List.ext_getElem?
    intro i
    by_cases hi : i < st.length
    · rw [take_get _ hi]
      have hl : i < ι.c.length := by rw [r.len]; exact hi
      rw [List.getElem?_eq_getElem hl]
      exact g.pre i _ (List.getElem?_eq_getElem hl)
    · rw [List.getElem?_eq_none (by rw [List.length_take]; omega), List.getElem?_eq_none (by rw [r.len]; omega)]
  have e : ι1.cut st.length = ι := by
    cases ι
    simp only [Lay.cut]
    rw [ec, g.hid]
  refine ⟨e, ⟨fun _ _ h => h, g.keep, fun _ m => .inl m, rfl⟩, ?_, r.nd, r.dis, fun a m => r1.hidd a (by rw [g.hid]; exact m), fun i d h => ?_⟩
  · rw [List.length_take, r.len]
    have := r1.len
    have h2 : ι.c.length ≤ ι1.c.length := by rw [← ec, List.length_take]; omega
    rw [r.len] at h2
    omega
  · rw [List.getElem?_take] at h
    split at h
    · rename_i hi
      obtain ⟨c2, h2, h3⟩ := c i hi
      rw [h] at h2
      cases h2
      obtain ⟨a, h4, h5⟩ := r1.cell i d h
      have hb : d.blw st.length = true := by
        rcases h3 with h3 | h3
        · obtain ⟨b, _, h6⟩ := r.cell i d h3
          rw [← r.len]
          exact cell_blw h6
        · exact h3
      have h7 := cell_cut r1 st.length h5 hb
      rw [e] at h7
      refine ⟨a, ?_, h7⟩
      rw [← ec, take_get _ hi]
      exact h4
    · cases h
theorem fin_ok {d r0 : D} {st' : Store} {v : V} {Q : VK} (r : RelH W ι H st) (k : OkE W ι H d st' Q) (e : fin st r0 s1 = some (d, st')) (g : Grow ι H ι1 H1) (r1 : RelH W ι1 H1 s1) (p : Rep W ι1 H1 r0 v) : Q v H1 := by
  unfold fin at e
  split at e
  · rename_i r' q
    split at e
    · rename_i c
      cases e
      obtain ⟨e1, g2, r2⟩ := close_ok r g r1 c
      have p2 := fzn_ok r1 st.length 3 q p
      rw [e1] at p2
      exact k v ι H1 g2 r2 p2
    · cases e
  · cases e
theorem REnv.enter {N : List Str} {ds : List D} {vs : List V} (h : Reps W ι H ds vs) : REnv W ι H (enter N.length ds) (L2.start N vs) := by
  unfold My.enter L2.start
  refine ⟨by simp [h.length], fun i d e => ?_⟩
  by_cases hi : i < ds.length
  · rw [List.getElem?_append_left (by simpa using hi), List.getElem?_map, Option.map_eq_some_iff] at e
    obtain ⟨d', e1, e2⟩ := e
    cases e2
    obtain ⟨v, h1, h2⟩ := h.get e1
    exact ⟨v, by rw [List.getElem?_append_left (by rw [List.length_map, ← h.length]; exact hi), List.getElem?_map, h1]; rfl, h2⟩
  · rw [List.getElem?_append_right (by simpa using hi), List.getElem?_replicate] at e
    split at e <;> cases e
theorem mkF_ok {N : List Str} {n : Nat} {body : SM} {vs : List V} {Q : VK} {E : XK} (h : spM W n (mkF N.length body) vs H Q E) : TSt W body { nx := fun _ H' => Q .non H', rt := Q } (L2.start N vs) H := by
  obtain ⟨ι, st, ds, d, st', r, n, hl, e, k⟩ := h
  unfold mkF at e
  split at e
  · rename_i r0 s1 q
    exact TSt.of r (REnv.enter n) q fun v ι1 H1 g1 r1 p1 => fin_ok r k e g1 r1 p1
  · rename_i e1 s1 q
    exact TSt.of r (REnv.enter n) q fun v ι1 H1 g1 r1 _ => fin_ok r k e g1 r1 (by simp only [Rep])
  · cases e
theorem mkK_ok {N : List Str} {n : Nat} {body : SM} {vs : List V} {Q : VK} {E : XK} (h : spM W n (mkK N.length body) vs H Q E) : TSt W body { nx := fun _ H' => Q .non H', rt := Q } (L2.start N vs) H := by
  obtain ⟨ι, st, ds, d, st', r, n, hl, e, k⟩ := h
  unfold mkK at e
  split at e
  · rename_i r0 s1 q
    cases e
    exact TSt.of r (REnv.enter n) q k
  · rename_i e1 s1 q
    cases e
    exact TSt.of r (REnv.enter n) q fun v ι1 H1 g1 r1 _ => k _ _ _ g1 r1 (by simp only [Rep])
  · cases e
theorem spM_len {n : Nat} {F : FM} {vs : List V} {Q : VK} {E : XK} (h : spM W n F vs H Q E) : vs.length = n := by
  obtain ⟨ι, st, ds, d, st', r, q, hl, e, k⟩ := h
  rw [← q.length]; exact hl
end
section
variable {P : Program} {w : World} {K : PySem.W.Frag} {mg : Str → Option Value} {base : Heap} {W : Wd}
theorem jd {nm qual : Str} {st : Stmt} {f : Addr} {fd : FuncData} {N ps : List Str} {k : Nat} {body : SM} (F : Fun K nm qual st f fd) (S : FnScope N ps (defScope st))
    (h : ∀ (cdv : Value) (A : Around) (out : List PySem.Env) (s : Shared) (H : Hp) (E : XK), Room k (A.deeper (envOfC qual (defScope st) s.heap.objs.size f cdv)) → PSs (cxOf CX0 P w K mg base N qual (defScope st) f cdv A out s H E).nox (defBody st) (TSt W body)) :
    FnOk P w K mg base CX0 (k + 1) f fd ps (spM W ps.length (mkF N.length body)) :=
  F.ok S (fun vs H Q E h => spM_len h) fun cdv A out s H vs Q E hr q => ⟨_, h cdv A out s H E hr, mkF_ok q⟩
theorem jdK {nm qual : Str} {st : Stmt} {f : Addr} {fd : FuncData} {N ps : List Str} {k : Nat} {body : SM} (F : Fun K nm qual st f fd) (S : FnScope N ps (defScope st))
    (h : ∀ (cdv : Value) (A : Around) (out : List PySem.Env) (s : Shared) (H : Hp) (E : XK), Room k (A.deeper (envOfC qual (defScope st) s.heap.objs.size f cdv)) → PSs (cxOf CX0 P w K mg base N qual (defScope st) f cdv A out s H E).nox (defBody st) (TSt W body)) :
    FnOk P w K mg base CX0 (k + 1) f fd ps (spM W ps.length (mkK N.length body)) :=
  F.ok S (fun vs H Q E h => spM_len h) fun cdv A out s H vs Q E hr q => ⟨_, h cdv A out s H E hr, mkK_ok q⟩
theorem jdG {nm qual : Str} {st : Stmt} {f : Addr} {fd : FuncData} {N ps : List Str} {k : Nat} {body : SM} (F : Fun K nm qual st f fd) (S : FnScope N ps (defScope st))
    (h : ∀ (cdv : Value) (A : Around) (out : List PySem.Env) (s : Shared) (H : Hp), (A.deeper (envOfC qual (defScope st) s.heap.objs.size f cdv)).guards = some [] → Room k (A.deeper (envOfC qual (defScope st) s.heap.objs.size f cdv)) → PSs (cxOf CX0 P w K mg base N qual (defScope st) f cdv A out s H E0).nox (defBody st) (TSt W body)) :
    FnG P w K mg base (k + 1) f fd ps (spM W ps.length (mkF N.length body)) :=
  g_ok F S (fun vs H Q h => spM_len h) fun cdv A out s H vs Q hg hr q => ⟨_, h cdv A out s H hg hr, mkF_ok q⟩
end
section
variable {X : Cx} {W : Wd} {k n : Nat} {f : Addr} {fd : FuncData} {ps ks : List Str} {x : Str} {p pos : Pos} {e : Expr} {es : List Expr} {F : FM} {am : AM} {dvs : List V} {ds : List Value} {dds : List D} {E : XK}
open Classical in
noncomputable def eCallD (n : Nat) (F : FM) (dds : List D) (a : AM) : EM := fun env st => match a env st with
  | some (xs, s1) => if (xs ++ dds).length = n then F (xs ++ dds) s1 else none
  | none => none
theorem tCall_of (hdv : ∀ ι H, Reps W ι H dds dvs) {σ : L2.St} {H : Hp} {Q : VK} (h : T W (eCallD n F dds am) σ H Q) : tCall (spM W n F) dvs E (TAs W am) σ H Q := by
  obtain ⟨ι, st, env, d, st', r, q, e, k⟩ := h
  unfold eCallD at e
  split at e
  · rename_i xs s1 e1
    split at e
    · rename_i hl
      exact TA.of r q e1 fun vs ι1 H1 g1 r1 p1 => ⟨ι1, s1, xs ++ dds, d, st', r1, p1.append (hdv _ _), hl, e, k.go g1⟩
    · cases e
  · cases e
theorem j_call (F0 : FnOk X.prog X.w X.K X.mg X.base CX0 k f fd ps (spM W n F)) (hr : Room k X.A) (hg : Gl X x) (hm : X.mg x = some (.ref f)) (hk : PySem.W.keepIn X.K (.ref f) = true) (hb : Binds X.K fd ps ds) (hd : Vals dvs ds) (hdv : ∀ ι H, Reps W ι H dds dvs) (hx : Passes CX0 X E)
    (ha : PA X (e :: es) (TAs W am)) (hdb : (x == ("__debug__" : Str)) = false := by decide) (he : starEach (e :: es) X.env = (false, eval e X.env) :: starEach es X.env := by rfl) (hpl : (backTo pos (starEach es X.env)).any (·.1) = false := by rfl) :
    PE X (.Call (.Name x p) (e :: es) [] pos) (T W (eCallD n F dds am)) := (pe_call F0 hr hg hm hk hb hd hx ha hdb he hpl).imp fun _ _ _ => tCall_of hdv
theorem j_callG (hgd : X.A.guards = some []) (F0 : FnG X.prog X.w X.K X.mg X.base k f fd ps (spM W n F)) (hr : Room k X.A) (hg : Gl X x) (hm : X.mg x = some (.ref f)) (hk : PySem.W.keepIn X.K (.ref f) = true) (hb : Binds X.K fd ps [])
    (ha : PA X (e :: es) (TAs W am)) (he : starEach (e :: es) X.env = (false, eval e X.env) :: starEach es X.env := by rfl) (hpl : (backTo pos (starEach es X.env)).any (·.1) = false := by rfl)
    (hdb : (x == ("__debug__" : Str)) = false := by decide) : PE X (.Call (.Name x p) (e :: es) [] pos) (T W (eCallD n F [] am)) := (pe_callG hgd F0 hr hg hm hk hb ha he hpl hdb).imp fun _ _ _ => tCall_of fun _ _ => Reps.nil
open Classical in
noncomputable def eCallN (n j m : Nat) (F : FM) (g : List D → List D → List D) (a b : AM) : EM := fun env st => match a env st with
  | some (xs, s1) => match b env s1 with
    | some (zs, s2) => if xs.length = j ∧ zs.length = m ∧ (g xs zs).length = n then F (g xs zs) s2 else none
    | none => none
  | none => none
end
end My

namespace My
open PySem PySem.Spec PyProof.Rows L2

def sc : D → Option V
  | .non => some .non
  | .bl b => some (.bl b)
  | .int i => some (.int i)
  | .str x => some (.str x)
  | _ => none
def scs : List D → Option (List V)
  | [] => some []
  | d :: ds => match sc d with
    | some v => (scs ds).map (v :: ·)
    | none => none
def intsOf : List D → Option (List Int)
  | [] => some []
  | .int i :: ds => (intsOf ds).map (i :: ·)
  | _ => none
def bolsOf : List D → Option (List Bool)
  | [] => some []
  | .bl i :: ds => (bolsOf ds).map (i :: ·)
  | _ => none
def keyOf : D → Option Key
  | .int i => some (.inl i)
  | .str x => some (.inr x)
  | _ => none
def keysOf : List D → Option (List Key)
  | [] => some []
  | d :: ds => match keyOf d with
    | some k => (keysOf ds).map (k :: ·)
    | none => none
def tkeyOf : D → Option (List Key)
  | .tup ds => keysOf ds
  | _ => none
theorem bolsOf_map (ns : List Bool) : bolsOf (ns.map D.bl) = some ns := by
  induction ns with
  | nil => rfl
  | cons n ns ih => simp only [List.map_cons, bolsOf, ih, Option.map_some]
theorem intsOf_eq : ∀ {ds : List D} {ns : List Int}, intsOf ds = some ns → ds = ns.map D.int
  | [], _, h => by cases h; rfl
  | d :: ds, ns, h => by
    cases d with
    | int i =>
      simp only [intsOf, Option.map_eq_some_iff] at h
      obtain ⟨ms, h1, rfl⟩ := h
      rw [intsOf_eq h1]; rfl
    | _ => simp [intsOf] at h
theorem bolsOf_eq : ∀ {ds : List D} {ns : List Bool}, bolsOf ds = some ns → ds = ns.map D.bl
  | [], _, h => by cases h; rfl
  | d :: ds, ns, h => by
    cases d with
    | bl i =>
      simp only [bolsOf, Option.map_eq_some_iff] at h
      obtain ⟨ms, h1, rfl⟩ := h
      rw [bolsOf_eq h1]; rfl
    | _ => simp [bolsOf] at h
section
variable {W : Wd} {ι : Lay} {H : Hp} {st : Store} {d : D} {v : V}
theorem sc_ok {u : V} (e : sc d = some u) (h : Rep W ι H d v) : v = u := by
  cases d <;> simp only [sc] at e <;> cases e <;> simpa only [Rep] using h
theorem scs_ok : ∀ {ds : List D} {us vs : List V}, scs ds = some us → Reps W ι H ds vs → vs = us
  | [], _, _, e, h => by cases e; exact h.nil_of
  | d :: ds, _, _, e, h => by
    obtain ⟨v, r, rfl, h1, h2⟩ := h.uncons
    simp only [scs] at e
    split at e
    · rename_i u q
      rw [Option.map_eq_some_iff] at e
      obtain ⟨us, e1, rfl⟩ := e
      rw [sc_ok q h1, scs_ok e1 h2]
    · cases e
theorem flat_sc {u : V} (e : sc d = some u) : flatV u = true := by
  cases d <;> simp only [sc] at e <;> cases e <;> rfl
theorem flat_scs : ∀ {ds : List D} {us : List V}, scs ds = some us → us.all flatV = true
  | [], _, e => by cases e; rfl
  | d :: ds, _, e => by
    simp only [scs] at e
    split at e
    · rename_i u q
      rw [Option.map_eq_some_iff] at e
      obtain ⟨us, e1, rfl⟩ := e
      rw [List.all_cons, flat_sc q, flat_scs e1]; rfl
    · cases e
theorem keyOf_ok {k : Key} (e : keyOf d = some k) (h : Rep W ι H d v) : v = kV k := by
  cases d <;> simp only [keyOf] at e <;> cases e <;> (simp only [Rep] at h; exact h)
theorem keysOf_ok : ∀ {ds : List D} {ks : List Key} {vs : List V}, keysOf ds = some ks → Reps W ι H ds vs → vs = ks.map kV
  | [], _, _, e, h => by cases e; exact h.nil_of
  | d :: ds, _, _, e, h => by
    obtain ⟨v, r, rfl, h1, h2⟩ := h.uncons
    simp only [keysOf] at e
    split at e
    · rename_i u q
      rw [Option.map_eq_some_iff] at e
      obtain ⟨us, e1, rfl⟩ := e
      rw [keyOf_ok q h1, keysOf_ok e1 h2]; rfl
    · cases e
end

section
variable {κ : Type} [DecidableEq κ]
def kGet (ks : List κ) (vs : List D) (k : κ) : Option D := ((ks.zip vs).find? fun kv => decide (kv.1 = k)).map (·.2)
def kRepl (ks : List κ) (vs : List D) (k : κ) (v : D) : List D := (ks.zip vs).map fun kv => if kv.1 = k then v else kv.2
def kHas (ks : List κ) (k : κ) : Bool := ks.any fun j => decide (j = k)
def kPutK (ks : List κ) (k : κ) : List κ := if kHas ks k = true then ks else ks ++ [k]
def kPutV (ks : List κ) (vs : List D) (k : κ) (v : D) : List D := if kHas ks k = true then kRepl ks vs k v else vs ++ [v]
variable {W : Wd} {ι : Lay} {H : Hp}
theorem kGet_ok {k : κ} : ∀ {ks : List κ} {ds : List D} {us : List V}, Reps W ι H ds us → (∀ d, kGet ks ds k = some d → ∃ u, valV (ks.zip us) k = some u ∧ Rep W ι H d u) ∧ (kGet ks ds k = none → valV (ks.zip us) k = none)
  | [], _, _, _ => ⟨fun d e => by simp [kGet] at e, fun _ => rfl⟩
  | j :: ks, [], us, h => by rw [h.nil_of]; exact ⟨fun d e => by simp [kGet] at e, fun _ => rfl⟩
  | j :: ks, d :: ds, us, h => by
    obtain ⟨u, r, rfl, h1, h2⟩ := h.uncons
    obtain ⟨i1, i2⟩ := kGet_ok (k := k) (ks := ks) h2
    by_cases e : j = k
    · constructor
      · intro x hx
        simp only [kGet, List.zip_cons_cons, List.find?_cons, e, decide_true] at hx
        cases hx
        exact ⟨u, by simp [valV, e], h1⟩
      · intro hx
        simp [kGet, e] at hx
    · have e1 : kGet (j :: ks) (d :: ds) k = kGet ks ds k := by simp [kGet, List.find?_cons, e]
      have e2 : valV ((j :: ks).zip (u :: r)) k = valV (ks.zip r) k := by simp [valV, List.find?_cons, e]
      rw [e1, e2]
      exact ⟨i1, i2⟩
theorem kHas_any {k : κ} : ∀ {ks : List κ} {us : List V}, ks.length = us.length → ((ks.zip us).any fun kv => decide (kv.1 = k)) = kHas ks k
  | [], _, _ => rfl
  | j :: ks, u :: us, h => by
    simp only [List.zip_cons_cons, List.any_cons, kHas]
    rw [kHas_any (ks := ks) (us := us) (by simpa using h)]; rfl
  | _ :: _, [], h => by simp at h
theorem kPut_ok {k : κ} {ks : List κ} {ds : List D} {us : List V} {d : D} {u : V} (h : Reps W ι H ds us) (hl : ks.length = ds.length) (hd : Rep W ι H d u) : ∃ us', putK (ks.zip us) k u = (kPutK ks k).zip us' ∧ (kPutK ks k).length = (kPutV ks ds k d).length ∧ Reps W ι H (kPutV ks ds k d) us' := by
  have hlu : ks.length = us.length := hl.trans h.length
  unfold putK kPutK kPutV
  rw [kHas_any hlu]
  by_cases q : kHas ks k = true
  · rw [if_pos q, if_pos q, if_pos q]
    have main : ∀ (ks : List κ) (ds : List D) (us : List V), Reps W ι H ds us → ks.length = ds.length → ∃ us', (ks.zip us).map (fun kv => if kv.1 = k then (kv.1, u) else kv) = ks.zip us' ∧ ks.length = (kRepl ks ds k d).length ∧ Reps W ι H (kRepl ks ds k d) us' := by
      intro ks
      induction ks with
      | nil =>
        intro ds us h hl
        cases ds with
        | nil => exact ⟨[], rfl, rfl, Reps.nil⟩
        | cons _ _ => simp at hl
      | cons j ks ih =>
        intro ds us h hl
        cases ds with
        | nil => simp at hl
        | cons x ds =>
          obtain ⟨v, r, rfl, h1, h2⟩ := h.uncons
          obtain ⟨us', e1, e2, e3⟩ := ih ds r h2 (by simpa using hl)
          by_cases e : j = k
          · refine ⟨u :: us', ?_, ?_, ?_⟩
            · simp only [List.zip_cons_cons, List.map_cons, e1, if_pos e]
            · simp only [kRepl, List.zip_cons_cons, List.map_cons, List.length_cons] at e2 ⊢; omega
            · simp only [kRepl, List.zip_cons_cons, List.map_cons, if_pos e]; exact Reps.cons hd e3
          · refine ⟨v :: us', ?_, ?_, ?_⟩
            · simp only [List.zip_cons_cons, List.map_cons, e1, if_neg e]
            · simp only [kRepl, List.zip_cons_cons, List.map_cons, List.length_cons] at e2 ⊢; omega
            · simp only [kRepl, List.zip_cons_cons, List.map_cons, if_neg e]; exact Reps.cons h1 e3
    exact main ks ds us h hl
  · rw [if_neg q, if_neg q, if_neg q]
    refine ⟨us ++ [u], ?_, by simp [hl], h.append (Reps.cons hd Reps.nil)⟩
    rw [List.zip_append hlu]; rfl
end

open Classical in
noncomputable def dAdd (a b : D) (st : Store) : Option D := match a, b with
  | .int i, .int j => some (.int (i + j))
  | .str x, .str y => if x.length + y.length ≤ sizeLine then some (.str (x ++ y)) else none
  | _, _ => match seqL st a, seqL st b with
    | some xs, some ys => if xs.length + ys.length ≤ sizeLine then some (.lst (xs ++ ys)) else none
    | _, _ => match seqT a, seqT b with
      | some xs, some ys => if xs.length + ys.length ≤ sizeLine then some (.tup (xs ++ ys)) else none
      | _, _ => none
def dSub (a b : D) (_ : Store) : Option D := match a, b with
  | .int i, .int j => some (.int (i - j))
  | _, _ => none
open Classical in
noncomputable def dMul (a b : D) (st : Store) : Option D := match a, b with
  | .int i, .int j => if CMulW i j then some (.int (i * j)) else none
  | .tup xs, .int k => if xs ≠ [] ∧ -(2 ^ 63) ≤ k ∧ k ≤ 1000 ∧ xs.length ≤ 1000 then some (.tup (List.replicate k.toNat xs).flatten) else none
  | _, .int k => match seqL st a with
    | some xs => if -(2 ^ 63) ≤ k ∧ k < 2 ^ 63 ∧ xs.length * k.toNat ≤ sizeLine then some (.lst (List.replicate k.toNat xs).flatten) else none
    | none => none
  | _, _ => none
open Classical in
noncomputable def dFdiv (a b : D) (_ : Store) : Option D := match a, b with
  | .int i, .int j => if CDivW i j then some (.int (i / j)) else none
  | _, _ => none
open Classical in
noncomputable def dMod (a b : D) (_ : Store) : Option D := match a, b with
  | .int i, .int j => if 0 < j then some (.int (i % j)) else none
  | _, _ => none
open Classical in
noncomputable def dPow (a b : D) (_ : Store) : Option D := match a, b with
  | .int i, .int j => if CPowW i j then some (.int (i ^ j.toNat)) else none
  | _, _ => none
def dNeg (a : D) (_ : Store) : Option D := match a with
  | .int i => some (.int (-i))
  | _ => none
def dLt (a b : D) (_ : Store) : Option D := match a, b with
  | .int i, .int j => some (.bl (decide (i < j)))
  | _, _ => none
def dLe (a b : D) (_ : Store) : Option D := match a, b with
  | .int i, .int j => some (.bl (decide (i ≤ j)))
  | _, _ => none
def dGt (a b : D) (_ : Store) : Option D := match a, b with
  | .int i, .int j => some (.bl (decide (j < i)))
  | _, _ => none
def dGe (a b : D) (_ : Store) : Option D := match a, b with
  | .int i, .int j => some (.bl (decide (j ≤ i)))
  | _, _ => none
def eqB (a b : D) (st : Store) : Option Bool := match a, b with
  | .int i, .int j => some (decide (i = j))
  | .str i, .str j => some (decide (i = j))
  | .bl i, .bl j => some (decide (i = j))
  | .non, .non => some true
  | .int _, .str _ => some false
  | .str _, .int _ => some false
  | .bl _, .str _ => some false
  | .str _, .bl _ => some false
  | .non, .int _ => some false
  | .int _, .non => some false
  | .non, .bl _ => some false
  | .bl _, .non => some false
  | .non, .str _ => some false
  | .str _, .non => some false
  | _, _ => match pyOf st a, pyOf st b with
    | some p, some q => if SeqAt.shaped p = true ∧ SeqAt.shaped q = true then some (PyData.eqv p q) else none
    | _, _ => none
def dEq (a b : D) (st : Store) : Option D := (eqB a b st).map .bl
def dNe (a b : D) (st : Store) : Option D := (eqB a b st).map fun c => .bl (!c)
def dIs (a b : D) (_ : Store) : Option D := match b with
  | .non => match a with
    | .non => some (.bl true)
    | _ => some (.bl false)
  | .bl j => match a with
    | .bl i => some (.bl (decide (i = j)))
    | _ => none
  | _ => none
def inB (a b : D) (st : Store) : Option Bool := match seqA st b with
  | some ys => match sc a, scs ys with
    | some x, some us => some (inV x us)
    | _, _ => none
  | none => match dicK st b with
    | some (ks, vs) => match keyOf a with
      | some k => some (kGet ks vs k).isSome
      | none => none
    | none => match dicT st b with
      | some (ks, vs) => match tkeyOf a with
        | some k => some (kGet ks vs k).isSome
        | none => none
      | none => match a, b with
        | .str x, .str y => some (!(Builtin.Str.occurrences y x 0 y.length 1).isEmpty)
        | _, _ => none
def dIn (a b : D) (st : Store) : Option D := (inB a b st).map .bl
open Classical in
noncomputable def dIx (a b : D) (st : Store) : Option D := match seqA st a with
  | some xs => match b with
    | .int i => atI xs i
    | _ => none
  | none => match dicK st a with
    | some (ks, vs) => match keyOf b with
      | some k => kGet ks vs k
      | none => none
    | none => match dicT st a with
      | some (ks, vs) => match tkeyOf b with
        | some k => kGet ks vs k
        | none => none
      | none => match a, b with
        | .str z, .int i => if z.length ≤ sizeLine then (atI z.cps.toList i).map fun c => .str ⟨#[c]⟩ else none
        | _, _ => none
section
variable {X : Cx} {W : Wd}
theorem rep_int {ι : Lay} {H : Hp} {i : Int} {v : V} (h : Rep W ι H (.int i) v) : v = .int i := by simpa only [Rep] using h
theorem rep_str {ι : Lay} {H : Hp} {i : Str} {v : V} (h : Rep W ι H (.str i) v) : v = .str i := by simpa only [Rep] using h
theorem rep_bl {ι : Lay} {H : Hp} {i : Bool} {v : V} (h : Rep W ι H (.bl i) v) : v = .bl i := by simpa only [Rep] using h
theorem rep_non {ι : Lay} {H : Hp} {v : V} (h : Rep W ι H .non v) : v = .non := by simpa only [Rep] using h
theorem int_rep {ι : Lay} {H : Hp} {i : Int} : Rep W ι H (.int i) (.int i) := by simp only [Rep]
theorem str_rep {ι : Lay} {H : Hp} {i : Str} : Rep W ι H (.str i) (.str i) := by simp only [Rep]
theorem bl_rep {ι : Lay} {H : Hp} {i : Bool} : Rep W ι H (.bl i) (.bl i) := by simp only [Rep]
theorem jo_add (hK : X.K = W.K) : OpR X (binaryOp .Add) (M2 W dAdd) := by
  intro pins s σ H x y v u Q I rx ry ⟨ι, st, a, b, d, r, ha, hb, e, k⟩
  unfold dAdd at e
  split at e
  · cases e
    cases rep_int ha
    cases rep_int hb
    exact op_add pins s σ H _ _ v u Q I rx ry ⟨_, _, rfl, rfl, k.now r int_rep⟩
  · split at e
    · rename_i hz
      cases e
      cases rep_str ha
      cases rep_str hb
      exact op_add_str pins s σ H _ _ v u Q I rx ry ⟨_, _, rfl, rfl, hz, k.now r str_rep⟩
    · cases e
  · split at e
    · rename_i xs ys q1 q2
      split at e
      · rename_i hz
        cases e
        obtain ⟨p, us, rfl, h1, h2⟩ := seqL_ok r ha q1
        obtain ⟨p', us', rfl, h3, h4⟩ := seqL_ok r hb q2
        exact op_cat pins s σ H _ _ v u Q I rx ry ⟨p, p', us, us', rfl, rfl, h1, h3, by rw [← h2.length, ← h4.length]; exact hz, fun l hl => k.lst r (h2.append h4) hl⟩
      · cases e
    · split at e
      · rename_i xs ys q1 q2
        split at e
        · rename_i hz
          cases e
          obtain ⟨p, us, rfl, h1, h2⟩ := seqT_ok ha q1
          obtain ⟨p', us', rfl, h3, h4⟩ := seqT_ok hb q2
          refine op_catA pins s σ H _ _ v u Q I rx ry ⟨p, p', us, us', rfl, rfl, SqT.of h1, SqT.of h3, by rw [← h2.length, ← h4.length]; exact hz, fun z => ?_, fun _ z => ?_, fun _ _ l hl => k.tup r (h2.append h4) hl⟩
          · have e1 : xs = [] := List.length_eq_zero_iff.mp (by rw [h2.length, z]; rfl)
            refine k.now r ?_
            simp only [Rep, e1, List.nil_append]
            exact ⟨p', rfl, us', h3, h4⟩
          · have e1 : ys = [] := List.length_eq_zero_iff.mp (by rw [h4.length, z]; rfl)
            refine k.now r ?_
            simp only [Rep, e1, List.append_nil]
            exact ⟨p, rfl, us, h1, h2⟩
        · cases e
      · cases e
theorem jo_sub : OpR X (binaryOp .Sub) (M2 W dSub) := by
  intro pins s σ H x y v u Q I rx ry ⟨ι, st, a, b, d, r, ha, hb, e, k⟩
  unfold dSub at e
  split at e
  · cases e
    cases rep_int ha
    cases rep_int hb
    exact op_sub pins s σ H _ _ v u Q I rx ry ⟨_, _, rfl, rfl, k.now r int_rep⟩
  · cases e
theorem jo_mod : OpR X (binaryOp .Mod) (M2 W dMod) := by
  intro pins s σ H x y v u Q I rx ry ⟨ι, st, a, b, d, r, ha, hb, e, k⟩
  unfold dMod at e
  split at e
  · split at e
    · rename_i h
      cases e
      cases rep_int ha
      cases rep_int hb
      exact op_mod pins s σ H _ _ v u Q I rx ry ⟨_, _, rfl, rfl, h, k.now r int_rep⟩
    · cases e
  · cases e
theorem jo_fdiv : OpR X (binaryOp .FloorDiv) (M2 W dFdiv) := by
  intro pins s σ H x y v u Q I rx ry ⟨ι, st, a, b, d, r, ha, hb, e, k⟩
  unfold dFdiv at e
  split at e
  · split at e
    · rename_i h
      cases e
      cases rep_int ha
      cases rep_int hb
      exact op_fdivW pins s σ H _ _ v u Q I rx ry ⟨_, _, rfl, rfl, h, k.now r int_rep⟩
    · cases e
  · cases e
theorem jo_pow : OpR X (binaryOp .Pow) (M2 W dPow) := by
  intro pins s σ H x y v u Q I rx ry ⟨ι, st, a, b, d, r, ha, hb, e, k⟩
  unfold dPow at e
  split at e
  · split at e
    · rename_i h
      cases e
      cases rep_int ha
      cases rep_int hb
      exact op_powW pins s σ H _ _ v u Q I rx ry ⟨_, _, rfl, rfl, h, k.now r int_rep⟩
    · cases e
  · cases e
theorem jo_lt : OpR X (compareOp .Lt) (M2 W dLt) := by
  intro pins s σ H x y v u Q I rx ry ⟨ι, st, a, b, d, r, ha, hb, e, k⟩
  unfold dLt at e
  split at e
  · cases e
    cases rep_int ha
    cases rep_int hb
    exact op_lt pins s σ H _ _ v u Q I rx ry ⟨_, _, rfl, rfl, k.now r bl_rep⟩
  · cases e
theorem jo_le : OpR X (compareOp .LtE) (M2 W dLe) := by
  intro pins s σ H x y v u Q I rx ry ⟨ι, st, a, b, d, r, ha, hb, e, k⟩
  unfold dLe at e
  split at e
  · cases e
    cases rep_int ha
    cases rep_int hb
    exact op_le pins s σ H _ _ v u Q I rx ry ⟨_, _, rfl, rfl, k.now r bl_rep⟩
  · cases e
theorem jo_gt : OpR X (compareOp .Gt) (M2 W dGt) := by
  intro pins s σ H x y v u Q I rx ry ⟨ι, st, a, b, d, r, ha, hb, e, k⟩
  unfold dGt at e
  split at e
  · cases e
    cases rep_int ha
    cases rep_int hb
    exact op_gt pins s σ H _ _ v u Q I rx ry ⟨_, _, rfl, rfl, k.now r bl_rep⟩
  · cases e
theorem jo_ge : OpR X (compareOp .GtE) (M2 W dGe) := by
  intro pins s σ H x y v u Q I rx ry ⟨ι, st, a, b, d, r, ha, hb, e, k⟩
  unfold dGe at e
  split at e
  · cases e
    cases rep_int ha
    cases rep_int hb
    exact op_ge pins s σ H _ _ v u Q I rx ry ⟨_, _, rfl, rfl, k.now r bl_rep⟩
  · cases e
theorem eqB_ok {ι : Lay} {H : Hp} {st : Store} {a b : D} {c : Bool} {x y : V} (r : RelH W ι H st) (ha : Rep W ι H a x) (hb : Rep W ι H b y) (e : eqB a b st = some c) :
    (scal x y = true ∧ decide (x = y) = c) ∨ ∃ p q, Dp W.K H x p ∧ Dp W.K H y q ∧ SeqAt.shaped p = true ∧ SeqAt.shaped q = true ∧ PyData.eqv p q = c := by
  unfold eqB at e
  split at e
  all_goals first
    | (cases e; left; cases rep_int ha; cases rep_int hb; exact ⟨rfl, by simp⟩)
    | (cases e; left; cases rep_str ha; cases rep_str hb; exact ⟨rfl, by simp⟩)
    | (cases e; left; cases rep_bl ha; cases rep_bl hb; exact ⟨rfl, by simp⟩)
    | (cases e; left; cases rep_non ha; cases rep_non hb; exact ⟨rfl, by simp⟩)
    | (cases e; left; cases rep_int ha; cases rep_str hb; exact ⟨rfl, by simp⟩)
    | (cases e; left; cases rep_str ha; cases rep_int hb; exact ⟨rfl, by simp⟩)
    | (cases e; left; cases rep_bl ha; cases rep_str hb; exact ⟨rfl, by simp⟩)
    | (cases e; left; cases rep_str ha; cases rep_bl hb; exact ⟨rfl, by simp⟩)
    | (cases e; left; cases rep_non ha; cases rep_int hb; exact ⟨rfl, by simp⟩)
    | (cases e; left; cases rep_int ha; cases rep_non hb; exact ⟨rfl, by simp⟩)
    | (cases e; left; cases rep_non ha; cases rep_bl hb; exact ⟨rfl, by simp⟩)
    | (cases e; left; cases rep_bl ha; cases rep_non hb; exact ⟨rfl, by simp⟩)
    | (cases e; left; cases rep_non ha; cases rep_str hb; exact ⟨rfl, by simp⟩)
    | (cases e; left; cases rep_str ha; cases rep_non hb; exact ⟨rfl, by simp⟩)
    | skip
  split at e
  · rename_i p q e1 e2
    split at e
    · rename_i hs
      cases e
      exact .inr ⟨p, q, pyOf_ok r e1 ha, pyOf_ok r e2 hb, hs.1, hs.2, rfl⟩
    · cases e
  · cases e
theorem jo_eq (hK : X.K = W.K) (hu : X.A.units + 64 < cLine) : OpR X (compareOp .Eq) (M2 W dEq) := by
  intro pins s σ H x y v u Q I rx ry ⟨ι, st, a, b, d, r, ha, hb, e, k⟩
  unfold dEq at e
  rw [Option.map_eq_some_iff] at e
  obtain ⟨c, e, rfl⟩ := e
  rcases eqB_ok r ha hb e with ⟨h1, h2⟩ | ⟨p, q, h1, h2, h3, h4, h5⟩
  · refine op_eq pins s σ H x y v u Q I rx ry ⟨h1, ?_⟩
    rw [h2]; exact k.now r bl_rep
  · rw [← hK] at h1 h2
    refine op_eqD hu pins s σ H x y v u Q I rx ry ⟨p, q, h1, h2, h3, h4, ?_⟩
    rw [h5]; exact k.now r bl_rep
theorem jo_ne (hK : X.K = W.K) (hu : X.A.units + 64 < cLine) : OpR X (compareOp .NotEq) (M2 W dNe) := by
  intro pins s σ H x y v u Q I rx ry ⟨ι, st, a, b, d, r, ha, hb, e, k⟩
  unfold dNe at e
  rw [Option.map_eq_some_iff] at e
  obtain ⟨c, e, rfl⟩ := e
  rcases eqB_ok r ha hb e with ⟨h1, h2⟩ | ⟨p, q, h1, h2, h3, h4, h5⟩
  · refine op_ne pins s σ H x y v u Q I rx ry ⟨h1, ?_⟩
    rw [h2]; exact k.now r bl_rep
  · rw [← hK] at h1 h2
    refine op_neD hu pins s σ H x y v u Q I rx ry ⟨p, q, h1, h2, h3, h4, ?_⟩
    rw [h5]; exact k.now r bl_rep
theorem rep_nn {ι : Lay} {H : Hp} {a : D} {x : V} (ha : Rep W ι H a x) (h : a ≠ .non) : decide (x = .non) = false := by
  refine decide_eq_false fun z => ?_
  subst z
  cases a with
  | non => exact h rfl
  | _ => simp [Rep] at ha
theorem jo_is : OpR X (compareOp .Is) (M2 W dIs) := by
  intro pins s σ H x y v u Q I rx ry ⟨ι, st, a, b, d, r, ha, hb, e, k⟩
  unfold dIs at e
  split at e
  · cases rep_non hb
    refine op_isN pins s σ H _ _ v u Q I rx ry ⟨rfl, ?_⟩
    split at e
    · cases e
      cases rep_non ha
      exact k.now r bl_rep
    · rename_i hn
      cases e
      rw [rep_nn ha hn]
      exact k.now r bl_rep
  · split at e
    · cases e
      cases rep_bl ha
      cases rep_bl hb
      exact op_isBl pins s σ H _ _ v u Q I rx ry ⟨_, _, rfl, rfl, k.now r bl_rep⟩
    · cases e
  · cases e
theorem SqE {K K' : PySem.W.Frag} (h : K = K') {H : Hp} {p : Addr} {xs : List V} (q : SqL K' H p xs ∨ SqT K' H p xs) : SqL K H p xs ∨ SqT K H p xs := by subst h; exact q
theorem atI_rep {ι : Lay} {H : Hp} {ds : List D} {vs : List V} {i : Int} {d : D} (h : Reps W ι H ds vs) (e : atI ds i = some d) : ∃ v, atI vs i = some v ∧ Rep W ι H d v := by
  unfold atI at e ⊢
  rw [← h.length]
  rw [Option.bind_eq_some_iff] at e
  obtain ⟨j, h1, h2⟩ := e
  obtain ⟨v, h3, h4⟩ := h.get h2
  exact ⟨v, by rw [h1]; exact h3, h4⟩
theorem ix_dget (hu : X.A.units + 1 < cLine) : IxR X (fun x y H Q => ∃ a v, x = .ref a ∧ DGet H a y (some v) ∧ Q v H) := by
  intro value slice pins s σ H x y v u Q I rx ry ⟨a, z, e, g, q⟩ hs
  subst e
  cases rx
  refine tail_any (ops := [.ref a, u]) (dict_typeIs I g) PySem.F.slot_dict_getitem.lookup (d_getItem hu I g ry fun w' s3 I3 rw' => ⟨z, H, I3, rw', q⟩) hs
theorem ji_ix (hK : X.K = W.K) (hu : X.A.units + 1 < cLine) : IxR X (M2 W dIx) := by
  intro value slice pins s σ H x y v u Q I rx ry ⟨ι, st, a, b, d, r, ha, hb, e, k⟩ hs
  unfold dIx at e
  split at e
  · rename_i xs q
    obtain ⟨p, us, rfl, h1, h2⟩ := seqA_ok r ha q
    split at e
    · rename_i i
      cases rep_int hb
      obtain ⟨z, h3, h4⟩ := atI_rep h2 e
      rcases SqE hK h1 with h1 | h1
      · exact ix_list value slice pins s σ H _ _ v u Q I rx ry ⟨p, us, i, z, rfl, rfl, h1, h3, k.now r h4⟩ hs
      · exact ix_tup value slice pins s σ H _ _ v u Q I rx ry ⟨p, us, i, z, rfl, rfl, h1, h3, k.now r h4⟩ hs
    · cases e
  · split at e
    · rename_i ks vs q
      obtain ⟨p, us, rfl, h1, h2, h3⟩ := dicK_ok r ha q
      split at e
      · rename_i kk q2
        obtain ⟨z, h4, h5⟩ := (kGet_ok h3).1 d e
        cases keyOf_ok q2 hb
        have g := DGet.k (k := kk) h1
        rw [h4] at g
        exact ix_dget hu value slice pins s σ H _ _ v u Q I rx ry ⟨p, z, rfl, g, k.now r h5⟩ hs
      · cases e
    · split at e
      · rename_i ks vs q
        obtain ⟨p, us, rfl, h1, h2, h3⟩ := dicT_ok r ha q
        split at e
        · rename_i kk q2
          obtain ⟨z, h4, h5⟩ := (kGet_ok h3).1 d e
          unfold tkeyOf at q2
          split at q2
          · rename_i ds
            obtain ⟨b', ws, rfl, h6, h7⟩ := seqT_ok hb (xs := ds) rfl
            have e7 := keysOf_ok q2 h7
            subst e7
            have g := DGet.t (k := kk) h1 h6
            rw [h4] at g
            exact ix_dget hu value slice pins s σ H _ _ v u Q I rx ry ⟨p, z, rfl, g, k.now r h5⟩ hs
          · cases q2
        · cases e
      · split at e
        · rename_i z i _ _ _
          split at e
          · rename_i hz
            rw [Option.map_eq_some_iff] at e
            obtain ⟨c, e1, rfl⟩ := e
            cases rep_str ha
            cases rep_int hb
            exact ix_str value slice pins s σ H _ _ v u Q I rx ry ⟨z, i, c, rfl, rfl, hz, e1, k.now r str_rep⟩ hs
          · cases e
        · cases e
end
end My

namespace My
open PySem PySem.Spec PyProof.Rows L2

theorem Reps.rep {W : Wd} {ι : Lay} {H : Hp} {ds : List D} {vs : List V} (h : Reps W ι H ds vs) : ∀ k : Nat, Reps W ι H (List.replicate k ds).flatten (List.replicate k vs).flatten
  | 0 => by simpa using Reps.nil
  | k + 1 => by
    rw [List.replicate_succ, List.replicate_succ, List.flatten_cons, List.flatten_cons]
    exact Reps.append h (Reps.rep h k)
section
variable {X : Cx} {W : Wd}
theorem Grow.same {ι : Lay} {H H' : Hp} (s : Same H H') : Grow ι H ι H' := ⟨fun _ _ h => h, fun a o _ h => s a o h, fun _ m => .inl m, rfl⟩
theorem RelH.same {ι : Lay} {H H' : Hp} {st : Store} (r : RelH W ι H st) (s : Same H H') : RelH W ι H' st :=
  ⟨r.len, r.nd, r.dis, fun a m => by
    obtain ⟨o, e⟩ := r.hidd a m
    exact ⟨o, s _ _ e⟩, fun i c e => by
    obtain ⟨a, h1, h2⟩ := r.cell i c e
    exact ⟨a, h1, h2.move (Grow.same s).gro fun o q => s _ _ q⟩⟩
theorem jo_mul (hK : X.K = W.K) : OpR X (binaryOp .Mult) (M2 W dMul) := by
  intro pins s σ H x y v u Q I rx ry ⟨ι, st, a, b, d, r, ha, hb, e, k⟩
  unfold dMul at e
  split at e
  · split at e
    · rename_i h
      cases e
      cases rep_int ha
      cases rep_int hb
      exact op_mulW pins s σ H _ _ v u Q I rx ry ⟨_, _, rfl, rfl, h, k.now r int_rep⟩
    · cases e
  · split at e
    · rename_i xs n h
      cases e
      cases rep_int hb
      obtain ⟨p, us, rfl, h1, h2⟩ := seqT_ok ha (xs := xs) rfl
      refine op_repA pins s σ H _ _ v u Q I rx ry ⟨p, n, us, rfl, rfl, h1, fun z => h.1 (List.length_eq_zero_iff.mp (by rw [h2.length, z]; rfl)), h.2.1, h.2.2.1, by rw [← h2.length]; exact h.2.2.2, fun q H' sm hq => ?_⟩
      refine k _ ι H' (Grow.same sm) (r.same sm) ?_
      simp only [Rep]
      exact ⟨q, rfl, _, hq, Reps.grow (Grow.same sm) _ _ (h2.rep _)⟩
    · cases e
  · split at e
    · rename_i xs q
      split at e
      · rename_i h
        cases e
        cases rep_int hb
        obtain ⟨p, us, rfl, h1, h2⟩ := seqL_ok r ha q
        exact op_rep pins s σ H _ _ v u Q I rx ry ⟨p, _, us, rfl, rfl, h1, h.1, h.2.1, by rw [← h2.length]; exact h.2.2, fun l hl => k.lst r (h2.rep _) hl⟩
      · cases e
    · cases e
  · cases e
theorem d_inR (hu : X.A.units + 1 < cLine) : OpR X (compareOp .In) (fun x y H Q => ∃ a o, y = .ref a ∧ DGet H a x o ∧ Q (.bl o.isSome) H) := by
  intro pins s σ H x y v u Q I rx ry ⟨a, o, e, g, q⟩
  subst e
  cases ry
  exact d_in hu I g rx fun s3 I3 => ⟨.bl o.isSome, H, I3, rfl, q⟩
theorem inB_ok {ι : Lay} {H : Hp} {st : Store} {a b : D} {c : Bool} {x y : V} (r : RelH W ι H st) (ha : Rep W ι H a x) (hb : Rep W ι H b y) (e : inB a b st = some c) :
    (∃ p xs, y = .ref p ∧ (SqL W.K H p xs ∨ SqT W.K H p xs) ∧ flatV x = true ∧ xs.all flatV = true ∧ inV x xs = c) ∨ (∃ p o, y = .ref p ∧ DGet H p x o ∧ o.isSome = c) ∨
      ∃ i j, x = .str i ∧ y = .str j ∧ (!(Builtin.Str.occurrences j i 0 j.length 1).isEmpty) = c := by
  unfold inB at e
  split at e
  · rename_i ys q
    obtain ⟨p, us, rfl, h1, h2⟩ := seqA_ok r hb q
    split at e
    · rename_i x' us' q1 q2
      cases e
      cases sc_ok q1 ha
      cases scs_ok q2 h2
      exact .inl ⟨p, _, rfl, h1, flat_sc q1, flat_scs q2, rfl⟩
    · cases e
  · split at e
    · rename_i ks vs q
      obtain ⟨p, us, rfl, h1, h2, h3⟩ := dicK_ok r hb q
      split at e
      · rename_i kk q2
        cases e
        cases keyOf_ok q2 ha
        refine .inr (.inl ⟨p, _, rfl, DGet.k (k := kk) h1, ?_⟩)
        cases hq : kGet ks vs kk with
        | none => rw [(kGet_ok h3).2 hq]; rfl
        | some d =>
          obtain ⟨z, h4, _⟩ := (kGet_ok h3).1 d hq
          rw [h4]; rfl
      · cases e
    · split at e
      · rename_i ks vs q
        obtain ⟨p, us, rfl, h1, h2, h3⟩ := dicT_ok r hb q
        split at e
        · rename_i kk q2
          cases e
          unfold tkeyOf at q2
          split at q2
          · rename_i ds
            obtain ⟨b', ws, rfl, h6, h7⟩ := seqT_ok ha (xs := ds) rfl
            have e7 := keysOf_ok q2 h7
            subst e7
            refine .inr (.inl ⟨p, _, rfl, DGet.t (k := kk) h1 h6, ?_⟩)
            cases hq : kGet ks vs kk with
            | none => rw [(kGet_ok h3).2 hq]; rfl
            | some d =>
              obtain ⟨z, h4, _⟩ := (kGet_ok h3).1 d hq
              rw [h4]; rfl
          · cases q2
        · cases e
      · split at e
        · cases e
          cases rep_str ha
          cases rep_str hb
          exact .inr (.inr ⟨_, _, rfl, rfl, rfl⟩)
        · cases e
theorem jo_in (hK : X.K = W.K) (hu : X.A.units + 1 < cLine) : OpR X (compareOp .In) (M2 W dIn) := by
  intro pins s σ H x y v u Q I rx ry ⟨ι, st, a, b, d, r, ha, hb, e, k⟩
  unfold dIn at e
  rw [Option.map_eq_some_iff] at e
  obtain ⟨c, e, rfl⟩ := e
  rcases inB_ok r ha hb e with ⟨p, xs, rfl, h1, h2, h3, rfl⟩ | ⟨p, o, rfl, h1, rfl⟩ | ⟨i, j, rfl, rfl, rfl⟩
  · exact op_in_seq pins s σ H _ _ v u Q I rx ry ⟨p, xs, rfl, SqE hK h1, h2, h3, k.now r bl_rep⟩
  · exact d_inR hu pins s σ H _ _ v u Q I rx ry ⟨p, o, rfl, h1, k.now r bl_rep⟩
  · exact op_in_str pins s σ H _ _ v u Q I rx ry ⟨i, j, rfl, rfl, k.now r bl_rep⟩
def dAddI (a b : D) (_ : Store) : Option D := match a, b with
  | .int i, .int j => some (.int (i + j))
  | _, _ => none
def cutD (xs : List D) (lo hi : Option Int) : List D := (xs.drop (HT.sIx xs.length 0 lo)).take (HT.sIx xs.length xs.length hi - HT.sIx xs.length 0 lo)
open Classical in
noncomputable def dSl (x : D) (lo hi : Option Int) (st : Store) : Option D := match x with
  | .tup xs => some (.tup (cutD xs lo hi))
  | .tpf xs => some (.tpf (cutD xs lo hi))
  | .str z => if z.length ≤ sizeLine then some (.str (cutS z lo hi)) else none
  | .scr ns => some (.lst (cutD (ns.map .int) lo hi))
  | _ => (seqL st x).map fun xs => .lst (cutD xs lo hi)
abbrev OM := Env → Store → Option (Option Int × Store)
def oNone : OM := fun _ st => some (none, st)
def oSome (m : EM) : OM := fun env st => match m env st with
  | some (.int i, s1) => some (some i, s1)
  | _ => none
noncomputable def eSl (mx : EM) (ml mh : OM) : EM := fun env st => match mx env st with
  | some (x, s1) => match ml env s1 with
    | some (lo, s2) => match mh env s2 with
      | some (hi, s3) => (dSl x lo hi s3).map (·, s3)
      | none => none
    | none => none
  | none => none
def TOm (W : Wd) (m : OM) : TO := fun σ H Q => ∃ ι st env o st', RelH W ι H st ∧ REnv W ι H env σ ∧ m env st = some (o, st') ∧ ∀ ι' H', Grow ι H ι' H' → RelH W ι' H' st' → Q o H'
def MSl (W : Wd) : V → Option Int → Option Int → Hp → VK → Prop := fun x lo hi H Q => ∃ ι st a d, RelH W ι H st ∧ Rep W ι H a x ∧ dSl a lo hi st = some d ∧ OkE W ι H d st Q
def rSlF (K : PySem.W.Frag) : V → Option Int → Option Int → Hp → VK → Prop := fun x lo hi H Q => ∃ a xs, x = .ref a ∧ SqT K H a xs ∧
  (HT.sIx xs.length 0 lo = 0 ∧ HT.sIx xs.length xs.length hi = xs.length → Q (.ref a) H) ∧
  (¬ (HT.sIx xs.length 0 lo = 0 ∧ HT.sIx xs.length xs.length hi = xs.length) → ∀ p, H p = none → ∀ o : Obj, o.cls = .type "tuple" ∧ o.dict = none → Q (.ref p) (upd H p (.frz o (.tup (cutV xs lo hi)))))
theorem sl_tpf {X : Cx} : SlR X (rSlF X.K) := by
  intro pins s σ H x v vl vu lo hi sl Q I rx hs pl pu h
  obtain ⟨a, xs, rfl, hx, q1, q2⟩ := h
  by_cases hw : HT.sIx xs.length 0 lo = 0 ∧ HT.sIx xs.length xs.length hi = xs.length
  · exact sl_tupA pins s σ H _ v vl vu lo hi sl Q I rx hs pl pu ⟨a, xs, rfl, hx, q1, fun n => absurd hw n⟩
  · cases rx
    obtain ⟨its, r, ht, hz⟩ := I.tuple hx
    have hlen : its.toArray.size = xs.length := by rw [List.size_toArray]; exact r.length.symm
    refine ⟨"tuple", _, PyProof.Rows.slot_tuple_getitem.lookup, ht.typeIs, ?_⟩
    refine HT.getItem_tuple_cut ht hs pl pu (by rw [hlen]; exact hw) ?_ (by rw [hlen]; exact hz)
    rw [hlen]
    refine ⟨.ref s.heap.objs.size, _, I.laid (t' := s.toks) (o := .frz { cls := .type "tuple", data := .seq ((its.toArray.toList.drop (HT.sIx xs.length 0 lo)).take (HT.sIx xs.length xs.length hi - HT.sIx xs.length 0 lo)).toArray } (.tup (cutV xs lo hi))) (fun b ob q => Heap.get?_push_of_some _ q) (Nat.le_refl _) ?_, rfl, q2 hw _ (I.hok.fresh (Nat.le_refl _)) _ ⟨rfl, rfl⟩⟩
    exact ⟨Heap.get?_push_size _ rfl, Nat.le_trans (cutV_length xs lo hi) hz, _, (r.drop (HT.sIx xs.length 0 lo)).take (HT.sIx xs.length xs.length hi - HT.sIx xs.length 0 lo), IsTup.new _ _⟩
theorem cutD_rep {ι : Lay} {H : Hp} {xs : List D} {vs : List V} (h : Reps W ι H xs vs) (lo hi : Option Int) : Reps W ι H (cutD xs lo hi) (cutV vs lo hi) := by
  unfold cutD cutV
  rw [h.length]
  exact (h.drop _).take _
theorem j_sl (hK : X.K = W.K) : SlR X (MSl W) := by
  intro pins s σ H x v vl vu lo hi sl Q I rx hs pl pu ⟨ι, st, a, d, r, ha, e, k⟩
  unfold dSl at e
  split at e
  · rename_i xs
    cases e
    obtain ⟨p, us, rfl, h1, h2⟩ := seqT_ok ha (xs := xs) rfl
    refine sl_tupA pins s σ H _ v vl vu lo hi sl Q I rx hs pl pu ⟨p, us, rfl, SqT.of h1, fun z => k.now r ?_, fun _ q hq => k.tup r (cutD_rep h2 lo hi) hq⟩
    have e1 : cutD xs lo hi = xs := by
      unfold cutD
      rw [h2.length, z.1, z.2, List.drop_zero, Nat.sub_zero, ← h2.length, List.take_length]
    simp only [Rep, e1]
    exact ⟨p, rfl, us, h1, h2⟩
  · rename_i xs
    cases e
    obtain ⟨p, o, us, rfl, h0, h1, hq, h2⟩ := tpf_ok ha
    refine sl_tpf pins s σ H _ v vl vu lo hi sl Q I rx hs pl pu ⟨p, us, rfl, hK ▸ hq, fun z => k.now r ?_, fun _ q hq o ho => k.tpf r (cutD_rep h2 lo hi) hq ho⟩
    have e1 : cutD xs lo hi = xs := by
      unfold cutD
      rw [h2.length, z.1, z.2, List.drop_zero, Nat.sub_zero, ← h2.length, List.take_length]
    simp only [Rep, e1]
    exact ⟨p, rfl, o, us, h0, h1, h2⟩
  · split at e
    · rename_i hz
      cases e
      cases rep_str ha
      exact sl_str pins s σ H _ v vl vu lo hi sl Q I rx hs pl pu ⟨_, rfl, hz, k.now r str_rep⟩
    · cases e
  · rename_i ns
    cases e
    simp only [Rep] at ha
    obtain ⟨p, rfl, h1⟩ := ha
    refine sl_list pins s σ H _ v vl vu lo hi sl Q I rx hs pl pu ⟨p, _, rfl, hK ▸ h1.sq, fun q hq => k.lst r (cutD_rep (Reps.map (g := V.int) fun x _ => int_rep) lo hi) hq⟩
  · rw [Option.map_eq_some_iff] at e
    obtain ⟨xs, e1, rfl⟩ := e
    obtain ⟨p, us, rfl, h1, h2⟩ := seqL_ok r ha e1
    exact sl_list pins s σ H _ v vl vu lo hi sl Q I rx hs pl pu ⟨p, us, rfl, SqL.of h1, fun q hq => k.lst r (cutD_rep h2 lo hi) hq⟩
theorem jp_none : PO X none (TOm W oNone) := ⟨fun pins s σ H Q I ⟨ι, st, env, o, st', r, n, e, k⟩ => by
  cases e
  exact po_none.run pins s σ H Q I (k _ _ Grow.refl r)⟩
theorem jp_some {e : Expr} {m : EM} (h : PE X e (T W m)) : PO X (some e) (TOm W (oSome m)) := ⟨fun pins s σ H Q I ⟨ι, st, env, o, st', r, n, e, k⟩ => by
  refine (po_some h).run pins s σ H Q I ?_
  unfold oSome at e
  split at e
  · rename_i i s1 q
    cases e
    exact T.of r n q fun v ι1 H1 g1 r1 p1 => ⟨i, rep_int p1, k _ _ g1 r1⟩
  · cases e⟩
theorem j_slice {e : Expr} {lo hi : Option Expr} {p2 pos : Pos} {m : EM} {ml mh : OM} (hK : X.K = W.K) (he : PE X e (T W m)) (hl : PO X lo (TOm W ml)) (hh : PO X hi (TOm W mh)) : PE X (.Subscript e (.Slice lo hi none p2) pos) (T W (eSl m ml mh)) :=
  (pe_slice (j_sl (W := W) hK) he hl hh).imp fun σ H Q ⟨ι, st, env, d, st', r, n, e, k⟩ => by
    unfold eSl at e
    split at e
    · rename_i x s1 q1
      split at e
      · rename_i o1 s2 q2
        split at e
        · rename_i o2 s3 q3
          rw [Option.map_eq_some_iff] at e
          obtain ⟨d', e1, e2⟩ := e
          cases e2
          exact T.of r n q1 fun v ι1 H1 g1 r1 p1 => ⟨ι1, s1, env, o1, s2, r1, n.grow g1, q2, fun ι2 H2 g2 r2 => ⟨ι2, s2, env, o2, _, r2, (n.grow g1).grow g2, q3, fun ι3 H3 g3 r3 => ⟨ι3, _, x, d, r3, Rep.grow g3 _ _ (Rep.grow g2 _ _ p1), e1, k.go ((g1.trans g2).trans g3)⟩⟩⟩
        · cases e
      · cases e
    · cases e

open Classical in
noncomputable def dPut (o i v : D) (st : Store) : Option Store := match o with
  | .ref n => match st[n]? with
    | some (.lst xs) => match i with
      | .int k => match ixN xs.length k with
        | some j => some (st.set n (.lst (xs.set j v)))
        | none => none
      | _ => none
    | some (.dk ks vs) => match keyOf i with
      | some k => if ks.length < sizeLine then some (st.set n (.dk (kPutK ks k) (kPutV ks vs k v))) else none
      | none => match ks, vs, tkeyOf i with
        | [], [], some k => none
        | _, _, _ => none
    | some (.dt ks vs) => match tkeyOf i with
      | some k => if ks.length < sizeLine then some (st.set n (.dt (kPutK ks k) (kPutV ks vs k v))) else none
      | none => none
    | _ => none
  | _ => none
theorem set_dict (hu : X.A.units + 1 < cLine) : PSet X (fun o i v H Q => ∃ a H', o = .ref a ∧ DPut H a i v H' ∧ Q H') := by
  intro pins s σ H o i v ov iv u Q I ro ri rv ⟨a, H', e, g, q⟩
  subst e
  cases ro
  exact d_setItem hu I g ri rv fun s' I' => ⟨H', I', q⟩
theorem jp_set (hu : X.A.units + 1 < cLine) : PSet X (M3 W dPut) := by
  intro pins s σ H o i v ov iv u Q I ro ri rv ⟨ι, st, a, b, c, st', r, ha, hb, hc, e, k⟩
  unfold dPut at e
  split at e
  · rename_i n
    obtain ⟨p, cc, rfl, h1, h2, h3⟩ := rep_ref r ha
    rw [h2] at e
    obtain ⟨w, hw, mw⟩ := h3.there
    have g : ∀ o', Grow ι H ι (upd H p o') := fun o' => Grow.put h1 hw mw
    split at e
    · rename_i xs q
      cases q
      obtain ⟨us, h4, h5⟩ := h3
      split at e
      · rename_i kk
        split at e
        · rename_i j q
          cases e
          cases rep_int hb
          refine set_list pins s σ H _ _ _ ov iv u Q I ro ri rv ⟨p, us, kk, j, rfl, rfl, h4, by rw [← h5.length]; exact q, ?_⟩
          exact k _ _ (g _) (r.put h1 ⟨_, upd_same, Reps.grow (g _) _ _ (h5.set hc j)⟩)
        · cases e
      · cases e
    · rename_i ks vs q
      cases q
      obtain ⟨us, h4, h5, h6⟩ := h3
      split at e
      · rename_i kk q
        split at e
        · rename_i hz
          cases e
          cases keyOf_ok q hb
          obtain ⟨us', e1, e2, e3⟩ := kPut_ok (k := kk) h6 h5 hc
          refine set_dict hu pins s σ H _ _ _ ov iv u Q I ro ri rv ⟨p, _, rfl, DPut.k (k := kk) h4 (by rw [List.length_zip, ← h6.length, ← h5]; omega), ?_⟩
          rw [e1]
          exact k _ _ (g _) (r.put h1 ⟨us', upd_same, e2, Reps.grow (g _) _ _ e3⟩)
        · cases e
      · split at e <;> cases e
    · rename_i ks vs q
      cases q
      obtain ⟨us, h4, h5, h6⟩ := h3
      split at e
      · rename_i kk q
        split at e
        · rename_i hz
          cases e
          unfold tkeyOf at q
          split at q
          · rename_i ds
            obtain ⟨b', ws, rfl, h7, h8⟩ := seqT_ok hb (xs := ds) rfl
            have e7 := keysOf_ok q h8
            subst e7
            obtain ⟨us', e1, e2, e3⟩ := kPut_ok (k := kk) h6 h5 hc
            refine set_dict hu pins s σ H _ _ _ ov iv u Q I ro ri rv ⟨p, _, rfl, DPut.t (k := kk) h4 h7 (by rw [List.length_zip, ← h6.length, ← h5]; omega), ?_⟩
            rw [e1]
            exact k _ _ (g _) (r.put h1 ⟨us', upd_same, e2, Reps.grow (g _) _ _ e3⟩)
          · cases q
        · cases e
      · cases e
    · cases e
  · cases e
def eDkM : EM := fun _ st => some (.ref st.length, st ++ [.dk [] []])
def eDtM : EM := fun _ st => some (.ref st.length, st ++ [.dt [] []])
theorem OkE.cellM {ι : Lay} {H : Hp} {c : D} {o : HO} {st : Store} {Q : VK} {p : Addr} (k : OkE W ι H (.ref st.length) (st ++ [c]) Q) (r : RelH W ι H st) (hp : H p = none) (ok : CellOk W (ι.add p) (upd H p o) p c) : Q (.ref p) (upd H p o) :=
  k _ (ι.add p) _ (Grow.cell hp) (r.new hp ok) (by simp only [Rep]; exact ⟨p, rfl, by rw [← r.len]; show (ι.c ++ [p])[_]? = _; simp⟩)
theorem j_dkM {pos : Pos} : PE X (.Dict [] [] pos) (T W eDkM) := pe_dnewK.imp fun σ H Q ⟨ι, st, env, d, st', r, n, e, k⟩ => by
  cases e
  exact fun p hp => k.cellM r hp ⟨[], upd_same, rfl, Reps.nil⟩
end

open Classical in
noncomputable def fLen : FM := ro fun ds st => match ds with
  | [d] => match seqA st d with
    | some xs => some (.int xs.length)
    | none => match dicK st d with
      | some (ks, _) => some (.int ks.length)
      | none => match dicT st d with
        | some (ks, _) => some (.int ks.length)
        | none => match d with
          | .str z => if z.length ≤ sizeLine then some (.int z.length) else none
          | _ => none
  | _ => none
def fAbs : FM := ro fun ds _ => match ds with
  | [.int i] => some (.int (if i < 0 then -i else i))
  | _ => none
def fInt : FM := ro fun ds _ => match ds with
  | [.int i] => some (.int i)
  | [.bl b] => some (.int (if b then 1 else 0))
  | _ => none
def fMax : FM := ro fun ds st => match ds with
  | [.int i, .int j] => some (.int (if j > i then j else i))
  | [d] => match seqL st d with
    | some xs => match intsOf xs with
      | some ns => ns.max?.map .int
      | none => none
    | none => none
  | _ => none
def fMin : FM := ro fun ds st => match ds with
  | [.int i, .int j] => some (.int (if j < i then j else i))
  | [d] => match seqL st d with
    | some xs => match intsOf xs with
      | some ns => ns.min?.map .int
      | none => none
    | none => none
  | _ => none
def fAll : FM := ro fun ds st => match ds with
  | [d] => match seqL st d with
    | some xs => (bolsOf xs).map fun ns => .bl (ns.all id)
    | none => none
  | _ => none
def isort (ns : List Int) : List Int := ns.mergeSort fun a b => decide (a ≤ b)
def fSortedL : FM := ro fun ds st => match ds with
  | [d] => match seqL st d with
    | some xs => (intsOf xs).map fun ns => .lst ((isort ns).map .int)
    | none => none
  | _ => none
def lKeys : List Key → Option (List Int)
  | [] => some []
  | .inl i :: ks => (lKeys ks).map (i :: ·)
  | _ => none
open Classical in
noncomputable def fSortedD : FM := ro fun ds st => match ds with
  | [d] => match dicK st d with
    | some (ks, _) => match lKeys ks with
      | some ns => if ns.length < 64 then some (.lst ((isort ns).map .int)) else none
      | none => none
    | none => none
  | _ => none
def fTuple : FM := ro fun ds st => match ds with
  | [.tpf xs] => some (.tpf xs)
  | [d] => (seqA st d).map .tup
  | _ => none
def fList : FM := ro fun ds st => match ds with
  | [d] => (seqA st d).map .lst
  | _ => none
open Classical in
noncomputable def fRepr : FM := ro fun ds st => match ds with
  | [d] => match pyOf st d with
    | some p => if Tx 16777216 60 p then some (.str p.shown) else none
    | none => none
  | _ => none
def tyName : D → Option String
  | .non => some "NoneType"
  | .bl _ => some "bool"
  | .int _ => some "int"
  | .str _ => some "str"
  | .tup _ => some "tuple"
  | .tpf _ => some "tuple"
  | .lst _ => some "list"
  | .dk _ _ => some "dict"
  | .dt _ _ => some "dict"
  | _ => none
def tyNameS (st : Store) : D → Option String
  | .ref i => match st[i]? with
    | some (.lst _) => some "list"
    | some (.dk _ _) => some "dict"
    | some (.dt _ _) => some "dict"
    | _ => none
  | d => tyName d
def fIsi : FM := ro fun ds st => match ds with
  | [d, .ty n] => match tyNameS st d with
    | some m => (kitB m n).map .bl
    | none => none
  | _ => none
open Classical in
noncomputable def fStr : FM := ro fun ds _ => match ds with
  | [.int i] => if i.natAbs.log2 < 1920 then some (.str (toString i)) else none
  | [.str z] => some (.str z)
  | _ => none
section
variable {X : Cx} {W : Wd}
theorem ro_ok {f : List D → Store → Option D} {ds : List D} {st st' : Store} {d : D} (h : ro f ds st = some (d, st')) : f ds st = some d ∧ st' = st := by
  unfold ro at h
  rw [Option.map_eq_some_iff] at h
  obtain ⟨x, h1, h2⟩ := h
  cases h2
  exact ⟨h1, rfl⟩
theorem reps1 {ι : Lay} {H : Hp} {d : D} {vs : List V} (h : Reps W ι H [d] vs) : ∃ v, vs = [v] ∧ Rep W ι H d v := by
  obtain ⟨v, r, rfl, h1, h2⟩ := h.uncons
  rw [h2.nil_of]
  exact ⟨v, rfl, h1⟩
theorem reps2 {ι : Lay} {H : Hp} {d e : D} {vs : List V} (h : Reps W ι H [d, e] vs) : ∃ v u, vs = [v, u] ∧ Rep W ι H d v ∧ Rep W ι H e u := by
  obtain ⟨v, r, rfl, h1, h2⟩ := h.uncons
  obtain ⟨u, rfl, h3⟩ := reps1 h2
  exact ⟨v, u, rfl, h1, h3⟩
theorem jc_len (hK : X.K = W.K) : CallR X (.builtin "len") (MA W fLen) := by
  intro pins s σ H xs us Q I rx ⟨ι, st, ds, d, st', r, h, e, k⟩
  replace e := ro_ok e
  obtain ⟨e, rfl⟩ := e
  split at e
  · rename_i x
    obtain ⟨v, rfl, hv⟩ := reps1 h
    split at e
    · rename_i ys q
      cases e
      obtain ⟨p, ws, rfl, h1, h2⟩ := seqA_ok r hv q
      refine call_len_seq pins s σ H _ us Q I rx ⟨p, ws, rfl, SqE hK h1, ?_⟩
      rw [← h2.length]
      exact k.now r int_rep
    · split at e
      · rename_i ks vs q
        cases e
        obtain ⟨p, ws, rfl, h1, h2, h3⟩ := dicK_ok r hv q
        refine call_lenD pins s σ H _ us Q I rx ⟨p, _, rfl, h1, ?_⟩
        have e1 : (ks.zip ws).length = ks.length := by rw [List.length_zip, ← h3.length, ← h2]; omega
        rw [e1]
        exact k.now r int_rep
      · split at e
        · rename_i ks vs q
          cases e
          obtain ⟨p, ws, rfl, h1, h2, h3⟩ := dicT_ok r hv q
          refine call_len_dT pins s σ H _ us Q I rx ⟨p, _, rfl, h1, ?_⟩
          have e1 : (ks.zip ws).length = ks.length := by rw [List.length_zip, ← h3.length, ← h2]; omega
          rw [e1]
          exact k.now r int_rep
        · split at e
          · split at e
            · rename_i hz
              cases e
              cases rep_str hv
              exact call_len_str pins s σ H _ us Q I rx ⟨_, rfl, hz, k.now r int_rep⟩
            · cases e
          · cases e
  · cases e
theorem jc_abs : CallR X (.builtin "abs") (MA W fAbs) := by
  intro pins s σ H xs us Q I rx ⟨ι, st, ds, d, st', r, h, e, k⟩
  replace e := ro_ok e
  obtain ⟨e, rfl⟩ := e
  split at e
  · cases e
    obtain ⟨v, rfl, hv⟩ := reps1 h
    cases rep_int hv
    exact call_abs pins s σ H _ us Q I rx ⟨_, rfl, k.now r int_rep⟩
  · cases e
theorem jc_int : CallR X (.type "int") (MA W fInt) := by
  intro pins s σ H xs us Q I rx ⟨ι, st, ds, d, st', r, h, e, k⟩
  replace e := ro_ok e
  obtain ⟨e, rfl⟩ := e
  split at e
  · cases e
    obtain ⟨v, rfl, hv⟩ := reps1 h
    cases rep_int hv
    exact call_int1 pins s σ H _ us Q I rx (.inl ⟨_, rfl, k.now r int_rep⟩)
  · cases e
    obtain ⟨v, rfl, hv⟩ := reps1 h
    cases rep_bl hv
    exact call_int1 pins s σ H _ us Q I rx (.inr ⟨_, rfl, k.now r int_rep⟩)
  · cases e
theorem list_ints {ι : Lay} {H : Hp} {st : Store} {d : D} {v : V} {ys : List D} {ns : List Int} (r : RelH W ι H st) (h : Rep W ι H d v) (e : seqL st d = some ys) (e2 : intsOf ys = some ns) : ∃ p, v = .ref p ∧ SqL W.K H p (ns.map V.int) := by
  obtain ⟨p, ws, rfl, h1, h2⟩ := seqL_ok r h e
  rw [intsOf_eq e2] at h2
  rw [h2.ints] at h1
  exact ⟨p, rfl, SqL.of h1⟩
theorem list_bols {ι : Lay} {H : Hp} {st : Store} {d : D} {v : V} {ys : List D} {ns : List Bool} (r : RelH W ι H st) (h : Rep W ι H d v) (e : seqL st d = some ys) (e2 : bolsOf ys = some ns) : ∃ p, v = .ref p ∧ SqL W.K H p (ns.map V.bl) := by
  obtain ⟨p, ws, rfl, h1, h2⟩ := seqL_ok r h e
  rw [bolsOf_eq e2] at h2
  have : ws = ns.map V.bl := by
    clear h1 e e2
    induction ns generalizing ws with
    | nil => exact h2.nil_of
    | cons n ns ih =>
      obtain ⟨u, q, rfl, h3, h4⟩ := h2.uncons
      rw [rep_bl h3, ih _ h4]; rfl
  rw [this] at h1
  exact ⟨p, rfl, SqL.of h1⟩
theorem jc_max (hK : X.K = W.K) (hc : X.calm = true) : CallR X (.builtin "max") (MA W fMax) := by
  intro pins s σ H xs us Q I rx ⟨ι, st, ds, d, st', r, h, e, k⟩
  replace e := ro_ok e
  obtain ⟨e, rfl⟩ := e
  split at e
  · cases e
    obtain ⟨v, u, rfl, hv, hu⟩ := reps2 h
    cases rep_int hv
    cases rep_int hu
    exact call_max2 hc pins s σ H _ us Q I rx ⟨_, _, rfl, k.now r int_rep⟩
  · obtain ⟨v, rfl, hv⟩ := reps1 h
    split at e
    · rename_i ys q
      split at e
      · rename_i ns q2
        rw [Option.map_eq_some_iff] at e
        obtain ⟨m, e1, rfl⟩ := e
        obtain ⟨p, rfl, h1⟩ := list_ints r hv q q2
        rw [List.max?_eq_some_iff] at e1
        refine cr_max hc pins s σ H _ us Q I rx ⟨p, ns, rfl, hK ▸ h1, List.length_pos_of_mem e1.1, fun m' h2 h3 => ?_⟩
        have : m' = m := Int.le_antisymm (e1.2 m' h2) (h3 m e1.1)
        rw [this]
        exact k.now r int_rep
      · cases e
    · cases e
  · cases e
theorem jc_min (hK : X.K = W.K) (hc : X.calm = true) : CallR X (.builtin "min") (MA W fMin) := by
  intro pins s σ H xs us Q I rx ⟨ι, st, ds, d, st', r, h, e, k⟩
  replace e := ro_ok e
  obtain ⟨e, rfl⟩ := e
  split at e
  · cases e
    obtain ⟨v, u, rfl, hv, hu⟩ := reps2 h
    cases rep_int hv
    cases rep_int hu
    exact call_min2 hc pins s σ H _ us Q I rx ⟨_, _, rfl, k.now r int_rep⟩
  · obtain ⟨v, rfl, hv⟩ := reps1 h
    split at e
    · rename_i ys q
      split at e
      · rename_i ns q2
        rw [Option.map_eq_some_iff] at e
        obtain ⟨m, e1, rfl⟩ := e
        obtain ⟨p, rfl, h1⟩ := list_ints r hv q q2
        rw [List.min?_eq_some_iff] at e1
        refine cr_min hc pins s σ H _ us Q I rx ⟨p, ns, rfl, hK ▸ h1, List.length_pos_of_mem e1.1, fun m' h2 h3 => ?_⟩
        have : m' = m := Int.le_antisymm (h3 m e1.1) (e1.2 m' h2)
        rw [this]
        exact k.now r int_rep
      · cases e
    · cases e
  · cases e
theorem jc_all (hK : X.K = W.K) (hc : X.calm = true) : CallR X (.builtin "all") (MA W fAll) := by
  intro pins s σ H xs us Q I rx ⟨ι, st, ds, d, st', r, h, e, k⟩
  replace e := ro_ok e
  obtain ⟨e, rfl⟩ := e
  split at e
  · obtain ⟨v, rfl, hv⟩ := reps1 h
    split at e
    · rename_i ys q
      rw [Option.map_eq_some_iff] at e
      obtain ⟨ns, e1, rfl⟩ := e
      obtain ⟨p, rfl, h1⟩ := list_bols r hv q e1
      exact cr_all hc pins s σ H _ us Q I rx ⟨p, ns, rfl, hK ▸ h1, k.now r bl_rep⟩
    · cases e
  · cases e
theorem isort_eq {ns ms : List Int} (p : ms.Perm ns) (w : ms.Pairwise (· ≤ ·)) : ms = isort ns := by
  have p2 : (isort ns).Perm ns := List.mergeSort_perm _ _
  have w2 : (isort ns).Pairwise (· ≤ ·) := by
    have := List.pairwise_mergeSort (le := fun a b : Int => decide (a ≤ b)) (fun a b c h1 h2 => by simp at *; omega) (fun a b => by simp; omega) ns
    exact this.imp fun h => by simpa using h
  exact (p.trans p2.symm).eq_of_pairwise (fun a b _ _ h1 h2 => Int.le_antisymm h1 h2) w w2
theorem jc_sortedL (hK : X.K = W.K) : CallR X (.builtin "sorted") (MA W fSortedL) := by
  intro pins s σ H xs us Q I rx ⟨ι, st, ds, d, st', r, h, e, k⟩
  replace e := ro_ok e
  obtain ⟨e, rfl⟩ := e
  split at e
  · obtain ⟨v, rfl, hv⟩ := reps1 h
    split at e
    · rename_i ys q
      rw [Option.map_eq_some_iff] at e
      obtain ⟨ns, e1, rfl⟩ := e
      obtain ⟨p, rfl, h1⟩ := list_ints r hv q e1
      refine cr_sortedI pins s σ H _ us Q I rx ⟨p, ns, rfl, hK ▸ h1, fun ms l pm w hl => ?_⟩
      rw [isort_eq pm w]
      exact k.lst r (Reps.map fun x _ => int_rep) hl
    · cases e
  · cases e
theorem lKeys_eq : ∀ {ks : List Key} {ns : List Int}, lKeys ks = some ns → ks = ns.map Sum.inl
  | [], _, h => by cases h; rfl
  | k :: ks, ns, h => by
    cases k with
    | inl i =>
      simp only [lKeys, Option.map_eq_some_iff] at h
      obtain ⟨ms, h1, rfl⟩ := h
      rw [lKeys_eq h1]; rfl
    | inr x => simp [lKeys] at h
theorem jc_sortedD (hc : X.calm = true) : CallR X (.builtin "sorted") (MA W fSortedD) := by
  intro pins s σ H xs us Q I rx ⟨ι, st, ds, d, st', r, h, e, k⟩
  replace e := ro_ok e
  obtain ⟨e, rfl⟩ := e
  split at e
  · obtain ⟨v, rfl, hv⟩ := reps1 h
    split at e
    · rename_i ks vs q
      split at e
      · rename_i ns q2
        split at e
        · rename_i hz
          cases e
          obtain ⟨p, ws, rfl, h1, h2, h3⟩ := dicK_ok r hv q
          refine call_sortedDI hc pins s σ H _ us Q I rx ⟨p, _, ns, rfl, .inl h1, ?_, hz, fun ms l pm w hl => ?_⟩
          · rw [← lKeys_eq q2]
            exact List.map_fst_zip (by rw [← h3.length, ← h2]; exact Nat.le_refl _)
          · rw [isort_eq pm w]
            exact k.lst r (Reps.map fun x _ => int_rep) hl
        · cases e
      · cases e
    · cases e
  · cases e
noncomputable def fSorted : FM := fun ds st => match fSortedL ds st with
  | some r => some r
  | none => fSortedD ds st
theorem jc_sorted (hK : X.K = W.K) (hc : X.calm = true) : CallR X (.builtin "sorted") (MA W fSorted) := by
  intro pins s σ H xs us Q I rx ⟨ι, st, ds, d, st', r, h, e, k⟩
  unfold fSorted at e
  split at e
  · rename_i r2 q
    cases e
    exact jc_sortedL (W := W) hK pins s σ H xs us Q I rx ⟨ι, st, ds, d, st', r, h, q, k⟩
  · exact jc_sortedD (W := W) hc pins s σ H xs us Q I rx ⟨ι, st, ds, d, st', r, h, e, k⟩
theorem jc_tuple (hK : X.K = W.K) : CallR X (.type "tuple") (MA W fTuple) := by
  intro pins s σ H xs us Q I rx ⟨ι, st, ds, d, st', r, h, e, k⟩
  replace e := ro_ok e
  obtain ⟨e, rfl⟩ := e
  split at e
  · rename_i zs
    obtain ⟨v, rfl, hv⟩ := reps1 h
    cases e
    obtain ⟨p, o, ws, rfl, _, _, h1, h2⟩ := tpf_ok hv
    exact call_tuple_of pins s σ H _ us Q I rx ⟨p, ws, rfl, .inr ⟨hK ▸ h1, k.now r hv⟩⟩
  · rename_i x nx
    obtain ⟨v, rfl, hv⟩ := reps1 h
    rw [Option.map_eq_some_iff] at e
    obtain ⟨ys, e1, rfl⟩ := e
    cases hT : seqT x with
    | none =>
      cases hF : isTpf x with
      | true =>
        cases x <;> simp only [isTpf] at hF <;> first | exact (nx _ rfl).elim | cases hF
      | false =>
      obtain ⟨p, ws, rfl, h1, h2⟩ := seqA_list r hv e1 hT hF
      exact call_tuple_of pins s σ H _ us Q I rx ⟨p, ws, rfl, .inl ⟨hK ▸ h1, fun l hl => k.tup r h2 hl⟩⟩
    | some zs =>
      cases x with
      | tup as =>
        cases e1
        obtain ⟨p, ws, rfl, h1, h2⟩ := seqT_ok hv (xs := ys) rfl
        exact call_tuple_of pins s σ H _ us Q I rx ⟨p, ws, rfl, .inr ⟨SqT.of h1, k.now r hv⟩⟩
      | _ => cases hT
  · cases e
theorem jc_repr {n : Nat} (hK : X.K = W.K) (hg : X.A.guards = some []) (hr : Room n X.A) : CallR X (.builtin "repr") (MA W fRepr) := by
  intro pins s σ H xs us Q I rx ⟨ι, st, ds, d, st', r, h, e, k⟩
  replace e := ro_ok e
  obtain ⟨e, rfl⟩ := e
  split at e
  · obtain ⟨v, rfl, hv⟩ := reps1 h
    split at e
    · rename_i p q
      split at e
      · rename_i tx
        cases e
        exact call_repr hg hr pins s σ H _ us Q I rx ⟨v, p, rfl, hK ▸ pyOf_ok r q hv, tx, k.now r str_rep⟩
      · cases e
    · cases e
  · cases e
theorem tyName_ok {ι : Lay} {H : Hp} {st : Store} {d : D} {v : V} {m : String} (r : RelH W ι H st) (h : Rep W ι H d v) (e : tyNameS st d = some m) : TyX W.K H v (.type m) := by
  cases d with
  | non => cases e; cases rep_non h; exact .base .non
  | bl b => cases e; cases rep_bl h; exact .base (.bl b)
  | int b => cases e; cases rep_int h; exact .base (.int b)
  | str b => cases e; cases rep_str h; exact .base (.str b)
  | tup ds => cases e; simp only [Rep] at h; obtain ⟨a, rfl, vs, h1, _⟩ := h; exact .base (.tup h1)
  | tpf ds => cases e; obtain ⟨a, o, vs, rfl, _, h1, _⟩ := tpf_ok h; exact .fTuple h1
  | lst ds => cases e; simp only [Rep] at h; obtain ⟨a, rfl, _, vs, h1, _⟩ := h; exact .base (.lst h1)
  | dk ks ds => cases e; simp only [Rep] at h; obtain ⟨a, rfl, _, vs, h1, _⟩ := h; exact .base (.dK h1)
  | dt ks ds => cases e; simp only [Rep] at h; obtain ⟨a, rfl, _, vs, h1, _⟩ := h; exact .base (.dT h1)
  | ref i =>
    obtain ⟨a, c, rfl, _, h2, h3⟩ := rep_ref r h
    simp only [tyNameS, h2] at e
    cases c with
    | lst ds => cases e; obtain ⟨vs, h1, _⟩ := h3; exact .base (.lst h1)
    | dk ks ds => cases e; obtain ⟨vs, h1, _⟩ := h3; exact .base (.dK h1)
    | dt ks ds => cases e; obtain ⟨vs, h1, _⟩ := h3; exact .base (.dT h1)
    | _ => cases e
  | _ => cases e
theorem jc_isi (hK : X.K = W.K) : CallR X (.builtin "isinstance") (MA W fIsi) := by
  intro pins s σ H xs us Q I rx ⟨ι, st, ds, d, st', r, h, e, k⟩
  replace e := ro_ok e
  obtain ⟨e, rfl⟩ := e
  split at e
  · rename_i x n
    obtain ⟨v, u, rfl, hv, hu⟩ := reps2 h
    have : u = .ty n := by simpa only [Rep] using hu
    subst this
    split at e
    · rename_i m q
      rw [Option.map_eq_some_iff] at e
      obtain ⟨b, e1, rfl⟩ := e
      have ty := tyName_ok r hv q
      rw [← hK] at ty
      exact call_isi pins s σ H _ us Q I rx ⟨v, _, _, _, b, rfl, .ty n, ty, kit_ty e1, k.now r bl_rep⟩
    · cases e
  · cases e
theorem jc_str : CallR X (.type "str") (MA W fStr) := by
  intro pins s σ H xs us Q I rx ⟨ι, st, ds, d, st', r, h, e, k⟩
  replace e := ro_ok e
  obtain ⟨e, rfl⟩ := e
  split at e
  · split at e
    · rename_i hz
      cases e
      obtain ⟨v, rfl, hv⟩ := reps1 h
      cases rep_int hv
      exact call_str_int pins s σ H _ us Q I rx ⟨_, rfl, hz, k.now r str_rep⟩
    · cases e
  · cases e
    obtain ⟨v, rfl, hv⟩ := reps1 h
    cases rep_str hv
    exact SkE.call_str_str pins s σ H _ us Q I rx ⟨_, rfl, k.now r str_rep⟩
  · cases e
end
abbrev MM := D → List D → Store → Option (D × Store)
def tyD (T : String) (st : Store) (o : D) : Prop := tyNameS st o = some T ∧ T ≠ "tuple" ∧ T ≠ "NoneType" ∧ T ≠ "bool"
open Classical in
noncomputable def eBM (T : String) (F : MM) (mo : EM) (ma : AM) : EM := fun env st => match mo env st with
  | some (o, s1) => if tyD T s1 o then match ma env s1 with
    | some (xs, s2) => F o xs s2
    | none => none
    else none
  | none => none
section
variable {X : Cx} {W : Wd} {o e : Expr} {es : List Expr} {mo : EM} {ma : AM} {F : MM} {name : Str} {apos cpos : Pos} {Ty id : String}
end
end My

namespace My
open PySem PySem.Spec PyProof.Rows L2

def EvE (m : EM) (env : Env) (st : Store) (Q : D → Store → Prop) : Prop := ∃ d st', m env st = some (d, st') ∧ Q d st'
def EvB (m : TM) (env : Env) (st : Store) (Q : Bool → Store → Prop) : Prop := ∃ d st', m env st = some (d, st') ∧ Q d st'
def EvA (m : AM) (env : Env) (st : Store) (Q : List D → Store → Prop) : Prop := ∃ d st', m env st = some (d, st') ∧ Q d st'
def EvS (m : SM) (env : Env) (st : Store) (Q : Out → Store → Prop) : Prop := ∃ d st', m env st = some (d, st') ∧ Q d st'
def EvF (F : FM) (ds : List D) (st : Store) (Q : D → Store → Prop) : Prop := ∃ d st', F ds st = some (d, st') ∧ Q d st'
def EvO (m : OM) (env : Env) (st : Store) (Q : Option Int → Store → Prop) : Prop := ∃ d st', m env st = some (d, st') ∧ Q d st'
def EvI (m : IM) (env : Env) (st : Store) (Q : List D → (Store → Prop) → Store → Prop) : Prop := ∃ ds gd st', m env st = some (ds, gd, st') ∧ Q ds gd st'
def EvW (r : Option (Out × Store)) (Q : Out → Store → Prop) : Prop := ∃ o st', r = some (o, st') ∧ Q o st'
def EvL (r : Option (List D × Store)) (Q : List D → Store → Prop) : Prop := ∃ o st', r = some (o, st') ∧ Q o st'
section
variable {env : Env} {st : Store} {Q : D → Store → Prop} {QB : Bool → Store → Prop} {QA : List D → Store → Prop} {QS : Out → Store → Prop}
theorem EvF.mono {F : FM} {ds : List D} {Q' : D → Store → Prop} (h : EvF F ds st Q) (k : ∀ d s, Q d s → Q' d s) : EvF F ds st Q' := by
  obtain ⟨d, s, e, q⟩ := h
  exact ⟨d, s, e, k d s q⟩
theorem EvS.mono {m : SM} {Q' : Out → Store → Prop} (h : EvS m env st QS) (k : ∀ d s, QS d s → Q' d s) : EvS m env st Q' := by
  obtain ⟨d, s, e, q⟩ := h
  exact ⟨d, s, e, k d s q⟩
theorem EvE.mono {m : EM} {Q' : D → Store → Prop} (h : EvE m env st Q) (k : ∀ d s, Q d s → Q' d s) : EvE m env st Q' := by
  obtain ⟨d, s, e, q⟩ := h
  exact ⟨d, s, e, k d s q⟩
theorem ev_var {i : Nat} : EvE (eVar i) env st Q ↔ ∃ d, env[i]? = some (some d) ∧ Q d st := by
  unfold EvE eVar
  constructor
  · rintro ⟨d, s, e, q⟩
    split at e
    · rename_i d' h
      cases e
      exact ⟨_, h, q⟩
    · cases e
  · rintro ⟨d, e, q⟩
    exact ⟨d, st, by rw [e], q⟩
theorem ev_c {d : D} : EvE (eC d) env st Q ↔ Q d st := by
  unfold EvE eC
  constructor
  · rintro ⟨d, s, e, q⟩
    cases e
    exact q
  · exact fun q => ⟨_, _, rfl, q⟩
theorem ev_un {f : D → Store → Option D} {a : EM} : EvE (eUn f a) env st Q ↔ EvE a env st fun x s1 => ∃ z, f x s1 = some z ∧ Q z s1 := by
  unfold EvE eUn
  constructor
  · rintro ⟨d, s, e, q⟩
    split at e
    · rename_i x s1 h
      rw [Option.map_eq_some_iff] at e
      obtain ⟨z, e1, e2⟩ := e
      cases e2
      exact ⟨x, _, h, _, e1, q⟩
    · cases e
  · rintro ⟨x, s1, h, z, e, q⟩
    exact ⟨z, s1, by rw [h]; simp only [e, Option.map_some], q⟩
theorem ev_op {f : D → D → Store → Option D} {a b : EM} : EvE (eOp f a b) env st Q ↔ EvE a env st fun x s1 => EvE b env s1 fun y s2 => ∃ z, f x y s2 = some z ∧ Q z s2 := by
  unfold EvE eOp
  constructor
  · rintro ⟨d, s, e, q⟩
    split at e
    · rename_i x s1 h
      split at e
      · rename_i y s2 h2
        rw [Option.map_eq_some_iff] at e
        obtain ⟨z, e1, e2⟩ := e
        cases e2
        exact ⟨x, s1, h, y, _, h2, _, e1, q⟩
      · cases e
    · cases e
  · rintro ⟨x, s1, h, y, s2, h2, z, e, q⟩
    exact ⟨z, s2, by rw [h]; simp only [h2, e, Option.map_some], q⟩
theorem ev_nil : EvA aNil env st QA ↔ QA [] st := by
  unfold EvA aNil
  constructor
  · rintro ⟨d, s, e, q⟩
    cases e
    exact q
  · exact fun q => ⟨_, _, rfl, q⟩
theorem ev_cons {a : EM} {r : AM} : EvA (aCons a r) env st QA ↔ EvE a env st fun x s1 => EvA r env s1 fun xs s2 => QA (x :: xs) s2 := by
  unfold EvA EvE aCons
  constructor
  · rintro ⟨d, s, e, q⟩
    split at e
    · rename_i x s1 h
      split at e
      · rename_i y s2 h2
        cases e
        exact ⟨x, s1, h, y, _, h2, q⟩
      · cases e
    · cases e
  · rintro ⟨x, s1, h, y, s2, h2, q⟩
    exact ⟨_, s2, by rw [h]; simp only [h2], q⟩
theorem ev_call {F : FM} {a : AM} : EvE (eCall F a) env st Q ↔ EvA a env st fun xs s1 => EvF F xs s1 Q := by
  unfold EvE EvA EvF eCall
  constructor
  · rintro ⟨d, s, e, q⟩
    split at e
    · rename_i x s1 h
      exact ⟨x, s1, h, d, s, e, q⟩
    · cases e
  · rintro ⟨x, s1, h, d, s, e, q⟩
    exact ⟨d, s, by rw [h]; exact e, q⟩
theorem ev_callD {n : Nat} {F : FM} {dds : List D} {a : AM} : EvE (eCallD n F dds a) env st Q ↔ EvA a env st fun xs s1 => (xs ++ dds).length = n ∧ EvF F (xs ++ dds) s1 Q := by
  unfold EvE EvA EvF eCallD
  constructor
  · rintro ⟨d, s, e, q⟩
    split at e
    · rename_i x s1 h
      split at e
      · rename_i hl
        exact ⟨x, s1, h, hl, d, s, e, q⟩
      · cases e
    · cases e
  · rintro ⟨x, s1, h, hl, d, s, e, q⟩
    exact ⟨d, s, by rw [h]; simp only [if_pos hl]; exact e, q⟩
theorem ev_callN {n j m : Nat} {F : FM} {g : List D → List D → List D} {a b : AM} : EvE (eCallN n j m F g a b) env st Q ↔ EvA a env st fun xs s1 => EvA b env s1 fun zs s2 => (xs.length = j ∧ zs.length = m ∧ (g xs zs).length = n) ∧ EvF F (g xs zs) s2 Q := by
  unfold EvE EvA EvF eCallN
  constructor
  · rintro ⟨d, s, e, q⟩
    split at e
    · rename_i x s1 h
      split at e
      · rename_i y s2 h2
        split at e
        · rename_i hl
          exact ⟨x, s1, h, y, s2, h2, hl, d, s, e, q⟩
        · cases e
      · cases e
    · cases e
  · rintro ⟨x, s1, h, y, s2, h2, hl, d, s, e, q⟩
    exact ⟨d, s, by rw [h]; simp only [h2, if_pos hl]; exact e, q⟩
theorem ev_tup {a : AM} : EvE (eTup a) env st Q ↔ EvA a env st fun xs s1 => xs.length ≤ sizeLine ∧ Q (.tup xs) s1 := by
  unfold EvE EvA eTup
  constructor
  · rintro ⟨d, s, e, q⟩
    split at e
    · rename_i x s1 h
      split at e
      · rename_i hl
        cases e
        exact ⟨x, _, h, hl, q⟩
      · cases e
    · cases e
  · rintro ⟨x, s1, h, hl, q⟩
    exact ⟨_, _, by rw [h]; simp only [if_pos hl], q⟩
theorem ev_lst {a : AM} : EvE (eLst a) env st Q ↔ EvA a env st fun xs s1 => xs.length ≤ sizeLine ∧ Q (.lst xs) s1 := by
  unfold EvE EvA eLst
  constructor
  · rintro ⟨d, s, e, q⟩
    split at e
    · rename_i x s1 h
      split at e
      · rename_i hl
        cases e
        exact ⟨x, _, h, hl, q⟩
      · cases e
    · cases e
  · rintro ⟨x, s1, h, hl, q⟩
    exact ⟨_, _, by rw [h]; simp only [if_pos hl], q⟩
theorem ev_lstM {a : AM} : EvE (eLstM a) env st Q ↔ EvA a env st fun xs s1 => xs.length ≤ sizeLine ∧ Q (.ref s1.length) (s1 ++ [.lst xs]) := by
  unfold EvE EvA eLstM
  constructor
  · rintro ⟨d, s, e, q⟩
    split at e
    · rename_i x s1 h
      split at e
      · rename_i hl
        cases e
        exact ⟨x, s1, h, hl, q⟩
      · cases e
    · cases e
  · rintro ⟨x, s1, h, hl, q⟩
    exact ⟨_, _, by rw [h]; simp only [if_pos hl], q⟩
theorem ev_dkM : EvE eDkM env st Q ↔ Q (.ref st.length) (st ++ [.dk [] []]) := by
  unfold EvE eDkM
  constructor
  · rintro ⟨d, s, e, q⟩
    cases e
    exact q
  · exact fun q => ⟨_, _, rfl, q⟩
theorem ev_dtM : EvE eDtM env st Q ↔ Q (.ref st.length) (st ++ [.dt [] []]) := by
  unfold EvE eDtM
  constructor
  · rintro ⟨d, s, e, q⟩
    cases e
    exact q
  · exact fun q => ⟨_, _, rfl, q⟩
theorem ev_bE {a : EM} : EvB (bE a) env st QB ↔ EvE a env st fun x s1 => ∃ b, x = .bl b ∧ QB b s1 := by
  unfold EvB EvE bE
  constructor
  · rintro ⟨d, s, e, q⟩
    split at e
    · rename_i x s1 h
      cases e
      exact ⟨_, _, h, _, rfl, q⟩
    · cases e
  · rintro ⟨x, s1, h, b, rfl, q⟩
    exact ⟨b, s1, by rw [h], q⟩
theorem ev_bAnd {a b : TM} : EvB (bAnd a b) env st QB ↔ EvB a env st fun c s1 => if c = true then EvB b env s1 QB else QB false s1 := by
  unfold EvB bAnd
  constructor
  · rintro ⟨d, s, e, q⟩
    rcases h : a env st with _ | ⟨c, s1⟩
    · rw [h] at e; cases e
    · rw [h] at e
      cases c with
      | true => exact ⟨true, s1, rfl, (if_pos rfl).mpr ⟨d, s, e, q⟩⟩
      | false => cases e; exact ⟨false, s, rfl, (if_neg Bool.false_ne_true).mpr q⟩
  · rintro ⟨c, s1, h, q⟩
    rw [h]
    cases c with
    | true => rw [if_pos rfl] at q; exact q
    | false => rw [if_neg Bool.false_ne_true] at q; exact ⟨false, s1, rfl, q⟩
theorem ev_bOr {a b : TM} : EvB (bOr a b) env st QB ↔ EvB a env st fun c s1 => if c = true then QB true s1 else EvB b env s1 QB := by
  unfold EvB bOr
  constructor
  · rintro ⟨d, s, e, q⟩
    rcases h : a env st with _ | ⟨c, s1⟩
    · rw [h] at e; cases e
    · rw [h] at e
      cases c with
      | false => exact ⟨false, s1, rfl, (if_neg Bool.false_ne_true).mpr ⟨d, s, e, q⟩⟩
      | true => cases e; exact ⟨true, s, rfl, (if_pos rfl).mpr q⟩
  · rintro ⟨c, s1, h, q⟩
    rw [h]
    cases c with
    | false => rw [if_neg Bool.false_ne_true] at q; exact q
    | true => rw [if_pos rfl] at q; exact ⟨true, s1, rfl, q⟩
theorem ev_bNot {a : TM} : EvB (bNot a) env st QB ↔ EvB a env st fun c s1 => QB (!c) s1 := by
  unfold EvB bNot
  constructor
  · rintro ⟨d, s, e, q⟩
    split at e
    · rename_i x s1 h
      cases e
      exact ⟨_, _, h, q⟩
    · cases e
  · rintro ⟨c, s1, h, q⟩
    exact ⟨_, s1, by rw [h], q⟩
theorem ev_bYes : EvB bYes env st QB ↔ QB true st := by
  unfold EvB bYes
  constructor
  · rintro ⟨d, s, e, q⟩
    cases e
    exact q
  · exact fun q => ⟨_, _, rfl, q⟩
theorem ev_eAnd {a b : EM} : EvE (eAnd a b) env st Q ↔ EvE a env st fun x s1 => ∃ c, x = .bl c ∧ if c = true then EvE b env s1 Q else Q (.bl false) s1 := by
  unfold EvE eAnd
  constructor
  · rintro ⟨d, s, e, q⟩
    split at e
    · rename_i s1 h
      exact ⟨_, s1, h, true, rfl, (if_pos rfl).mpr ⟨d, s, e, q⟩⟩
    · rename_i s1 h
      cases e
      exact ⟨_, _, h, false, rfl, (if_neg Bool.false_ne_true).mpr q⟩
    · cases e
  · rintro ⟨x, s1, h, c, rfl, q⟩
    rw [h]
    cases c with
    | true => rw [if_pos rfl] at q; exact q
    | false => rw [if_neg Bool.false_ne_true] at q; exact ⟨_, s1, rfl, q⟩
theorem ev_eOr {a b : EM} : EvE (eOr a b) env st Q ↔ EvE a env st fun x s1 => ∃ c, x = .bl c ∧ if c = true then Q (.bl true) s1 else EvE b env s1 Q := by
  unfold EvE eOr
  constructor
  · rintro ⟨d, s, e, q⟩
    split at e
    · rename_i s1 h
      exact ⟨_, s1, h, false, rfl, (if_neg Bool.false_ne_true).mpr ⟨d, s, e, q⟩⟩
    · rename_i s1 h
      cases e
      exact ⟨_, _, h, true, rfl, (if_pos rfl).mpr q⟩
    · cases e
  · rintro ⟨x, s1, h, c, rfl, q⟩
    rw [h]
    cases c with
    | false => rw [if_neg Bool.false_ne_true] at q; exact q
    | true => rw [if_pos rfl] at q; exact ⟨_, s1, rfl, q⟩
theorem ev_eNot {a : EM} : EvE (eNot a) env st Q ↔ EvE a env st fun x s1 => ∃ c, x = .bl c ∧ Q (.bl (!c)) s1 := by
  unfold EvE eNot
  constructor
  · rintro ⟨d, s, e, q⟩
    split at e
    · rename_i b s1 h
      cases e
      exact ⟨_, _, h, b, rfl, q⟩
    · cases e
  · rintro ⟨x, s1, h, c, rfl, q⟩
    exact ⟨_, s1, by rw [h], q⟩
theorem ev_if {c : TM} {a b : EM} : EvE (eIf c a b) env st Q ↔ EvB c env st fun x s1 => if x = true then EvE a env s1 Q else EvE b env s1 Q := by
  unfold EvE EvB eIf
  constructor
  · rintro ⟨d, s, e, q⟩
    split at e
    · rename_i s1 h
      exact ⟨_, s1, h, (if_pos rfl).mpr ⟨d, s, e, q⟩⟩
    · rename_i s1 h
      exact ⟨_, s1, h, (if_neg Bool.false_ne_true).mpr ⟨d, s, e, q⟩⟩
    · cases e
  · rintro ⟨x, s1, h, q⟩
    rw [h]
    cases x with
    | true => rw [if_pos rfl] at q; exact q
    | false => rw [if_neg Bool.false_ne_true] at q; exact q
theorem ev_chain {f g : D → D → Store → Option D} {a b c : EM} : EvE (eChain f g a b c) env st Q ↔ EvE a env st fun x s1 => EvE b env s1 fun y s2 => ∃ t, f x y s2 = some (.bl t) ∧ if t = true then EvE c env s2 fun z s3 => ∃ r, g y z s3 = some r ∧ Q r s3 else Q (.bl false) s2 := by
  unfold EvE eChain
  constructor
  · rintro ⟨d, s, e, q⟩
    split at e
    · rename_i x s1 h1
      split at e
      · rename_i y s2 h2
        refine ⟨x, s1, h1, y, s2, h2, ?_⟩
        split at e
        · rename_i h3
          refine ⟨true, h3, (if_pos rfl).mpr ?_⟩
          split at e
          · rename_i z s3 h4
            rw [Option.map_eq_some_iff] at e
            obtain ⟨r, e1, e2⟩ := e
            cases e2
            exact ⟨z, _, h4, _, e1, q⟩
          · cases e
        · rename_i h3
          cases e
          exact ⟨false, h3, (if_neg Bool.false_ne_true).mpr q⟩
        · cases e
      · cases e
    · cases e
  · rintro ⟨x, s1, h1, y, s2, h2, t, h3, q⟩
    rw [h1]
    dsimp only
    rw [h2]
    dsimp only
    rw [h3]
    cases t with
    | true =>
      rw [if_pos rfl] at q
      obtain ⟨z, s3, h4, r, e, q⟩ := q
      exact ⟨r, s3, by simp only [h4, e, Option.map_some], q⟩
    | false =>
      rw [if_neg Bool.false_ne_true] at q
      exact ⟨_, s2, rfl, q⟩
theorem ev_oNone {Q : Option Int → Store → Prop} : EvO oNone env st Q ↔ Q none st := by
  unfold EvO oNone
  constructor
  · rintro ⟨d, s, e, q⟩
    cases e
    exact q
  · exact fun q => ⟨_, _, rfl, q⟩
theorem ev_oSome {a : EM} {Q : Option Int → Store → Prop} : EvO (oSome a) env st Q ↔ EvE a env st fun x s1 => ∃ i, x = .int i ∧ Q (some i) s1 := by
  unfold EvO EvE oSome
  constructor
  · rintro ⟨d, s, e, q⟩
    split at e
    · rename_i x s1 h
      cases e
      exact ⟨_, _, h, _, rfl, q⟩
    · cases e
  · rintro ⟨x, s1, h, b, rfl, q⟩
    exact ⟨_, s1, by rw [h], q⟩
theorem ev_sl {a : EM} {l u : OM} : EvE (eSl a l u) env st Q ↔ EvE a env st fun x s1 => EvO l env s1 fun lo s2 => EvO u env s2 fun hi s3 => ∃ z, dSl x lo hi s3 = some z ∧ Q z s3 := by
  unfold EvE EvO eSl
  constructor
  · rintro ⟨d, s, e, q⟩
    split at e
    · rename_i x s1 h
      split at e
      · rename_i y s2 h2
        split at e
        · rename_i w s3 h3
          rw [Option.map_eq_some_iff] at e
          obtain ⟨z, e1, e2⟩ := e
          cases e2
          exact ⟨x, s1, h, y, s2, h2, w, _, h3, _, e1, q⟩
        · cases e
      · cases e
    · cases e
  · rintro ⟨x, s1, h, y, s2, h2, w, s3, h3, z, e, q⟩
    exact ⟨z, s3, by rw [h]; simp only [h2, h3, e, Option.map_some], q⟩
theorem ev_bm {Ty : String} {F : MM} {a : EM} {r : AM} : EvE (eBM Ty F a r) env st Q ↔ EvE a env st fun x s1 => tyD Ty s1 x ∧ EvA r env s1 fun xs s2 => ∃ d s3, F x xs s2 = some (d, s3) ∧ Q d s3 := by
  unfold EvE EvA eBM
  constructor
  · rintro ⟨d, s, e, q⟩
    split at e
    · rename_i x s1 h
      split at e
      · rename_i ht
        split at e
        · rename_i xs s2 h2
          exact ⟨x, s1, h, ht, xs, s2, h2, d, s, e, q⟩
        · cases e
      · cases e
    · cases e
  · rintro ⟨x, s1, h, ht, xs, s2, h2, d, s3, e, q⟩
    exact ⟨d, s3, by rw [h]; simp only [if_pos ht, h2]; exact e, q⟩

theorem ev_skip : EvS sSkip env st QS ↔ QS (.nx env) st := by
  unfold EvS sSkip
  constructor
  · rintro ⟨d, s, e, q⟩
    cases e
    exact q
  · exact fun q => ⟨_, _, rfl, q⟩
theorem ev_brk : EvS sBrk env st QS ↔ QS (.bk env) st := by
  unfold EvS sBrk
  constructor
  · rintro ⟨d, s, e, q⟩
    cases e
    exact q
  · exact fun q => ⟨_, _, rfl, q⟩
theorem ev_cnt : EvS sCnt env st QS ↔ QS (.ct env) st := by
  unfold EvS sCnt
  constructor
  · rintro ⟨d, s, e, q⟩
    cases e
    exact q
  · exact fun q => ⟨_, _, rfl, q⟩
def thenS (b : SM) (Q : Out → Store → Prop) : Out → Store → Prop := fun o s => match o with
  | .nx e => EvS b e s Q
  | o => Q o s
theorem ev_seq {a b : SM} : EvS (sSeq a b) env st QS ↔ EvS a env st (thenS b QS) := by
  unfold EvS sSeq
  constructor
  · rintro ⟨d, s, e, q⟩
    rcases h : a env st with _ | ⟨o, s1⟩
    · rw [h] at e; cases e
    · rw [h] at e
      refine ⟨o, s1, rfl, ?_⟩
      cases o with
      | nx e1 => exact ⟨d, s, e, q⟩
      | rt _ => cases e; exact q
      | bk _ => cases e; exact q
      | ct _ => cases e; exact q
  · rintro ⟨o, s1, h, q⟩
    rw [h]
    cases o with
    | nx e1 => exact q
    | rt _ => exact ⟨_, _, rfl, q⟩
    | bk _ => exact ⟨_, _, rfl, q⟩
    | ct _ => exact ⟨_, _, rfl, q⟩
theorem then_nx {b : SM} {e : Env} {s : Store} : thenS b QS (.nx e) s ↔ EvS b e s QS := Iff.rfl
theorem then_rt {b : SM} {d : D} {s : Store} : thenS b QS (.rt d) s ↔ QS (.rt d) s := Iff.rfl
theorem then_bk {b : SM} {e : Env} {s : Store} : thenS b QS (.bk e) s ↔ QS (.bk e) s := Iff.rfl
theorem then_ct {b : SM} {e : Env} {s : Store} : thenS b QS (.ct e) s ↔ QS (.ct e) s := Iff.rfl
theorem ev_set {i : Nat} {m : EM} : EvS (sSet i m) env st QS ↔ EvE m env st fun d s => QS (.nx (env.set i (some d))) s := by
  unfold EvS EvE sSet
  constructor
  · rintro ⟨d, s, e, q⟩
    split at e
    · rename_i x s1 h
      cases e
      exact ⟨_, _, h, q⟩
    · cases e
  · rintro ⟨x, s1, h, q⟩
    exact ⟨_, s1, by rw [h], q⟩
theorem ev_asg {m : EM} {g : GM} : EvS (sAsg m g) env st QS ↔ EvE m env st fun d s => ∃ e, g d env = some e ∧ QS (.nx e) s := by
  unfold EvS EvE sAsg
  constructor
  · rintro ⟨d, s, e, q⟩
    split at e
    · rename_i x s1 h
      split at e
      · rename_i e1 h2
        cases e
        exact ⟨_, _, h, _, h2, q⟩
      · cases e
    · cases e
  · rintro ⟨x, s1, h, e, h2, q⟩
    exact ⟨_, s1, by rw [h]; simp only [h2], q⟩
theorem ev_par {i j : Nat} {a : AM} : EvS (sPar i j a) env st QS ↔ EvA a env st fun ds s => ∃ x y, ds = [x, y] ∧ QS (.nx ((env.set i (some x)).set j (some y))) s := by
  unfold EvS EvA sPar
  constructor
  · rintro ⟨d, s, e, q⟩
    split at e
    · rename_i x y s1 h
      cases e
      exact ⟨_, _, h, x, y, rfl, q⟩
    · cases e
  · rintro ⟨ds, s1, h, x, y, rfl, q⟩
    exact ⟨_, s1, by rw [h], q⟩
theorem ev_par3 {i j l : Nat} {a : AM} : EvS (sPar3 i j l a) env st QS ↔ EvA a env st fun ds s => ∃ x y z, ds = [x, y, z] ∧ QS (.nx (((env.set i (some x)).set j (some y)).set l (some z))) s := by
  unfold EvS EvA sPar3
  constructor
  · rintro ⟨d, s, e, q⟩
    split at e
    · rename_i x y z s1 h
      cases e
      exact ⟨_, _, h, x, y, z, rfl, q⟩
    · cases e
  · rintro ⟨ds, s1, h, x, y, z, rfl, q⟩
    exact ⟨_, s1, by rw [h], q⟩
theorem ev_ret {m : EM} : EvS (sRet m) env st QS ↔ EvE m env st fun d s => QS (.rt d) s := by
  unfold EvS EvE sRet
  constructor
  · rintro ⟨d, s, e, q⟩
    split at e
    · rename_i x s1 h
      cases e
      exact ⟨_, _, h, q⟩
    · cases e
  · rintro ⟨x, s1, h, q⟩
    exact ⟨_, s1, by rw [h], q⟩
theorem ev_drop {m : EM} : EvS (sDrop m) env st QS ↔ EvE m env st fun d s => QS (.nx env) s := by
  unfold EvS EvE sDrop
  constructor
  · rintro ⟨d, s, e, q⟩
    split at e
    · rename_i x s1 h
      cases e
      exact ⟨_, _, h, q⟩
    · cases e
  · rintro ⟨x, s1, h, q⟩
    exact ⟨_, s1, by rw [h], q⟩
theorem ev_sIf {c : TM} {a b : SM} : EvS (sIf c a b) env st QS ↔ EvB c env st fun x s1 => if x = true then EvS a env s1 QS else EvS b env s1 QS := by
  unfold EvS EvB sIf
  constructor
  · rintro ⟨d, s, e, q⟩
    split at e
    · rename_i s1 h
      exact ⟨_, s1, h, (if_pos rfl).mpr ⟨d, s, e, q⟩⟩
    · rename_i s1 h
      exact ⟨_, s1, h, (if_neg Bool.false_ne_true).mpr ⟨d, s, e, q⟩⟩
    · cases e
  · rintro ⟨x, s1, h, q⟩
    rw [h]
    cases x with
    | true => rw [if_pos rfl] at q; exact q
    | false => rw [if_neg Bool.false_ne_true] at q; exact q
theorem ev_aug {i : Nat} {f : D → D → Store → Option D} {m : EM} : EvS (sAug i f m) env st QS ↔ ∃ x, env[i]? = some (some x) ∧ EvE m env st fun y s => ∃ z, f x y s = some z ∧ QS (.nx (env.set i (some z))) s := by
  unfold EvS EvE sAug
  constructor
  · rintro ⟨d, s, e, q⟩
    split at e
    · rename_i x h0
      refine ⟨x, h0, ?_⟩
      split at e
      · rename_i y s1 h
        split at e
        · rename_i z h2
          cases e
          exact ⟨_, _, h, _, h2, q⟩
        · cases e
      · cases e
    · cases e
  · rintro ⟨x, h0, y, s1, h, z, h2, q⟩
    exact ⟨_, s1, by rw [h0]; simp only [h, h2], q⟩
theorem ev_sub {f : D → D → D → Store → Option Store} {mo mi mv : EM} : EvS (sSub f mo mi mv) env st QS ↔ EvE mv env st fun v s1 => EvE mo env s1 fun o s2 => EvE mi env s2 fun i s3 => ∃ s4, f o i v s3 = some s4 ∧ QS (.nx env) s4 := by
  unfold EvS EvE sSub
  constructor
  · rintro ⟨d, s, e, q⟩
    split at e
    · rename_i v s1 h1
      split at e
      · rename_i o s2 h2
        split at e
        · rename_i i s3 h3
          split at e
          · rename_i s4 h4
            cases e
            exact ⟨_, _, h1, _, _, h2, _, _, h3, _, h4, q⟩
          · cases e
        · cases e
      · cases e
    · cases e
  · rintro ⟨v, s1, h1, o, s2, h2, i, s3, h3, s4, h4, q⟩
    exact ⟨_, s4, by rw [h1]; simp only [h2, h3, h4], q⟩
theorem ev_seqI {m : EM} {QI : List D → (Store → Prop) → Store → Prop} : EvI (iSeq m) env st QI ↔ EvE m env st fun x s1 => match x with
    | .tup xs => QI xs always s1
    | .tpf xs => QI xs always s1
    | .lst xs => QI xs always s1
    | .scr ns => QI (ns.map .int) always s1
    | .ref i => ∃ xs, s1[i]? = some (.lst xs) ∧ QI xs (fun s => s[i]? = some (.lst xs)) s1
    | _ => False := by
  unfold EvI EvE iSeq
  constructor
  · rintro ⟨ds, gd, s, e, q⟩
    split at e
    · rename_i xs s1 h
      cases e
      exact ⟨_, _, h, q⟩
    · rename_i xs s1 h
      cases e
      exact ⟨_, _, h, q⟩
    · rename_i xs s1 h
      cases e
      exact ⟨_, _, h, q⟩
    · rename_i xs s1 h
      cases e
      exact ⟨_, _, h, q⟩
    · rename_i i s1 h
      split at e
      · rename_i xs h2
        cases e
        exact ⟨_, _, h, _, h2, q⟩
      · cases e
    · cases e
  · rintro ⟨x, s1, h, q⟩
    rw [h]
    cases x with
    | tup xs => exact ⟨_, _, _, rfl, q⟩
    | tpf xs => exact ⟨_, _, _, rfl, q⟩
    | lst xs => exact ⟨_, _, _, rfl, q⟩
    | scr ns => exact ⟨_, _, _, rfl, q⟩
    | ref i =>
      obtain ⟨xs, h2, q⟩ := q
      exact ⟨xs, _, s1, by simp only [h2], q⟩
    | _ => exact q.elim
theorem ev_range1 {a : EM} {QI : List D → (Store → Prop) → Store → Prop} : EvI (iRange1 a) env st QI ↔ EvE a env st fun x s1 => ∃ j, x = .int j ∧ (-(2 ^ 62) ≤ j ∧ j < 2 ^ 62) ∧ QI (intsTo 0 j.toNat) always s1 := by
  unfold EvI EvE iRange1
  constructor
  · rintro ⟨ds, gd, s, e, q⟩
    split at e
    · rename_i j s1 h
      split at e
      · rename_i hz
        cases e
        exact ⟨_, _, h, j, rfl, hz, q⟩
      · cases e
    · cases e
  · rintro ⟨x, s1, h, j, rfl, hz, q⟩
    exact ⟨_, _, s1, by rw [h]; simp only [if_pos hz], q⟩
theorem ev_range2 {a b : EM} {QI : List D → (Store → Prop) → Store → Prop} : EvI (iRange2 a b) env st QI ↔ EvE a env st fun x s1 => EvE b env s1 fun y s2 => ∃ i j, x = .int i ∧ y = .int j ∧ ((-(2 ^ 62) ≤ i ∧ i < 2 ^ 62) ∧ (-(2 ^ 62) ≤ j ∧ j < 2 ^ 62)) ∧ QI (intsTo i (j - i).toNat) always s2 := by
  unfold EvI EvE iRange2
  constructor
  · rintro ⟨ds, gd, s, e, q⟩
    split at e
    · rename_i i s1 h
      split at e
      · rename_i j s2 h2
        split at e
        · rename_i hz
          cases e
          exact ⟨_, _, h, _, _, h2, i, j, rfl, rfl, hz, q⟩
        · cases e
      · cases e
    · cases e
  · rintro ⟨x, s1, h, y, s2, h2, i, j, rfl, rfl, hz, q⟩
    exact ⟨_, _, s2, by rw [h]; simp only [h2, if_pos hz], q⟩
theorem ev_for {im : IM} {g : GM} {body : SM} : EvS (sFor im g body) env st QS ↔ EvI im env st fun ds gd s1 => EvW (forGo gd g body ds env s1) QS := by
  unfold EvS EvI EvW sFor
  constructor
  · rintro ⟨d, s, e, q⟩
    split at e
    · rename_i ds gd s1 h
      exact ⟨_, _, _, h, d, s, e, q⟩
    · cases e
  · rintro ⟨ds, gd, s1, h, d, s, e, q⟩
    exact ⟨d, s, by rw [h]; exact e, q⟩
theorem ev_lc {im : IM} {g : GM} {tt : TM} {el : EM} {vs : List Nat} : EvE (eLc im g tt el vs) env st Q ↔ EvI im env st fun ds gd s1 => EvL (lcGo gd g tt el (wipeE env vs) ds s1) fun ys s2 => ys.length ≤ sizeLine ∧ Q (.lst ys) s2 := by
  unfold EvE EvI EvL eLc
  constructor
  · rintro ⟨d, s, e, q⟩
    split at e
    · rename_i ds gd s1 h
      split at e
      · rename_i ys s2 h2
        split at e
        · rename_i hz
          cases e
          exact ⟨_, _, _, h, ys, _, h2, hz, q⟩
        · cases e
      · cases e
    · cases e
  · rintro ⟨ds, gd, s1, h, ys, s2, h2, hz, q⟩
    exact ⟨_, s2, by rw [h]; simp only [h2, if_pos hz], q⟩
theorem for_inv {gd : Store → Prop} {g : GM} {body : SM} {ds : List D} (I : Nat → Env → Store → Prop) (h0 : I 0 env st) (hg : ∀ i env st, i ≤ ds.length → I i env st → gd st)
    (step : ∀ i (hi : i < ds.length) env st, I i env st → ∃ e1, g ds[i] env = some e1 ∧ EvS body e1 st fun o s => match o with
      | .nx e => I (i + 1) e s
      | .ct e => I (i + 1) e s
      | .bk e => QS (.nx e) s
      | .rt d => QS (.rt d) s) (done : ∀ env st, I ds.length env st → QS (.nx env) st) : EvW (forGo gd g body ds env st) QS := by
  have main : ∀ (n i : Nat) (env : Env) (st : Store), i + n = ds.length → I i env st → EvW (forGo gd g body (ds.drop i) env st) QS := by
    intro n
    induction n with
    | zero =>
      intro i env st hi h
      have e : i = ds.length := by omega
      subst e
      rw [List.drop_length]
      unfold forGo
      rw [if_pos (hg _ _ _ (Nat.le_refl _) h)]
      exact ⟨_, _, rfl, done _ _ h⟩
    | succ n ih =>
      intro i env st hi h
      have hlt : i < ds.length := by omega
      rw [List.drop_eq_getElem_cons hlt]
      unfold forGo
      rw [if_pos (hg _ _ _ (Nat.le_of_lt hlt) h)]
      obtain ⟨e1, h1, o, s, h2, q⟩ := step i hlt env st h
      rw [h1]
      dsimp only
      rw [h2]
      cases o with
      | nx e => exact ih (i + 1) e s (by omega) q
      | ct e => exact ih (i + 1) e s (by omega) q
      | bk e => exact ⟨_, _, rfl, q⟩
      | rt d => exact ⟨_, _, rfl, q⟩
  have := main ds.length 0 env st (by omega) h0
  simpa using this
theorem lc_inv {gd : Store → Prop} {g : GM} {tt : TM} {el : EM} {env : Env} {ds : List D} {QL : List D → Store → Prop} (I : Nat → List D → Store → Prop) (h0 : I 0 [] st) (hg : ∀ i ys st, i ≤ ds.length → I i ys st → gd st)
    (step : ∀ i (hi : i < ds.length) ys st, I i ys st → ∃ e1, g ds[i] env = some e1 ∧ EvB tt e1 st fun b s1 => if b = true then EvE el e1 s1 fun y s2 => I (i + 1) (ys ++ [y]) s2 else I (i + 1) ys s1)
    (done : ∀ ys st, I ds.length ys st → QL ys st) : EvL (lcGo gd g tt el env ds st) QL := by
  have main : ∀ (n i : Nat) (ys : List D) (st : Store), i + n = ds.length → I i ys st → ∃ zs s, lcGo gd g tt el env (ds.drop i) st = some (zs, s) ∧ QL (ys ++ zs) s := by
    intro n
    induction n with
    | zero =>
      intro i ys st hi h
      have e : i = ds.length := by omega
      subst e
      rw [List.drop_length]
      unfold lcGo
      rw [if_pos (hg _ _ _ (Nat.le_refl _) h)]
      exact ⟨_, _, rfl, by rw [List.append_nil]; exact done _ _ h⟩
    | succ n ih =>
      intro i ys st hi h
      have hlt : i < ds.length := by omega
      rw [List.drop_eq_getElem_cons hlt]
      unfold lcGo
      rw [if_pos (hg _ _ _ (Nat.le_of_lt hlt) h)]
      obtain ⟨e1, h1, b, s1, h2, q⟩ := step i hlt ys st h
      rw [h1]
      dsimp only
      rw [h2]
      cases b with
      | true =>
        rw [if_pos rfl] at q
        obtain ⟨y, s2, h3, q⟩ := q
        obtain ⟨zs, s3, h4, q⟩ := ih (i + 1) _ s2 (by omega) q
        dsimp only
        rw [h3]
        dsimp only
        rw [h4]
        exact ⟨_, _, rfl, by rw [List.append_assoc] at q; exact q⟩
      | false =>
        rw [if_neg Bool.false_ne_true] at q
        exact ih (i + 1) _ s1 (by omega) q
  obtain ⟨zs, s, h, q⟩ := main ds.length 0 [] st (by omega) h0
  exact ⟨zs, s, by simpa using h, by simpa using q⟩
end

def outF (st : Store) (Q : D → Store → Prop) : Out → Store → Prop := fun o s1 => match o with
  | .rt r => EvF (fun _ s => fin st r s) [] s1 Q
  | .nx _ => EvF (fun _ s => fin st .non s) [] s1 Q
  | _ => False
def outK (Q : D → Store → Prop) : Out → Store → Prop := fun o s1 => match o with
  | .rt r => Q r s1
  | .nx _ => Q .non s1
  | _ => False
theorem ev_mkF {N : Nat} {body : SM} {ds : List D} {st : Store} {Q : D → Store → Prop} : EvF (mkF N body) ds st Q ↔ EvS body (enter N ds) st (outF st Q) := by
  unfold EvF EvS mkF
  constructor
  · rintro ⟨d, s, e, q⟩
    split at e
    · rename_i r s1 h
      exact ⟨_, _, h, d, s, e, q⟩
    · rename_i r s1 h
      exact ⟨_, _, h, d, s, e, q⟩
    · cases e
  · rintro ⟨o, s1, h, q⟩
    cases o with
    | rt r => obtain ⟨d, s, e, q⟩ := q; exact ⟨d, s, by rw [h]; exact e, q⟩
    | nx r => obtain ⟨d, s, e, q⟩ := q; exact ⟨d, s, by rw [h]; exact e, q⟩
    | bk r => exact q.elim
    | ct r => exact q.elim
theorem ev_mkK {N : Nat} {body : SM} {ds : List D} {st : Store} {Q : D → Store → Prop} : EvF (mkK N body) ds st Q ↔ EvS body (enter N ds) st (outK Q) := by
  unfold EvF EvS mkK
  constructor
  · rintro ⟨d, s, e, q⟩
    split at e
    · rename_i r s1 h
      cases e
      exact ⟨_, _, h, q⟩
    · rename_i r s1 h
      cases e
      exact ⟨_, _, h, q⟩
    · cases e
  · rintro ⟨o, s1, h, q⟩
    cases o with
    | rt r => exact ⟨_, _, by rw [h], q⟩
    | nx r => exact ⟨_, _, by rw [h], q⟩
    | bk r => exact q.elim
    | ct r => exact q.elim
theorem fin_tree {st s1 : Store} {r : D} {Q : D → Store → Prop} (h : r.blw 0 = true) (c : closeOk st s1) (q : Q r (s1.take st.length)) : EvF (fun _ s => fin st r s) [] s1 Q := by
  refine ⟨r, s1.take st.length, ?_, q⟩
  show fin st r s1 = _
  unfold fin
  rw [fz_blw (n := 0) (fun i hi => absurd hi (Nat.not_lt_zero _)) r h]
  dsimp only
  rw [if_pos c]
theorem closeOk_refl (st : Store) : closeOk st st := fun i hi => ⟨st[i], List.getElem?_eq_getElem hi, .inl (List.getElem?_eq_getElem hi)⟩
theorem closeOk_set (st l : Store) (b : Nat) (c : D) (h : c.blw 0 = true) : closeOk st (st.set b c ++ l) := fun i hi => by
  have hl : i < (st.set b c).length := by simpa using hi
  rw [List.getElem?_append_left hl]
  by_cases e : b = i
  · subst e
    refine ⟨c, by rw [List.getElem?_set_self hi], .inr ?_⟩
    have h2 : ∀ n, c.blw n = true := fun n => blw_mono n h
    exact h2 _
  · refine ⟨st[i], by rw [List.getElem?_set_ne e]; exact List.getElem?_eq_getElem hi, .inl (List.getElem?_eq_getElem hi)⟩
where
  blw_mono (n : Nat) {c : D} (h : c.blw 0 = true) : c.blw n = true := go n c h
  go (n : Nat) : ∀ c : D, c.blw 0 = true → c.blw n = true := by
    intro c
    exact (blw_mono_both n).1 c
  blw_mono_both (n : Nat) : (∀ c : D, c.blw 0 = true → c.blw n = true) ∧ ∀ cs : List D, D.blws 0 cs = true → D.blws n cs = true := by
    constructor
    · intro c
      exact D.rec (motive_1 := fun c => c.blw 0 = true → c.blw n = true) (motive_2 := fun cs => D.blws 0 cs = true → D.blws n cs = true)
        (by simp [D.blw]) (by simp [D.blw]) (by simp [D.blw]) (by simp [D.blw]) (by simp [D.blw]) (by simp [D.blw]) (by intro xs ih; simpa [D.blw] using ih) (by intro xs ih; simpa [D.blw] using ih) (by intro xs ih; simpa [D.blw] using ih) (by simp [D.blw]) (by intro ks xs ih; simpa [D.blw] using ih) (by intro ks xs ih; simpa [D.blw] using ih) (by simp [D.blw]) (by intro m fs xs ih; simpa [D.blw] using ih) (by intro i; simp [D.blw])
        (by simp [D.blws]) (by intro c cs h1 h2 h; simp only [D.blws, Bool.and_eq_true] at h ⊢; exact ⟨h1 h.1, h2 h.2⟩) c
    · intro cs
      exact D.rec_1 (motive_1 := fun c => c.blw 0 = true → c.blw n = true) (motive_2 := fun cs => D.blws 0 cs = true → D.blws n cs = true)
        (by simp [D.blw]) (by simp [D.blw]) (by simp [D.blw]) (by simp [D.blw]) (by simp [D.blw]) (by simp [D.blw]) (by intro xs ih; simpa [D.blw] using ih) (by intro xs ih; simpa [D.blw] using ih) (by intro xs ih; simpa [D.blw] using ih) (by simp [D.blw]) (by intro ks xs ih; simpa [D.blw] using ih) (by intro ks xs ih; simpa [D.blw] using ih) (by simp [D.blw]) (by intro m fs xs ih; simpa [D.blw] using ih) (by intro i; simp [D.blw])
        (by simp [D.blws]) (by intro c cs h1 h2 h; simp only [D.blws, Bool.and_eq_true] at h ⊢; exact ⟨h1 h.1, h2 h.2⟩) cs
theorem blws_map {α : Type} {f : α → D} {n : Nat} (h : ∀ x, (f x).blw n = true) : ∀ xs : List α, D.blws n (xs.map f) = true
  | [] => by simp [D.blws]
  | x :: xs => by simp [D.blws, h x, blws_map h xs]
section
variable {st l : Store} {b : Nat} {c c' x y z : D}
theorem cell_b (h : b < st.length) : (st.set b c ++ l)[b]? = some c := by
  rw [List.getElem?_append_left (by simpa using h), List.getElem?_set_self h]
theorem cell_b0 (h : b < st.length) : (st.set b c)[b]? = some c := List.getElem?_set_self h
theorem cell_n : (st.set b c ++ x :: l)[st.length]? = some x := by
  rw [List.getElem?_append_right (by simp)]; simp
theorem put_b (h : b < st.length) : (st.set b c ++ l).set b c' = st.set b c' ++ l := by
  rw [List.set_append_left _ _ (by simpa using h), List.set_set]
theorem put_n : (st.set b c ++ x :: l).set st.length y = st.set b c ++ y :: l := by
  rw [List.set_append_right _ _ (by simp)]; simp
theorem put_n0 : (st ++ x :: l).set st.length y = st ++ y :: l := by
  rw [List.set_append_right _ _ (by simp)]; simp
theorem cut_b : (st.set b c ++ l).take st.length = st.set b c := by
  rw [List.take_append_of_le_length (by simp)]; exact List.take_of_length_le (by simp)
theorem cut_0 : (st ++ l).take st.length = st := by simp
theorem cut_b0 : (st.set b c).take st.length = st.set b c := List.take_of_length_le (by simp)
end
end My

namespace My
open PySem PySem.Spec PyProof.Rows L2

section
variable {i j : Int} {x y : Str} {st : Store} {a b : D} {xs ys : List D} {c e : Bool}
theorem add_int : dAdd (.int i) (.int j) st = some (.int (i + j)) := rfl
theorem addI_int : dAddI (.int i) (.int j) st = some (.int (i + j)) := rfl
theorem sub_int : dSub (.int i) (.int j) st = some (.int (i - j)) := rfl
theorem mul_int (h : CMulW i j) : dMul (.int i) (.int j) st = some (.int (i * j)) := if_pos h
theorem mod_int (h : 0 < j) : dMod (.int i) (.int j) st = some (.int (i % j)) := if_pos h
theorem fdiv_int (h : CDivW i j) : dFdiv (.int i) (.int j) st = some (.int (i / j)) := if_pos h
theorem neg_int : dNeg (.int i) st = some (.int (-i)) := rfl
theorem lt_int : dLt (.int i) (.int j) st = some (.bl (decide (i < j))) := rfl
theorem le_int : dLe (.int i) (.int j) st = some (.bl (decide (i ≤ j))) := rfl
theorem gt_int : dGt (.int i) (.int j) st = some (.bl (decide (j < i))) := rfl
theorem ge_int : dGe (.int i) (.int j) st = some (.bl (decide (j ≤ i))) := rfl
theorem eq_int : dEq (.int i) (.int j) st = some (.bl (decide (i = j))) := rfl
theorem ne_int : dNe (.int i) (.int j) st = some (.bl (!decide (i = j))) := rfl
theorem eq_str : dEq (.str x) (.str y) st = some (.bl (decide (x = y))) := rfl
theorem ne_str : dNe (.str x) (.str y) st = some (.bl (!decide (x = y))) := rfl
theorem eq_bl : dEq (.bl c) (.bl e) st = some (.bl (decide (c = e))) := rfl
theorem ne_bl : dNe (.bl c) (.bl e) st = some (.bl (!decide (c = e))) := rfl
theorem eq_is : dEq (.int i) (.str y) st = some (.bl false) := rfl
theorem eq_si : dEq (.str x) (.int j) st = some (.bl false) := rfl
theorem ne_is : dNe (.int i) (.str y) st = some (.bl true) := rfl
theorem ne_si : dNe (.str x) (.int j) st = some (.bl true) := rfl
theorem is_nn : dIs .non .non st = some (.bl true) := rfl
theorem cat_lst (h : xs.length + ys.length ≤ sizeLine) : dAdd (.lst xs) (.lst ys) st = some (.lst (xs ++ ys)) := if_pos h
theorem ix_tup : dIx (.tup xs) (.int i) st = atI xs i := rfl
theorem ix_lst : dIx (.lst xs) (.int i) st = atI xs i := rfl
theorem ix_scr {ns : List Int} : dIx (.scr ns) (.int i) st = atI (ns.map .int) i := rfl
theorem seqA_cell {n : Nat} (h : st[n]? = some (.lst xs)) : seqA st (.ref n) = some xs := by simp only [seqA, seqL, h]
theorem ix_cell {n : Nat} (h : st[n]? = some (.lst xs)) : dIx (.ref n) (.int i) st = atI xs i := by
  unfold dIx
  rw [seqA_cell h]
theorem at_0 {α : Type} {z : α} {zs : List α} : atI (z :: zs) 0 = some z := atI_nat (j := 0) rfl
theorem at_1 {α : Type} {z w : α} {zs : List α} : atI (z :: w :: zs) 1 = some w := atI_nat (j := 1) rfl
theorem at_2 {α : Type} {z w u : α} {zs : List α} : atI (z :: w :: u :: zs) 2 = some u := atI_nat (j := 2) rfl
theorem at_3 {α : Type} {z w u t : α} {zs : List α} : atI (z :: w :: u :: t :: zs) 3 = some t := atI_nat (j := 3) rfl
theorem ixn_ok {n : Nat} {i : Int} (h0 : 0 ≤ i) (h1 : i < n) : ixN n i = some i.toNat := by
  unfold ixN
  rw [if_pos h0, if_pos h1]
theorem put_cell {n : Nat} {v : D} (h : st[n]? = some (.lst xs)) (h0 : 0 ≤ i) (h1 : i < xs.length) : dPut (.ref n) (.int i) v st = some (st.set n (.lst (xs.set i.toNat v))) := by
  simp only [dPut, h, ixn_ok h0 h1]
theorem len_tup : fLen [.tup xs] st = some (.int xs.length, st) := rfl
theorem len_tpf : fLen [.tpf xs] st = some (.int xs.length, st) := rfl
theorem ix_tpf : dIx (.tpf xs) (.int i) st = atI xs i := rfl
theorem len_lst : fLen [.lst xs] st = some (.int xs.length, st) := rfl
theorem len_scr {ns : List Int} : fLen [.scr ns] st = some (.int ns.length, st) := by
  show some _ = _
  rw [List.length_map]
theorem EvF_of {F : FM} {ds : List D} {st st' : Store} {d : D} {Q : D → Store → Prop} (h : F ds st = some (d, st')) (q : Q d st') : EvF F ds st Q := ⟨d, st', h, q⟩
end
theorem cmul {i j : Int} (a b : Nat) (ha : i.natAbs < 2 ^ a) (hb : j.natAbs < 2 ^ b) (h0 : 0 < a := by decide) (h1 : 0 < b := by decide) (h : a + b ≤ 1000000 := by decide) : CMulW i j := wide_mul ha hb h0 h1 h
theorem cdiv {i j : Int} (b : Nat) (h : 0 < j) (hb : j.natAbs < 2 ^ b) (h0 : 0 < b := by decide) (h9 : b ≤ 9000 := by decide) : CDivW i j := wide_div h hb h0 h9
theorem mul_lst {xs : List D} {k : Int} {st : Store} (h1 : -(2 ^ 63) ≤ k) (h2 : k < 2 ^ 63) (h3 : xs.length * k.toNat ≤ sizeLine) : dMul (.lst xs) (.int k) st = some (.lst (List.replicate k.toNat xs).flatten) := by
  simp only [dMul, seqL]
  exact if_pos ⟨h1, h2, h3⟩
theorem put_dk {n : Nat} {ks : List Key} {vs : List D} {i v : D} {k : Key} {st : Store} (h : st[n]? = some (.dk ks vs)) (hk : keyOf i = some k) (hz : ks.length < sizeLine) : dPut (.ref n) i v st = some (st.set n (.dk (kPutK ks k) (kPutV ks vs k v))) := by
  simp only [dPut, h, hk, if_pos hz]
theorem evF_some {F : FM} {ds : List D} {st st' : Store} {d : D} {Q : D → Store → Prop} (h : F ds st = some (d, st')) : EvF F ds st Q ↔ Q d st' :=
  ⟨fun ⟨x, s, e, q⟩ => by
    rw [h] at e
    cases e
    exact q, fun q => ⟨d, st', h, q⟩⟩
section
variable {i j : Int} {b : Bool} {xs : List D} {ns : List Int} {bs : List Bool} {x : Str} {st : Store} {Q : D → Store → Prop}
theorem ev_len_tup : EvF fLen [.tup xs] st Q ↔ Q (.int xs.length) st := evF_some len_tup
theorem ev_len_tpf : EvF fLen [.tpf xs] st Q ↔ Q (.int xs.length) st := evF_some len_tpf
theorem ev_len_lst : EvF fLen [.lst xs] st Q ↔ Q (.int xs.length) st := evF_some len_lst
theorem ev_len_scr : EvF fLen [.scr ns] st Q ↔ Q (.int ns.length) st := evF_some len_scr
theorem ev_abs : EvF fAbs [.int i] st Q ↔ Q (.int (if i < 0 then -i else i)) st := evF_some rfl
theorem ev_int : EvF fInt [.int i] st Q ↔ Q (.int i) st := evF_some rfl
theorem ev_intb : EvF fInt [.bl b] st Q ↔ Q (.int (if b = true then 1 else 0)) st := evF_some rfl
theorem ev_max2 : EvF fMax [.int i, .int j] st Q ↔ Q (.int (if j > i then j else i)) st := evF_some rfl
theorem ev_min2 : EvF fMin [.int i, .int j] st Q ↔ Q (.int (if j < i then j else i)) st := evF_some rfl
theorem ev_tuple_lst : EvF fTuple [.lst xs] st Q ↔ Q (.tup xs) st := evF_some rfl
theorem ev_tuple_tpf : EvF fTuple [.tpf xs] st Q ↔ Q (.tpf xs) st := evF_some rfl
theorem ev_tuple_tup : EvF fTuple [.tup xs] st Q ↔ Q (.tup xs) st := evF_some rfl
theorem ev_list_lst : EvF fList [.lst xs] st Q ↔ Q (.lst xs) st := evF_some rfl
theorem ev_list_tup : EvF fList [.tup xs] st Q ↔ Q (.lst xs) st := evF_some rfl
theorem ev_all : EvF fAll [.lst (bs.map D.bl)] st Q ↔ Q (.bl (bs.all id)) st := evF_some (by simp only [fAll, ro, seqL, bolsOf_map, Option.map_some])
theorem lKeys_map (ns : List Int) : lKeys (ns.map Sum.inl) = some ns := by
  induction ns with
  | nil => rfl
  | cons n ns ih => simp only [List.map_cons, lKeys, ih, Option.map_some]
theorem ev_sorted_dk {n : Nat} {vs : List D} (h : st[n]? = some (.dk (ns.map Sum.inl) vs)) (hl : ns.length < 64) : EvF fSorted [.ref n] st Q ↔ Q (.lst ((isort ns).map D.int)) st := evF_some (by
  have e1 : fSortedL [.ref n] st = none := by simp only [fSortedL, ro, seqL, h, Option.map_none]
  simp only [fSorted, e1, fSortedD, ro, dicK, h, lKeys_map, if_pos hl, Option.map_some])
theorem isort_perm (ns : List Int) : (isort ns).Perm ns := List.mergeSort_perm _ _
theorem isort_sorted (ns : List Int) : (isort ns).Pairwise (· ≤ ·) := by
  have := List.pairwise_mergeSort (le := fun a b : Int => decide (a ≤ b)) (fun a b c h1 h2 => by simp at *; omega) (fun a b => by simp; omega) ns
  exact this.imp fun h => by simpa using h
end
section
variable {i : Int} {b : Bool} {x : Str} {xs : List D} {d : D}
theorem blw_int : (D.int i).blw 0 = true := by simp only [D.blw]
theorem blw_bl : (D.bl b).blw 0 = true := by simp only [D.blw]
theorem blw_str : (D.str x).blw 0 = true := by simp only [D.blw]
theorem blw_non : D.non.blw 0 = true := by simp only [D.blw]
theorem blw_tup (h : D.blws 0 xs = true) : (D.tup xs).blw 0 = true := by simpa only [D.blw] using h
theorem blw_lst (h : D.blws 0 xs = true) : (D.lst xs).blw 0 = true := by simpa only [D.blw] using h
theorem blws_nil : D.blws 0 [] = true := by simp only [D.blws]
theorem blws_cons (h : d.blw 0 = true) (t : D.blws 0 xs = true) : D.blws 0 (d :: xs) = true := by simp only [D.blws, h, t, Bool.and_true]
theorem blws_ints {ns : List Int} : D.blws 0 (ns.map D.int) = true := blws_map (fun _ => blw_int) ns
theorem blws_all {xs : List D} (h : ∀ d ∈ xs, d.blw 0 = true) : D.blws 0 xs = true := by
  induction xs with
  | nil => exact blws_nil
  | cons d xs ih => exact blws_cons (h d List.mem_cons_self) (ih fun x hx => h x (List.mem_cons_of_mem _ hx))
theorem blws_mem {xs : List D} (h : D.blws 0 xs = true) : ∀ d ∈ xs, d.blw 0 = true := by
  induction xs with
  | nil => intro d hd; cases hd
  | cons d xs ih =>
    simp only [D.blws, Bool.and_eq_true] at h
    intro y hy
    rcases List.mem_cons.mp hy with rfl | hy
    · exact h.1
    · exact ih h.2 y hy
end
end My

namespace My
open PySem PySem.Spec PyProof.Rows L2
def wd (K : PySem.W.Frag) (mg : Str → Option Value) : Wd := ⟨K, fun n => match mg n with
  | some (.ref a) => a
  | _ => 0⟩
structure Df (K : PySem.W.Frag) (mg : Str → Option Value) (x : Str) (st : Stmt) (ps : List Str) : Prop where
  ex : ∃ (f : Addr) (fd : FuncData), Fun K x x st f fd ∧ mg x = some (.ref f) ∧ Binds K fd ps []
structure DfK (K : PySem.W.Frag) (mg : Str → Option Value) (x : Str) (st : Stmt) (ps : List Str) (kws : List (Str × V)) (n : Nat) : Prop where
  ex : ∃ (f : Addr) (fd : FuncData), FunD K x x (defArgs st) (defBody st) (defScope st) [] kws f fd ∧ mg x = some (.ref f) ∧ (∃ ds, Vals (kws.map (·.2)) ds ∧ Binds K fd ps ds) ∧ KBn K fd ps n (kws.map (·.1)) (fun us ws => us ++ ws) (fun vs zs => vs ++ zs)
structure MeF (K : PySem.W.Frag) (C : Addr) (m qual : Str) (st : Stmt) (ps : List Str) : Prop where
  ex : ∃ (f : Addr) (fd : FuncData), Fun K m qual st f fd ∧ Binds K fd ps [] ∧ Meth K C m f
structure MkF (K : PySem.W.Frag) (C : Addr) (qual : Str) (st : Stmt) (ps : List Str) : Prop where
  ex : ∃ (f : Addr) (fd : FuncData), Fun K "__init__" qual st f fd ∧ Binds K fd ps [] ∧ Mk K C f
section
variable {X : Cx} {W : Wd}
theorem jv (i : Nat) {x : Str} {pos : Pos} (hN : X.N[i]? = some x := by rfl) (hv : Vis X.env.scope x := by first | exact Or.inl rfl | exact Or.inr (Or.inl rfl) | exact Or.inr (Or.inr rfl)) (hd : (x == ("__debug__" : Str)) = false := by decide)
    (hcd : (x == ("__classdict__" : Str)) = false := by decide) : PE X (.Name x pos) (T W (eVar i)) := j_var hN hv hd hcd
theorem ty_rep {ι : Lay} {H : Hp} {n : String} : Rep W ι H (.ty n) (.ty n) := by simp only [Rep]
end
end My

namespace My
open PySem PySem.Spec PyProof.Rows L2

def fGet : List Str → List D → Str → Option D
  | f :: fs, v :: vs, g => if g = f then some v else fGet fs vs g
  | _, _, _ => none
def fPutF : List Str → Str → List Str
  | [], g => [g]
  | f :: fs, g => if f = g then f :: fs else f :: fPutF fs g
def fPutV : List Str → List D → Str → D → List D
  | f :: fs, v :: vs, g, x => if f = g then x :: vs else v :: fPutV fs vs g x
  | _, _, _, x => [x]
def eFld (n f : Str) (m : EM) : EM := fun env st => match m env st with
  | some (o, s1) => match insA s1 o with
    | some (n', fs, vs) => if n' = n then (fGet fs vs f).map (·, s1) else none
    | none => none
  | none => none
def fldPut (n f : Str) (o v : D) (st : Store) : Option Store := match o with
  | .ref i => match st[i]? with
    | some (.ins n' fs vs) => if n' = n ∧ fs.length < 1000 then some (st.set i (.ins n' (fPutF fs f) (fPutV fs vs f v))) else none
    | _ => none
  | _ => none
def sFldM (n f : Str) (mo mv : EM) : SM := fun env st => match mv env st with
  | some (v, s1) => match mo env s1 with
    | some (o, s2) => match fldPut n f o v s2 with
      | some s3 => some (.nx env, s3)
      | none => none
    | none => none
  | none => none
def sFldAugM (n f : Str) (g : D → D → Store → Option D) (mo mv : EM) : SM := fun env st => match mo env st with
  | some (o, s1) => match insA s1 o with
    | some (n', fs, vs) => if n' = n then match fGet fs vs f with
      | some x => match mv env s1 with
        | some (y, s2) => match g x y s2 with
          | some z => match fldPut n f o z s2 with
            | some s3 => some (.nx env, s3)
            | none => none
          | none => none
        | none => none
      | none => none
      else none
    | none => none
  | none => none
open Classical in
noncomputable def eMeth (n m : Str) (ar : Nat) (F : FM) (dds : List D) (mo : EM) (a : AM) : EM := fun env st => match mo env st with
  | some (o, s1) => match insA s1 o with
    | some (n', fs, _) => if n' = n ∧ m ∉ fs then match a env s1 with
      | some (xs, s2) => if (o :: (xs ++ dds)).length = ar then F (o :: (xs ++ dds)) s2 else none
      | none => none
      else none
    | none => none
  | none => none
open Classical in
noncomputable def eNew (n : Str) (ar : Nat) (F : FM) (dds : List D) (a : AM) : EM := fun env st => match a env st with
  | some (xs, s1) => if (xs ++ dds).length + 1 = ar then match F (.ref s1.length :: (xs ++ dds)) (s1 ++ [.ins n [] []]) with
    | some (.non, s2) => fin s1 (.ref s1.length) s2
    | _ => none
    else none
  | none => none
open Classical in
noncomputable def eNewK (n : Str) (ar : Nat) (F : FM) (dds : List D) (a : AM) : EM := fun env st => match a env st with
  | some (xs, s1) => if (xs ++ dds).length + 1 = ar then match F (.ref s1.length :: (xs ++ dds)) (s1 ++ [.ins n [] []]) with
    | some (.non, s2) => some (.ref s1.length, s2)
    | _ => none
    else none
  | none => none
section
variable {W : Wd} {ι : Lay} {H : Hp}
end
section
variable {X : Cx} {W : Wd} {o e value : Expr} {f n : Str} {pos pos' tpos apos p : Pos} {mo mv : EM} {es : List Expr}
variable {k ar : Nat} {g : Addr} {fd : FuncData} {ps : List Str} {x m : Str} {F : FM} {am : AM} {dvs : List V} {ds : List Value} {dds : List D} {E : XK}
end
section
variable {env : Env} {st : Store} {Q : D → Store → Prop} {QS : Out → Store → Prop}
theorem ev_fld {n f : Str} {m : EM} : EvE (eFld n f m) env st Q ↔ EvE m env st fun o s1 => ∃ fs vs d, insA s1 o = some (n, fs, vs) ∧ fGet fs vs f = some d ∧ Q d s1 := by
  unfold EvE eFld
  constructor
  · rintro ⟨d, s, e, q⟩
    split at e
    · rename_i x s1 h
      split at e
      · rename_i n' fs vs h2
        split at e
        · rename_i hn
          subst hn
          rw [Option.map_eq_some_iff] at e
          obtain ⟨z, e1, e2⟩ := e
          cases e2
          exact ⟨x, _, h, fs, vs, _, h2, e1, q⟩
        · cases e
      · cases e
    · cases e
  · rintro ⟨x, s1, h, fs, vs, d, h2, h3, q⟩
    exact ⟨d, s1, by rw [h]; simp only [h2, h3, if_true, Option.map_some], q⟩
theorem ev_fldM {n f : Str} {mo mv : EM} : EvS (sFldM n f mo mv) env st QS ↔ EvE mv env st fun v s1 => EvE mo env s1 fun o s2 => ∃ s3, fldPut n f o v s2 = some s3 ∧ QS (.nx env) s3 := by
  unfold EvS EvE sFldM
  constructor
  · rintro ⟨d, s, e, q⟩
    split at e
    · rename_i v s1 h1
      split at e
      · rename_i o s2 h2
        split at e
        · rename_i s4 h4
          cases e
          exact ⟨_, _, h1, _, _, h2, _, h4, q⟩
        · cases e
      · cases e
    · cases e
  · rintro ⟨v, s1, h1, o, s2, h2, s4, h4, q⟩
    exact ⟨_, s4, by rw [h1]; simp only [h2, h4], q⟩
theorem ev_meth {n m : Str} {ar : Nat} {F : FM} {dds : List D} {mo : EM} {a : AM} : EvE (eMeth n m ar F dds mo a) env st Q ↔ EvE mo env st fun o s1 => ∃ fs vs, insA s1 o = some (n, fs, vs) ∧ m ∉ fs ∧ EvA a env s1 fun xs s2 => (o :: (xs ++ dds)).length = ar ∧ EvF F (o :: (xs ++ dds)) s2 Q := by
  unfold EvE EvA EvF eMeth
  constructor
  · rintro ⟨d, s, e, q⟩
    split at e
    · rename_i x s1 h
      split at e
      · rename_i n' fs vs h2
        split at e
        · rename_i hn
          obtain ⟨rfl, hm⟩ := hn
          split at e
          · rename_i xs s2 h3
            split at e
            · rename_i hl
              exact ⟨x, s1, h, fs, vs, h2, hm, xs, s2, h3, hl, d, s, e, q⟩
            · cases e
          · cases e
        · cases e
      · cases e
    · cases e
  · rintro ⟨x, s1, h, fs, vs, h2, hm, xs, s2, h3, hl, d, s, e, q⟩
    exact ⟨d, s, by rw [h]; simp only [h2, h3, if_pos hl, hm, not_false_eq_true, and_self, if_true]; exact e, q⟩
theorem ev_new {n : Str} {ar : Nat} {F : FM} {dds : List D} {a : AM} : EvE (eNew n ar F dds a) env st Q ↔ EvA a env st fun xs s1 => (xs ++ dds).length + 1 = ar ∧ EvF F (.ref s1.length :: (xs ++ dds)) (s1 ++ [.ins n [] []]) fun d s2 => d = .non ∧ EvF (fun _ s => fin s1 (.ref s1.length) s) [] s2 Q := by
  unfold EvE EvA EvF eNew
  constructor
  · rintro ⟨d, s, e, q⟩
    split at e
    · rename_i xs s1 h
      split at e
      · rename_i hl
        split at e
        · rename_i s2 h2
          exact ⟨xs, s1, h, hl, _, s2, h2, rfl, d, s, e, q⟩
        · cases e
      · cases e
    · cases e
  · rintro ⟨xs, s1, h, hl, _, s2, h2, rfl, d, s, e, q⟩
    exact ⟨d, s, by rw [h]; simp only [if_pos hl, h2]; exact e, q⟩
theorem ev_newK {n : Str} {ar : Nat} {F : FM} {dds : List D} {a : AM} : EvE (eNewK n ar F dds a) env st Q ↔ EvA a env st fun xs s1 => (xs ++ dds).length + 1 = ar ∧ EvF F (.ref s1.length :: (xs ++ dds)) (s1 ++ [.ins n [] []]) fun d s2 => d = .non ∧ Q (.ref s1.length) s2 := by
  unfold EvE EvA EvF eNewK
  constructor
  · rintro ⟨d, s, e, q⟩
    split at e
    · rename_i xs s1 h
      split at e
      · rename_i hl
        split at e
        · rename_i s2 h2
          cases e
          exact ⟨xs, s1, h, hl, _, _, h2, rfl, q⟩
        · cases e
      · cases e
    · cases e
  · rintro ⟨xs, s1, h, hl, _, s2, h2, rfl, q⟩
    exact ⟨_, s2, by rw [h]; simp only [if_pos hl, h2], q⟩
end
end My

namespace My
open PySem PySem.Spec PyProof.Rows L2

section
open Sem (wp)
variable {prog : Program} {w : World} {A : Around} {E : Value → Shared → Prop} {s : Shared}
end

def numbered (xs : List D) : List D := xs.mapIdx fun i x => .tup [.int (i : Nat), x]
def zipped (xs ys : List D) : List D := List.zipWith (fun x y => D.tup [x, y]) xs ys
def tupB : D → Bool
  | .tup _ => true
  | .tpf _ => true
  | _ => false
def walked (st : Store) : D → Option (List D × (Store → Prop))
  | .tup xs => some (xs, always)
  | .tpf xs => some (xs, always)
  | .lst xs => some (xs, always)
  | .ref i => match st[i]? with
    | some (.lst xs) => some (xs, fun s => s[i]? = some (.lst xs))
    | _ => none
  | _ => none
def iEnum (m : EM) : IM := fun env st => match m env st with
  | some (d, s1) => match walked s1 d with
    | some (xs, gd) => some (numbered xs, gd, s1)
    | none => none
  | none => none
def iZip (m m2 : EM) : IM := fun env st => match m env st with
  | some (d, s1) => match m2 env s1 with
    | some (e, s2) => match walked s2 d, walked s2 e with
      | some (xs, gd), some (ys, gd2) => if (tupB d) = (tupB e) then some (zipped xs ys, fun s => gd s ∧ gd2 s, s2) else none
      | _, _ => none
    | none => none
  | none => none
section
variable {W : Wd}
theorem walked_ok {ι0 : Lay} {H0 : Hp} {st : Store} {d : D} {v : V} {xs : List D} {gd : Store → Prop} (r : RelH W ι0 H0 st) (h : Rep W ι0 H0 d v) (e : walked st d = some (xs, gd)) :
    ∃ a, v = .ref a ∧ gd st ∧ (((tupB d) = true ∧ ∀ ι H s, Gro ι0 H0 ι H → RelH W ι H s → gd s → ∃ vs, SqT W.K H a vs ∧ Reps W ι H xs vs) ∨ ((tupB d) = false ∧ ∀ ι H s, Gro ι0 H0 ι H → RelH W ι H s → gd s → ∃ vs, SqL W.K H a vs ∧ Reps W ι H xs vs)) := by
  unfold walked at e
  split at e
  · cases e
    obtain ⟨a, vs, rfl, h1, h2⟩ := seqT_ok h (xs := xs) rfl
    exact ⟨a, rfl, trivial, .inl ⟨rfl, fun ι H s g _ _ => ⟨vs, SqT.of (g.keep _ _ (.inr fun z => z) h1), Reps.gro g _ _ h2⟩⟩⟩
  · cases e
    obtain ⟨a, o, vs, rfl, _, h0, h1, h2⟩ := tpf_ok h
    exact ⟨a, rfl, trivial, .inl ⟨rfl, fun ι H s g _ _ => ⟨vs, .inl (.inr ⟨o, g.keep _ _ (.inr fun z => z) h0⟩), Reps.gro g _ _ h2⟩⟩⟩
  · cases e
    simp only [Rep] at h
    obtain ⟨a, rfl, na, vs, h1, h2⟩ := h
    exact ⟨a, rfl, trivial, .inr ⟨rfl, fun ι H s g _ _ => ⟨vs, SqL.of (g.keep _ _ (.inl na) h1), Reps.gro g _ _ h2⟩⟩⟩
  · rename_i i
    split at e
    · rename_i q
      cases e
      simp only [Rep] at h
      obtain ⟨a, rfl, h1⟩ := h
      refine ⟨a, rfl, q, .inr ⟨rfl, fun ι H s g r2 gs => ?_⟩⟩
      obtain ⟨c, hc, ok⟩ := r2.at (g.pre _ _ h1)
      rw [gs] at hc
      cases hc
      obtain ⟨vs, h4, h5⟩ := ok
      exact ⟨vs, SqL.of h4, h5⟩
    · cases e
  · cases e
theorem pair_laid {ι : Lay} {H : Hp} {st : Store} {p : Addr} {d e : D} {v u : V} (r : RelH W ι H st) (h1 : Rep W ι H d v) (h2 : Rep W ι H e u) (hp : H p = none) : Grow ι H ι (upd H p (.tup [v, u])) ∧ RelH W ι (upd H p (.tup [v, u])) st ∧ Rep W ι (upd H p (.tup [v, u])) (.tup [d, e]) (.ref p) := by
  refine ⟨Grow.laid hp, r.laid hp, ?_⟩
  simp only [Rep]
  exact ⟨p, rfl, _, upd_same, Reps.grow (Grow.laid hp) _ _ (Reps.cons h1 (Reps.cons h2 Reps.nil))⟩
theorem zipped_get {xs ys : List D} {i : Nat} {d : D} (h : (zipped xs ys)[i]? = some d) : ∃ x y, xs[i]? = some x ∧ ys[i]? = some y ∧ d = .tup [x, y] := by
  unfold zipped at h
  rw [List.getElem?_zipWith] at h
  cases e1 : xs[i]? with
  | none => rw [e1] at h; cases h
  | some x =>
    cases e2 : ys[i]? with
    | none => rw [e1, e2] at h; cases h
    | some y =>
      rw [e1, e2] at h
      cases h
      exact ⟨x, y, rfl, rfl, rfl⟩
theorem itOk_zipT {a b : Addr} {ι0 : Lay} {H0 : Hp} {xs ys : List D} {gd g2 : Store → Prop} (h : ∀ ι H st, Gro ι0 H0 ι H → RelH W ι H st → gd st → ∃ vs, SqT W.K H a vs ∧ Reps W ι H xs vs) (k : ∀ ι H st, Gro ι0 H0 ι H → RelH W ι H st → g2 st → ∃ vs, SqT W.K H b vs ∧ Reps W ι H ys vs) : ItOk W (RZ.ItzT W.K a b) ι0 H0 (zipped xs ys) (fun s => gd s ∧ g2 s) where
  go := fun i ι H st d g r q e => by
    obtain ⟨vs, h1, h2⟩ := h ι H st g r q.1
    obtain ⟨us, k1, k2⟩ := k ι H st g r q.2
    obtain ⟨x, y, e1, e2, rfl⟩ := zipped_get e
    obtain ⟨v, h3, h4⟩ := h2.get e1
    obtain ⟨u, k3, k4⟩ := k2.get e2
    refine ⟨⟨vs, us, v, u, h1, k1, h3, k3⟩, fun z H' ⟨p, v', u', q1, q2, q3, q4, q5⟩ => ?_⟩
    subst q1 q3
    have z1 := q4 _ h1
    have z2 := q5 _ k1
    rw [h3] at z1
    rw [k3] at z2
    cases z1
    cases z2
    exact pair_laid r h4 k4 q2
  stop := fun ι H st g r q => by
    obtain ⟨vs, h1, h2⟩ := h ι H st g r q.1
    obtain ⟨us, k1, k2⟩ := k ι H st g r q.2
    refine ⟨vs, us, h1, k1, ?_⟩
    rw [← h2.length, ← k2.length]
    simp only [zipped, List.length_zipWith]
    omega
theorem itOk_zipL {a b : Addr} {ι0 : Lay} {H0 : Hp} {xs ys : List D} {gd g2 : Store → Prop} (h : ∀ ι H st, Gro ι0 H0 ι H → RelH W ι H st → gd st → ∃ vs, SqL W.K H a vs ∧ Reps W ι H xs vs) (k : ∀ ι H st, Gro ι0 H0 ι H → RelH W ι H st → g2 st → ∃ vs, SqL W.K H b vs ∧ Reps W ι H ys vs) : ItOk W (Itz W.K a b) ι0 H0 (zipped xs ys) (fun s => gd s ∧ g2 s) where
  go := fun i ι H st d g r q e => by
    obtain ⟨vs, h1, h2⟩ := h ι H st g r q.1
    obtain ⟨us, k1, k2⟩ := k ι H st g r q.2
    obtain ⟨x, y, e1, e2, rfl⟩ := zipped_get e
    obtain ⟨v, h3, h4⟩ := h2.get e1
    obtain ⟨u, k3, k4⟩ := k2.get e2
    refine ⟨⟨vs, us, v, u, h1, k1, h3, k3⟩, fun z H' ⟨p, v', u', q1, q2, q3, q4, q5⟩ => ?_⟩
    subst q1 q3
    have z1 := q4 _ h1
    have z2 := q5 _ k1
    rw [h3] at z1
    rw [k3] at z2
    cases z1
    cases z2
    exact pair_laid r h4 k4 q2
  stop := fun ι H st g r q => by
    obtain ⟨vs, h1, h2⟩ := h ι H st g r q.1
    obtain ⟨us, k1, k2⟩ := k ι H st g r q.2
    refine ⟨vs, us, h1, k1, ?_⟩
    rw [← h2.length, ← k2.length]
    simp only [zipped, List.length_zipWith]
    omega
variable {X : Cx} {e e2 : Expr} {p pos tpos : Pos} {elts : List Expr} {kk : Nat} {m m2 : EM}
theorem ji_zip (hK : X.K = W.K) (hg : Gl X "zip") (hm : X.mg "zip" = none) (ha : PE X e (T W m)) (hb : PE X e2 (T W m2))
    (hs : starEach [e, e2] X.env = (false, eval e X.env) :: starEach [e2] X.env := by rfl) (hs2 : starEach [e2] X.env = [(false, eval e2 X.env)] := by rfl) (hpl : (backTo pos (starEach [e2] X.env)).any (·.1) = false := by rfl) :
    PI X (.Tuple elts kk tpos) (.Call (.Name "zip" p) [e, e2] [] pos) (TIm W (iZip m m2)) := by
  refine ⟨fun pins s σ H R I ⟨ι, st, env, ds, gd, st', r, n, q, k⟩ => ?_⟩
  unfold iZip at q
  split at q
  · rename_i d s1 e1
    split at q
    · rename_i d2 s2 e2
      split at q
      · rename_i xs gd1 ys gd2 w1 w2
        split at q
        · rename_i hT
          cases q
          refine (RZ.pi_zipA hg hm (ja_cons ha (ja_cons hb ja_nil hs2) hs) hs hpl).run pins s σ H R I (TA.of r n (d := [d, d2]) (st' := st') (by unfold aCons; rw [e1]; dsimp only; rw [e2]; rfl) fun vs ι1 H1 g1 r1 p1 => ?_)
          obtain ⟨v, u, rfl, hv, hu⟩ := reps2 p1
          obtain ⟨a, rfl, g0, q1⟩ := walked_ok r1 hv w1
          obtain ⟨b, rfl, g02, q2⟩ := walked_ok r1 hu w2
          rw [hK]
          rcases q1 with ⟨z1, q1⟩ | ⟨z1, q1⟩
          · rcases q2 with ⟨z2, q2⟩ | ⟨z2, q2⟩
            · obtain ⟨vs, y1, _⟩ := q1 ι1 H1 st' Grow.refl.gro r1 g0
              obtain ⟨us, y2, _⟩ := q2 ι1 H1 st' Grow.refl.gro r1 g02
              exact ⟨a, b, vs, us, rfl, .inr ⟨y1, y2, k _ ι1 H1 g1 r1 (itOk_zipT q1 q2)⟩⟩
            · rw [z1, z2] at hT; cases hT
          · rcases q2 with ⟨z2, q2⟩ | ⟨z2, q2⟩
            · rw [z1, z2] at hT; cases hT
            · obtain ⟨vs, y1, _⟩ := q1 ι1 H1 st' Grow.refl.gro r1 g0
              obtain ⟨us, y2, _⟩ := q2 ι1 H1 st' Grow.refl.gro r1 g02
              exact ⟨a, b, vs, us, rfl, .inl ⟨y1, y2, k _ ι1 H1 g1 r1 (itOk_zipL q1 q2)⟩⟩
        · cases q
      · cases q
    · cases q
  · cases q
end
section
variable {env : Env} {st : Store} {QI : List D → (Store → Prop) → Store → Prop}
theorem ev_enum {m : EM} : EvI (iEnum m) env st QI ↔ EvE m env st fun d s1 => ∃ xs gd, walked s1 d = some (xs, gd) ∧ QI (numbered xs) gd s1 := by
  unfold EvI EvE iEnum
  constructor
  · rintro ⟨ds, gd, s, e, q⟩
    split at e
    · rename_i d s1 h
      split at e
      · rename_i xs gd' h2
        cases e
        exact ⟨_, _, h, xs, _, h2, q⟩
      · cases e
    · cases e
  · rintro ⟨d, s1, h, xs, gd, h2, q⟩
    exact ⟨_, _, s1, by rw [h]; simp only [h2], q⟩
theorem ev_zip {m m2 : EM} : EvI (iZip m m2) env st QI ↔ EvE m env st fun d s1 => EvE m2 env s1 fun e s2 => ∃ xs gd ys gd2, walked s2 d = some (xs, gd) ∧ walked s2 e = some (ys, gd2) ∧ (tupB d) = (tupB e) ∧ QI (zipped xs ys) (fun s => gd s ∧ gd2 s) s2 := by
  unfold EvI EvE iZip
  constructor
  · rintro ⟨ds, gd, s, e, q⟩
    split at e
    · rename_i d s1 h
      split at e
      · rename_i d2 s2 h2
        split at e
        · rename_i xs gd1 ys gd2 w1 w2
          split at e
          · rename_i ht
            cases e
            exact ⟨_, _, h, _, _, h2, xs, _, ys, _, w1, w2, ht, q⟩
          · cases e
        · cases e
      · cases e
    · cases e
  · rintro ⟨d, s1, h, e, s2, h2, xs, gd, ys, gd2, w1, w2, ht, q⟩
    exact ⟨_, _, s2, by rw [h]; simp only [h2, w1, w2, if_pos ht], q⟩
end
end My

namespace My
open PySem PySem.Spec PyProof.Rows L2
section
variable {P : Program} {w : World} {K : PySem.W.Frag} {mg : Str → Option Value} {base : Heap} {k : Nat} {f : Addr} {fd : FuncData} {x : Str} {ps : List Str}
theorem FnG.imp {sp sp' : Sp} (F : FnG P w K mg base k f fd ps sp) (h : ∀ vs H Q, sp' vs H Q E0 → sp vs H Q E0) : FnG P w K mg base k f fd ps sp' :=
  ⟨fun vs H Q q => F.len vs H Q (h _ _ _ q), fun hg hr he hb hv q => F.go hg hr he hb hv (h _ _ _ q)⟩
def spLaw (K : PySem.W.Frag) : Sp := fun vs H Q _ => ∃ (a : Addr) (ns : List Int), vs = [.ref a] ∧ Only H ∧ SqL K H a (ns.map V.int) ∧ ns.length ≤ 63 ∧ ∀ H', Q (.bl true) H'
theorem fz_of {H : Hp} {a : Addr} {xs : List V} (o : Only H) (h : SqL K H a xs) : FzL K H a xs := by
  rcases h with (h | h) | h
  · rcases o a with z | ⟨ob, ys, z⟩
    · rw [h] at z; cases z
    · rw [h] at z; cases z
  · exact .inl h
  · exact .inr h
theorem FnG.law {F : FM} (G : FnG P w K mg base k f fd [x] (spM (wd K mg) [x].length F)) (due : ∀ ns : List Int, ns.length ≤ 63 → EvF F [.scr ns] [] fun d _ => d = .bl true) : FnG P w K mg base k f fd [x] (spLaw K) := by
  refine G.imp fun vs H Q ⟨a, ns, e, ho, hs, hl, q⟩ => ?_
  subst e
  obtain ⟨d, st', e, rfl⟩ := due ns hl
  refine ⟨⟨[], []⟩, [], [.scr ns], .bl true, st', ⟨rfl, .nil, nofun, nofun, nofun⟩, Reps.cons ?_ Reps.nil, rfl, e, ?_⟩
  · simp only [Rep]
    exact ⟨a, rfl, fz_of ho hs⟩
  · intro v ι' H' _ _ p
    simp only [Rep] at p
    subst p
    exact q H'
end
section
variable {P : Program} {w : World} {K : PySem.W.Frag} {mg : Str → Option Value} {base : Heap} {W : Wd}
end
end My

namespace My
open PySem PySem.Spec PyProof.Rows L2

section
variable {prog : Program} {w : World} {A : Around} {R : Result → Shared → Prop} {I : Addr} {fp wr : List Addr} {n : Nat} {P : Nat → Value → Prop} {St : Nat → Heap → Prop}
end
end My

namespace My
open PySem PySem.Spec PyProof.Rows L2

section
variable {prog : Program} {w : World} {A : Around} {E : Value → Shared → Prop} {s : Shared} {l : Addr}
end
abbrev FK := List D → List D → Store → Option (D × Store)
def eCallK (F : FK) (a b : AM) : EM := fun env st => match a env st with
  | some (xs, s1) => match b env s1 with
    | some (zs, s2) => F xs zs s2
    | none => none
  | none => none
section
variable {X : Cx} {W : Wd} {x : Str} {p pos : Pos} {e o : Expr} {es : List Expr} {kws : List Keyword} {id : String} {ks : List Str} {F : FK} {am km : AM}
end
section
variable {env : Env} {st : Store} {Q : D → Store → Prop}
theorem ev_callK {F : FK} {a b : AM} : EvE (eCallK F a b) env st Q ↔ EvA a env st fun xs s1 => EvA b env s1 fun zs s2 => EvF (fun _ s => F xs zs s) [] s2 Q := by
  unfold EvE EvA EvF eCallK
  constructor
  · rintro ⟨d, s, e, q⟩
    split at e
    · rename_i xs s1 h
      split at e
      · rename_i zs s2 h2
        exact ⟨xs, s1, h, zs, s2, h2, d, s, e, q⟩
      · cases e
    · cases e
  · rintro ⟨xs, s1, h, zs, s2, h2, d, s, e, q⟩
    exact ⟨d, s, by rw [h]; simp only [h2]; exact e, q⟩
end

abbrev FL := D → D → Store → Option (List D)
def eOpM (f : FL) (a b : EM) : EM := fun env st => match a env st with
  | some (x, s1) => match b env s1 with
    | some (y, s2) => (f x y s2).map fun ys => (.ref s2.length, s2 ++ [.lst ys])
    | none => none
  | none => none
open Classical in
noncomputable def eLcM (im : IM) (g : GM) (tt : TM) (el : EM) (vs : List Nat) : EM := fun env st => match im env st with
  | some (ds, gd, s1) => match lcGo gd g tt el (wipeE env vs) ds s1 with
    | some (ys, s2) => if ys.length ≤ sizeLine then some (.ref s2.length, s2 ++ [.lst ys]) else none
    | none => none
  | none => none
section
variable {X : Cx} {W : Wd} {a b : Expr} {pos : Pos} {ma mb : EM} {f : FL}
end
section
variable {env : Env} {st : Store} {Q : D → Store → Prop}
theorem ev_opM {f : FL} {a b : EM} : EvE (eOpM f a b) env st Q ↔ EvE a env st fun x s1 => EvE b env s1 fun y s2 => ∃ z, f x y s2 = some z ∧ Q (.ref s2.length) (s2 ++ [.lst z]) := by
  unfold EvE eOpM
  constructor
  · rintro ⟨d, s, e, q⟩
    split at e
    · rename_i x s1 h
      split at e
      · rename_i y s2 h2
        rw [Option.map_eq_some_iff] at e
        obtain ⟨z, e1, e2⟩ := e
        cases e2
        exact ⟨x, s1, h, y, _, h2, _, e1, q⟩
      · cases e
    · cases e
  · rintro ⟨x, s1, h, y, s2, h2, z, e, q⟩
    exact ⟨_, _, by rw [h]; simp only [h2, e, Option.map_some], q⟩
theorem ev_lcM {im : IM} {g : GM} {tt : TM} {el : EM} {vs : List Nat} : EvE (eLcM im g tt el vs) env st Q ↔ EvI im env st fun ds gd s1 => EvL (lcGo gd g tt el (wipeE env vs) ds s1) fun ys s2 => ys.length ≤ sizeLine ∧ Q (.ref s2.length) (s2 ++ [.lst ys]) := by
  unfold EvE EvI EvL eLcM
  constructor
  · rintro ⟨d, s, e, q⟩
    split at e
    · rename_i ds gd s1 h
      split at e
      · rename_i ys s2 h2
        split at e
        · rename_i hz
          cases e
          exact ⟨_, _, _, h, ys, _, h2, hz, q⟩
        · cases e
      · cases e
    · cases e
  · rintro ⟨ds, gd, s1, h, ys, s2, h2, hz, q⟩
    exact ⟨_, _, by rw [h]; simp only [h2, if_pos hz], q⟩
end
section
variable {W : Wd} {ι : Lay} {H : Hp}
end
section
variable {X : Cx} {W : Wd} 
end
theorem sz0 : (0 ≤ sizeLine) = True := eq_true (by decide)
theorem sz1 : (1 ≤ sizeLine) = True := eq_true (by decide)
theorem sz2 : (2 ≤ sizeLine) = True := eq_true (by decide)
theorem sz3 : (3 ≤ sizeLine) = True := eq_true (by decide)
theorem sz4 : (4 ≤ sizeLine) = True := eq_true (by decide)
theorem sz5 : (5 ≤ sizeLine) = True := eq_true (by decide)
theorem sz6 : (6 ≤ sizeLine) = True := eq_true (by decide)
theorem sz7 : (7 ≤ sizeLine) = True := eq_true (by decide)
theorem sz8 : (8 ≤ sizeLine) = True := eq_true (by decide)
theorem sz9 : (9 ≤ sizeLine) = True := eq_true (by decide)
theorem sz10 : (10 ≤ sizeLine) = True := eq_true (by decide)
theorem sz11 : (11 ≤ sizeLine) = True := eq_true (by decide)
theorem sz12 : (12 ≤ sizeLine) = True := eq_true (by decide)
theorem s_rl : (("rotate" : Str) = "look") = False := eq_false (by decide)
theorem s_lr : (("look" : Str) = "rotate") = False := eq_false (by decide)
end My

namespace My
open PySem PySem.Spec PyProof.Rows L2
section
variable {X : Cx} {W : Wd}
end
section
variable {X : Cx} {W : Wd}
end
theorem lc_mapM {α : Type} {gd : Store → Prop} {g : GM} {tt : TM} {el : EM} {env : Env} {st : Store} {xs : List α} {g0 : α → D} {QL : List D → Store → Prop} (p : α → Bool) (f : α → D) (hg : gd st)
    (step : ∀ x ∈ xs, ∃ e1, g (g0 x) env = some e1 ∧ EvB tt e1 st fun b s1 => s1 = st ∧ b = p x ∧ (b = true → EvE el e1 st fun y s2 => s2 = st ∧ y = f x)) (done : QL ((xs.filter p).map f) st) : EvL (lcGo gd g tt el env (xs.map g0) st) QL := by
  refine lc_inv (fun i ys s => s = st ∧ ys = ((xs.take i).filter p).map f) ⟨rfl, by simp⟩ (fun i ys s _ h => h.1 ▸ hg) (fun i hi ys s ⟨h1, h2⟩ => ?_) (fun ys s ⟨h1, h2⟩ => ?_)
  · subst h1
    have hi2 : i < xs.length := by rwa [List.length_map] at hi
    rw [List.getElem_map]
    obtain ⟨e1, h3, b, s1, h4, rfl, h5, h6⟩ := step xs[i] (List.getElem_mem hi2)
    refine ⟨e1, h3, b, s1, h4, ?_⟩
    have tk : xs.take (i + 1) = xs.take i ++ [xs[i]] := by rw [List.take_add_one, List.getElem?_eq_getElem hi2]; rfl
    cases b with
    | true =>
      refine (if_pos rfl).mpr ?_
      refine EvE.mono (h6 rfl) fun y s2 ⟨q1, q2⟩ => ⟨q1, ?_⟩
      rw [tk, List.filter_append, List.map_append, h2, q2]
      simp [h5.symm]
    | false =>
      refine (if_neg Bool.false_ne_true).mpr ⟨rfl, ?_⟩
      rw [tk, List.filter_append, List.map_append, h2]
      simp [h5.symm]
  · rw [List.length_map, List.take_length] at h2
    rw [h1, h2]
    exact done
end My

namespace My
open PySem PySem.Spec PyProof.Rows L2
abbrev WM := Env → Store → Option (Bool × Env × Store)
def TBw (W : Wd) (m : WM) : TTw := fun σ H Q => ∃ ι st env b env' st', RelH W ι H st ∧ REnv W ι H env σ ∧ m env st = some (b, env', st') ∧ ∀ σ' ι' H', Grow ι H ι' H' → RelH W ι' H' st' → REnv W ι' H' env' σ' → Q b σ' H'
def wNamed (i : Nat) (f : D → D → Store → Option D) (me mo : EM) : WM := fun env st => match me env st with
  | some (v, s1) => match mo (env.set i (some v)) s1 with
    | some (u, s2) => match f v u s2 with
      | some (.bl b) => some (b, env.set i (some v), s2)
      | _ => none
    | none => none
  | none => none
def sIfW (c : WM) (a b : SM) : SM := fun env st => match c env st with
  | some (true, e1, s1) => a e1 s1
  | some (false, e1, s1) => b e1 s1
  | none => none
section
variable {X : Cx} {W : Wd} {pos : Pos} {me mo : EM} {f : D → D → Store → Option D}
theorem TBw.of {m : WM} {ι : Lay} {H : Hp} {st st' : Store} {env env' : Env} {σ : L2.St} {b : Bool} {Q : Bool → L2.St → Hp → Prop} (r : RelH W ι H st) (n : REnv W ι H env σ) (e : m env st = some (b, env', st')) (k : ∀ σ' ι' H', Grow ι H ι' H' → RelH W ι' H' st' → REnv W ι' H' env' σ' → Q b σ' H') : TBw W m σ H Q :=
  ⟨ι, st, env, b, env', st', r, n, e, k⟩
theorem jw_cmp {i : Nat} {x : Str} {e o : Expr} {p p2 : Pos} {op : CmpOp} (hN : X.N.Nodup) (hi : X.N[i]? = some x) (hx : Loc X.env.scope x) (ho : OpR X (compareOp op) (M2 W f)) (he : PE X e (T W me)) (hb : PE X o (T W mo)) (hm : behindInMarks op o = false)
    (hf : X.fn x = true ∨ X.env.scope.names.lookup x = some .local := by first | exact .inl rfl | exact .inr rfl | assumption) :
    PTw X (.Compare (.NamedExpr (.Name x p) e p2) [op] [o] pos) (TBw W (wNamed i f me mo)) := ⟨fun pins s σ H Q I ⟨ι, st, env, b, env', st', r, n, e, k⟩ => by
  refine (ptw_cmp ho (pew_named hN hi hx (pew_of he) hf) hb hm).run pins s σ H Q I ?_
  unfold wNamed at e
  split at e
  · rename_i v s1 e1
    split at e
    · rename_i u s2 e2
      split at e
      · rename_i e3
        cases e
        exact T.of r n e1 fun v' ι1 H1 g1 r1 p1 => T.of r1 ((n.grow g1).set i p1) e2 fun u' ι2 H2 g2 r2 p2 => ⟨ι2, st', v, u, .bl b, r2, Rep.grow g2 _ _ p1, p2, e3, fun w ι3 H3 g3 r3 p3 =>
          ⟨b, by simpa only [Rep] using p3, k _ _ _ ((g1.trans g2).trans g3) r3 ((((n.grow g1).set i p1).grow g2).grow g3)⟩⟩
      · cases e
    · cases e
  · cases e⟩
theorem js_ifW {c : Expr} {ss1 ss2 : List Stmt} {tc : WM} {a b : SM} (hc : PTw X c (TBw W tc)) (ha : PSs X ss1 (TSt W a)) (hb : PSs X ss2 (TSt W b)) : PS X (.If c ss1 ss2 pos) (TSt W (sIfW tc a b)) := (ps_ifW hc ha hb).imp fun D σ H ⟨ι, st, env, o, st', r, n, e, k⟩ => by
  unfold sIfW at e
  split at e
  · rename_i e1 s1 q
    exact TBw.of r n q fun σ' ι1 H1 g1 r1 n1 => (if_pos rfl).mpr (TSt.of r1 n1 e (OkS.go k g1))
  · rename_i e1 s1 q
    exact TBw.of r n q fun σ' ι1 H1 g1 r1 n1 => (if_neg Bool.false_ne_true).mpr (TSt.of r1 n1 e (OkS.go k g1))
  · cases e
end
def EvW2 (c : WM) (env : Env) (st : Store) (Q : Bool → Env → Store → Prop) : Prop := ∃ b e s, c env st = some (b, e, s) ∧ Q b e s
section
variable {env : Env} {st : Store} {QS : Out → Store → Prop} {QW : Bool → Env → Store → Prop}
theorem ev_named {i : Nat} {f : D → D → Store → Option D} {me mo : EM} : EvW2 (wNamed i f me mo) env st QW ↔ EvE me env st fun v s1 => EvE mo (env.set i (some v)) s1 fun u s2 => ∃ b, f v u s2 = some (.bl b) ∧ QW b (env.set i (some v)) s2 := by
  unfold EvW2 EvE wNamed
  constructor
  · rintro ⟨b, e1, s, e, q⟩
    split at e
    · rename_i v s1 h
      split at e
      · rename_i u s2 h2
        split at e
        · rename_i b' h3
          cases e
          exact ⟨_, _, h, _, _, h2, _, h3, q⟩
        · cases e
      · cases e
    · cases e
  · rintro ⟨v, s1, h, u, s2, h2, b, h3, q⟩
    exact ⟨b, _, s2, by rw [h]; simp only [h2, h3], q⟩
theorem ev_ifW {c : WM} {a b : SM} : EvS (sIfW c a b) env st QS ↔ EvW2 c env st fun k e s => if k = true then EvS a e s QS else EvS b e s QS := by
  unfold EvW2 EvS sIfW
  constructor
  · rintro ⟨o, s, e, q⟩
    split at e
    · rename_i e1 s1 h
      exact ⟨true, e1, s1, h, (if_pos rfl).mpr ⟨o, s, e, q⟩⟩
    · rename_i e1 s1 h
      exact ⟨false, e1, s1, h, (if_neg Bool.false_ne_true).mpr ⟨o, s, e, q⟩⟩
    · cases e
  · rintro ⟨k, e1, s1, h, q⟩
    cases k with
    | true => obtain ⟨o, s, e, q⟩ := (if_pos rfl).mp q; exact ⟨o, s, by rw [h]; exact e, q⟩
    | false => obtain ⟨o, s, e, q⟩ := (if_neg Bool.false_ne_true).mp q; exact ⟨o, s, by rw [h]; exact e, q⟩
end
end My

namespace My
open PySem PySem.Spec PyProof.Rows L2
open Classical in
noncomputable def eLz (ma mb : EM) : EM := fun env st => match ma env st with
  | some (x, s1) => match mb env s1 with
    | some (y, s2) => match seqT x, seqT y with
      | some xs, some ys => if (zipped xs ys).length ≤ sizeLine then some (.lst (zipped xs ys), s2) else none
      | _, _ => none
    | none => none
  | none => none
open Classical in
noncomputable def dcGo (gd : Store → Prop) (g : GM) (tk tv : EM) (env : Env) : List D → List (List Key) → List D → Store → Option (List (List Key) × List D × Store)
  | [], ks, vs, st => if gd st then some (ks, vs, st) else none
  | d :: ds, ks, vs, st => if gd st then match g d env with
      | some e2 => match tk e2 st with
        | some (k, s1) => match tv e2 s1 with
          | some (v, s2) => match tkeyOf k with
            | some kk => if ks.length < sizeLine then dcGo gd g tk tv env ds (kPutK ks kk) (kPutV ks vs kk v) s2 else none
            | none => none
          | none => none
        | none => none
      | none => none
    else none
noncomputable def eDcT (im : IM) (g : GM) (tk tv : EM) (vs : List Nat) : EM := fun env st => match im env st with
  | some (ds, gd, s1) => match dcGo gd g tk tv (wipeE env vs) ds [] [] s1 with
    | some (ks, ws, s2) => some (.dt ks ws, s2)
    | none => none
  | none => none
section
variable {env : Env} {st : Store} {Q : D → Store → Prop}
theorem ev_lz {ma mb : EM} : EvE (eLz ma mb) env st Q ↔ EvE ma env st fun x s1 => EvE mb env s1 fun y s2 => ∃ xs ys, seqT x = some xs ∧ seqT y = some ys ∧ (zipped xs ys).length ≤ sizeLine ∧ Q (.lst (zipped xs ys)) s2 := by
  unfold EvE eLz
  constructor
  · rintro ⟨d, s, e, q⟩
    split at e
    · rename_i x s1 h
      split at e
      · rename_i y s2 h2
        split at e
        · rename_i xs ys h3 h4
          split at e
          · rename_i hz
            cases e
            exact ⟨x, s1, h, y, _, h2, xs, ys, h3, h4, hz, q⟩
          · cases e
        · cases e
      · cases e
    · cases e
  · rintro ⟨x, s1, h, y, s2, h2, xs, ys, h3, h4, hz, q⟩
    exact ⟨_, s2, by rw [h]; simp only [h2, h3, h4, if_pos hz], q⟩
def EvD (r : Option (List (List Key) × List D × Store)) (Q : List (List Key) → List D → Store → Prop) : Prop := ∃ ks vs s, r = some (ks, vs, s) ∧ Q ks vs s
theorem ev_dcT {im : IM} {g : GM} {tk tv : EM} {vs : List Nat} : EvE (eDcT im g tk tv vs) env st Q ↔ EvI im env st fun ds gd s1 => EvD (dcGo gd g tk tv (wipeE env vs) ds [] [] s1) fun ks ws s2 => Q (.dt ks ws) s2 := by
  unfold EvE EvI EvD eDcT
  constructor
  · rintro ⟨d, s, e, q⟩
    split at e
    · rename_i ds gd s1 h
      split at e
      · rename_i ks ws s2 h2
        cases e
        exact ⟨_, _, _, h, ks, ws, _, h2, q⟩
      · cases e
    · cases e
  · rintro ⟨ds, gd, s1, h, ks, ws, s2, h2, q⟩
    exact ⟨_, s2, by rw [h]; simp only [h2], q⟩
end
end My

namespace My
open PySem PySem.Spec PyProof.Rows L2
section
variable {prog : Program} {w : World} {A : Around} {E : Value → Shared → Prop} {s : Shared}
end
section
variable {prog : Program} {w : World} {A : Around} {s : Shared} {R : Result → Shared → Prop}
end
end My

namespace My
open PySem PySem.Spec PyProof.Rows L2
section
variable {prog : Program} {w : World} {A : Around} {s : Shared} {R : Result → Shared → Prop}
end
section
variable {prog : Program} {w : World} {A : Around} {E : Value → Shared → Prop} {s : Shared}
end
end My

namespace My
open PySem PySem.Spec PyProof.Rows L2
end My

namespace My
open PySem PySem.Spec PyProof.Rows L2
section
variable {X : Cx} {W : Wd} {e e2 : Expr} {p p2 pos pos2 : Pos} {ma mb : EM}
end
end My

namespace My
open PySem PySem.Spec PyProof.Rows L2
abbrev St := L2.St
section
variable {X : Cx}
end
section
variable {X : Cx} {W : Wd}
end
end My

namespace My
open PySem PySem.Spec PyProof.Rows L2
section
variable {κ : Type} [DecidableEq κ]
end
theorem KT.all {P : Program} {w : World} {H : Hp} {h : Heap} (ok : HOk P w H h) : ∀ {l : List (List Key × V)} {m : List (List Key × Addr × Value)}, KT H l m → ∀ x ∈ m, (tupleKind (mixKind P w)).is h x.1 x.2.1 ∧ H x.2.1 = some (.tup (x.1.map kV))
  | [], _, .nil, x, hx => by simp at hx
  | _ :: _, _, .cons (a := p) (b := q) e t, x, hx => by
    obtain ⟨e1, e2, e3⟩ := e
    rcases List.mem_cons.mp hx with z | z
    · subst z
      rw [e1] at e2
      exact ⟨key_of ok e2, e2⟩
    · exact KT.all ok t x z
section
variable {X : Cx} {W : Wd}
end
end My

namespace My
open PySem PySem.Spec PyProof.Rows L2
def RgW (a b : Int) : Prop := -(2 ^ 62) ≤ a ∧ a < 2 ^ 62 ∧ -(2 ^ 62) ≤ b ∧ b < 2 ^ 62 ∧ (b - a).toNat ≤ 2 ^ 24
open Classical in
noncomputable def eLrg1 (m : EM) : EM := fun env st => match m env st with
  | some (.int j, s1) => if RgW 0 j then some (.lst (intsTo 0 j.toNat), s1) else none
  | _ => none
open Classical in
noncomputable def eLrg2 (m m2 : EM) : EM := fun env st => match m env st with
  | some (.int i, s1) => match m2 env s1 with
    | some (.int j, s2) => if RgW i j then some (.lst (intsTo i (j - i).toNat), s2) else none
    | _ => none
  | _ => none
open Classical in
noncomputable def eTrg1 (m : EM) : EM := fun env st => match m env st with
  | some (.int j, s1) => if RgW 0 j then some (.tup (intsTo 0 j.toNat), s1) else none
  | _ => none
open Classical in
noncomputable def eTrg2 (m m2 : EM) : EM := fun env st => match m env st with
  | some (.int i, s1) => match m2 env s1 with
    | some (.int j, s2) => if RgW i j then some (.tup (intsTo i (j - i).toNat), s2) else none
    | _ => none
  | _ => none
section
variable {X : Cx} {W : Wd} {e e2 : Expr} {p p2 pos pos2 : Pos} {m m2 : EM}
end
section
variable {env : Env} {st : Store} {Q : D → Store → Prop} {m m2 : EM}
theorem ev_lrg1 : EvE (eLrg1 m) env st Q ↔ EvE m env st fun d s1 => ∃ j, d = .int j ∧ RgW 0 j ∧ Q (.lst (intsTo 0 j.toNat)) s1 := by
  unfold EvE eLrg1
  constructor
  · rintro ⟨d, s, e, q⟩
    split at e
    · rename_i j s1 h
      split at e
      · rename_i hz
        cases e
        exact ⟨_, _, h, j, rfl, hz, q⟩
      · cases e
    · cases e
  · rintro ⟨d, s, h, j, rfl, hz, q⟩
    exact ⟨_, s, by rw [h]; simp only [if_pos hz], q⟩
theorem ev_lrg2 : EvE (eLrg2 m m2) env st Q ↔ EvE m env st fun d s1 => EvE m2 env s1 fun d2 s2 => ∃ i j, d = .int i ∧ d2 = .int j ∧ RgW i j ∧ Q (.lst (intsTo i (j - i).toNat)) s2 := by
  unfold EvE eLrg2
  constructor
  · rintro ⟨d, s, e, q⟩
    split at e
    · rename_i i s1 h
      split at e
      · rename_i j s2 h2
        split at e
        · rename_i hz
          cases e
          exact ⟨_, _, h, _, _, h2, i, j, rfl, rfl, hz, q⟩
        · cases e
      · cases e
    · cases e
  · rintro ⟨d, s, h, d2, s2, h2, i, j, rfl, rfl, hz, q⟩
    exact ⟨_, s2, by rw [h]; simp only [h2, if_pos hz], q⟩
theorem ev_trg1 : EvE (eTrg1 m) env st Q ↔ EvE m env st fun d s1 => ∃ j, d = .int j ∧ RgW 0 j ∧ Q (.tup (intsTo 0 j.toNat)) s1 := by
  unfold EvE eTrg1
  constructor
  · rintro ⟨d, s, e, q⟩
    split at e
    · rename_i j s1 h
      split at e
      · rename_i hz
        cases e
        exact ⟨_, _, h, j, rfl, hz, q⟩
      · cases e
    · cases e
  · rintro ⟨d, s, h, j, rfl, hz, q⟩
    exact ⟨_, s, by rw [h]; simp only [if_pos hz], q⟩
theorem ev_trg2 : EvE (eTrg2 m m2) env st Q ↔ EvE m env st fun d s1 => EvE m2 env s1 fun d2 s2 => ∃ i j, d = .int i ∧ d2 = .int j ∧ RgW i j ∧ Q (.tup (intsTo i (j - i).toNat)) s2 := by
  unfold EvE eTrg2
  constructor
  · rintro ⟨d, s, e, q⟩
    split at e
    · rename_i i s1 h
      split at e
      · rename_i j s2 h2
        split at e
        · rename_i hz
          cases e
          exact ⟨_, _, h, _, _, h2, i, j, rfl, rfl, hz, q⟩
        · cases e
      · cases e
    · cases e
  · rintro ⟨d, s, h, d2, s2, h2, i, j, rfl, rfl, hz, q⟩
    exact ⟨_, s2, by rw [h]; simp only [h2, if_pos hz], q⟩
end
section
variable {κ : Type} [DecidableEq κ]
end
end My

namespace My
open PySem PySem.Spec PyProof.Rows L2
def gA (m p2 : Nat) (x : Nat) (h : Nat) : Nat := (x + h * p2) % m
def gR (m a31 a33 : Nat) (a : Nat) : Nat := (a * a31) % m + a / a33
def gS (m p1 p2 a31 a33 : Nat) (x : Nat) (h : Nat) : Nat := (gR m a31 a33 (gA m p2 x h) * p1) % m
def gF (m a63 : Nat) (x : Nat) : Int := if x == m - 1 then 1546275796 else if x < a63 then x else (x : Int) - m
def hR (a : Nat) : Nat := gR 18446744073709551616 2147483648 8589934592 a
def hS (x : Nat) (h : Nat) : Nat := gS 18446744073709551616 11400714785074694791 14029467366897019727 2147483648 8589934592 x h
def hF (x : Nat) : Int := gF 18446744073709551616 9223372036854775808 x
end My

namespace My
open PySem PySem.Spec PyProof.Rows L2
section
variable {prog : Program} {w : World} {A : Around} {E : Value → Shared → Prop} {s : Shared}
section
variable {prog : Program} {w : World} {A : Around} {E : Value → Shared → Prop} {s : Shared}

end
end
section
variable {W : Wd}
def iZipM (m m2 : EM) : IM := fun env st => match m env st with
  | some (d, s1) => match m2 env s1 with
    | some (e, s2) => match walked s2 d, walked s2 e with
      | some (xs, gd), some (ys, gd2) => if (tupB d) = false ∧ (tupB e) = true then some (zipped xs ys, fun s => gd s ∧ gd2 s, s2) else none
      | _, _ => none
    | none => none
  | none => none
variable {X : Cx} {e e2 : Expr} {p pos tpos : Pos} {elts : List Expr} {kk : Nat} {m m2 : EM}
end
section
variable {env : Env} {st : Store} {QI : List D → (Store → Prop) → Store → Prop}
theorem ev_zipM {m m2 : EM} : EvI (iZipM m m2) env st QI ↔ EvE m env st fun d s1 => EvE m2 env s1 fun e s2 => ∃ xs gd ys gd2, walked s2 d = some (xs, gd) ∧ walked s2 e = some (ys, gd2) ∧ (tupB d) = false ∧ (tupB e) = true ∧ QI (zipped xs ys) (fun s => gd s ∧ gd2 s) s2 := by
  unfold EvI EvE iZipM
  constructor
  · rintro ⟨ds, gd, s, e, q⟩
    split at e
    · rename_i d s1 h
      split at e
      · rename_i d2 s2 h2
        split at e
        · rename_i xs gd1 ys gd2 w1 w2
          split at e
          · rename_i ht
            cases e
            exact ⟨_, _, h, _, _, h2, xs, _, ys, _, w1, w2, ht.1, ht.2, q⟩
          · cases e
        · cases e
      · cases e
    · cases e
  · rintro ⟨d, s1, h, e, s2, h2, xs, gd, ys, gd2, w1, w2, ht, ht2, q⟩
    exact ⟨_, _, s2, by rw [h]; simp only [h2, w1, w2, if_pos (And.intro ht ht2)], q⟩
end
end My

namespace My
open PySem PySem.Spec PyProof.Rows L2
section
variable {X : Cx} {W : Wd} {k ar : Nat} {g : Addr} {fd : FuncData} {ps ks : List Str} {n x f m : Str} {F : FM} {am km : AM} {dvs : List V} {ds : List Value} {dds : List D} {E : XK} {o e fe : Expr} {es : List Expr} {pos p : Pos} {mo : EM} {kws : List Keyword}
noncomputable def eCallO (n : Str) (ar : Nat) (F : FM) (mo : EM) (am : AM) : EM := fun env st => match mo env st with
  | some (x, s1) => match am env s1 with
    | some (xs, s2) => match insA s2 x with
      | some (n', _, _) => if n' = n ∧ xs.length + 1 = ar then F (x :: xs) s2 else none
      | none => none
    | none => none
  | none => none
open Classical in
noncomputable def eNewN (n : Str) (ar j m : Nat) (F : FM) (g : List D → List D → List D) (am km : AM) : EM := fun env st => match am env st with
  | some (xs, s1) => match km env s1 with
    | some (zs, s2) => if xs.length = j ∧ zs.length = m ∧ (g (.ref s2.length :: xs) zs).length = ar then match F (g (.ref s2.length :: xs) zs) (s2 ++ [.ins n [] []]) with
        | some (.non, s3) => fin s2 (.ref s2.length) s3
        | _ => none
      else none
    | none => none
  | none => none
end
section
variable {env : Env} {st : Store} {Q : D → Store → Prop}
theorem ev_callO {n : Str} {ar : Nat} {F : FM} {mo : EM} {am : AM} : EvE (eCallO n ar F mo am) env st Q ↔ EvE mo env st fun x s1 => EvA am env s1 fun xs s2 => ∃ fs vs, insA s2 x = some (n, fs, vs) ∧ xs.length + 1 = ar ∧ EvF F (x :: xs) s2 Q := by
  unfold EvE EvA EvF eCallO
  constructor
  · rintro ⟨d, s, e, q⟩
    split at e
    · rename_i x s1 h
      split at e
      · rename_i xs s2 h2
        split at e
        · rename_i n' fs vs h3
          split at e
          · rename_i hc
            obtain ⟨rfl, hl⟩ := hc
            exact ⟨_, _, h, _, _, h2, fs, vs, h3, hl, _, _, e, q⟩
          · cases e
        · cases e
      · cases e
    · cases e
  · rintro ⟨x, s1, h, xs, s2, h2, fs, vs, h3, hl, d, s, e, q⟩
    exact ⟨d, s, by rw [h]; simp only [h2, h3]; rw [if_pos ⟨trivial, hl⟩]; exact e, q⟩
theorem ev_newN {n : Str} {ar j m : Nat} {F : FM} {g : List D → List D → List D} {am km : AM} : EvE (eNewN n ar j m F g am km) env st Q ↔ EvA am env st fun xs s1 => EvA km env s1 fun zs s2 => (xs.length = j ∧ zs.length = m ∧ (g (.ref s2.length :: xs) zs).length = ar) ∧ EvF F (g (.ref s2.length :: xs) zs) (s2 ++ [.ins n [] []]) fun d s3 => d = .non ∧ EvF (fun _ s => fin s2 (.ref s2.length) s) [] s3 Q := by
  unfold EvE EvA EvF eNewN
  constructor
  · rintro ⟨d, s, e, q⟩
    split at e
    · rename_i xs s1 h
      split at e
      · rename_i zs s2 h2
        split at e
        · rename_i hl
          split at e
          · rename_i s3 h3
            exact ⟨_, _, h, _, _, h2, hl, _, _, h3, rfl, _, _, e, q⟩
          · cases e
        · cases e
      · cases e
    · cases e
  · rintro ⟨xs, s1, h, zs, s2, h2, hl, d, s3, h3, rfl, d2, s, e, q⟩
    exact ⟨d2, s, by rw [h]; simp only [h2, h3]; rw [if_pos hl]; exact e, q⟩
end
structure MkFK (K : PySem.W.Frag) (C : Addr) (qual : Str) (st : Stmt) (ps : List Str) (kws : List (Str × V)) : Prop where
  ex : ∃ (f : Addr) (fd : FuncData), FunD K "__init__" qual (defArgs st) (defBody st) (defScope st) [] kws f fd ∧ (∃ ds, Vals (kws.map (·.2)) ds ∧ Binds K fd ps ds) ∧ Mk K C f
structure PrF (K : PySem.W.Frag) (C : Addr) (m qual : Str) (st : Stmt) (ps : List Str) : Prop where
  ex : ∃ (f : Addr) (fd : FuncData) (q : Addr), Fun K m qual st f fd ∧ Binds K fd ps [] ∧ PropOf K C m q f
structure CaF (K : PySem.W.Frag) (C : Addr) (qual : Str) (st : Stmt) (ps : List Str) : Prop where
  ex : ∃ (f : Addr) (fd : FuncData), Fun K "__call__" qual st f fd ∧ Binds K fd ps [] ∧ StX.CallO K C f
def pick {α : Type} (xs : List α) (i : Nat) : List α := xs[i]?.toList
section
variable {P : Program} {w : World} {K : PySem.W.Frag} {mg : Str → Option Value} {base : Heap} {W : Wd}
end
theorem pick0 {α : Type} {a : α} {l : List α} : pick (a :: l) 0 = [a] := rfl
theorem pick1 {α : Type} {a b : α} {l : List α} : pick (a :: b :: l) 1 = [b] := rfl
theorem pick2 {α : Type} {a b c : α} {l : List α} : pick (a :: b :: c :: l) 2 = [c] := rfl
end My

namespace My
open PySem PySem.Spec PyProof.Rows L2
open C8 (InsC call_isC pe_gc)
section
variable {X : Cx} {W : Wd} {n : Str} {a b : Expr} {ma mb : EM} {pos : Pos}
end
section
variable {env : Env} {st : Store} {Q : D → Store → Prop}
end
end My

namespace My
open PySem PySem.Spec PyProof.Rows L2
def aStar (m : EM) (t : AM) : AM := fun env st => match m env st with
  | some (x, s1) => match seqA s1 x with
    | some xs => match t env s1 with
      | some (ys, s2) => some (xs ++ ys, s2)
      | none => none
    | none => none
  | none => none
section
variable {X : Cx} {W : Wd} {e : Expr} {es : List Expr} {p : Pos} {m : EM} {mr : AM}
end
section
variable {env : Env} {st : Store}
theorem ev_star {m : EM} {t : AM} {QA : List D → Store → Prop} : EvA (aStar m t) env st QA ↔ EvE m env st fun x s1 => ∃ xs, seqA s1 x = some xs ∧ EvA t env s1 fun ys s2 => QA (xs ++ ys) s2 := by
  unfold EvE EvA aStar
  constructor
  · rintro ⟨d, s, e, q⟩
    split at e
    · rename_i x s1 h
      split at e
      · rename_i xs h2
        split at e
        · rename_i ys s2 h3
          cases e
          exact ⟨_, _, h, xs, h2, _, _, h3, q⟩
        · cases e
      · cases e
    · cases e
  · rintro ⟨x, s1, h, xs, h2, ys, s2, h3, q⟩
    exact ⟨_, _, by rw [h]; simp only [h2, h3], q⟩
end
section
variable {X : Cx} {pins : List (Addr × Obj)} {σ : L2.St} {H : Hp} {s : Shared}
end
section
variable {X : Cx} {W : Wd} {e : Expr} {m : EM} {p p2 kpos pos : Pos}
end
end My

namespace My
open PySem PySem.Spec PyProof.Rows L2
def eTupF (m : AM) : EM := fun env st => match m env st with
  | some (xs, s1) => if xs.length ≤ sizeLine then some (.tpf xs, s1) else none
  | none => none
def fTupleF : FM := fun ds st => match ds with
  | [d] => match seqL st d with
    | some xs => some (.tpf xs, st)
    | none => none
  | _ => none
noncomputable def eBF (F : MM) (mo : EM) (ma : AM) : EM := fun env st => match mo env st with
  | some (.tpf ys, s1) => match ma env s1 with
    | some (xs, s2) => F (.tpf ys) xs s2
    | none => none
  | _ => none
section
variable {X : Cx} {W : Wd} {o e : Expr} {es : List Expr} {mo : EM} {ma : AM} {F : MM} {pos apos cpos : Pos} {name : Str} {id : String}
end
section
variable {env : Env} {st : Store} {Q : D → Store → Prop}
theorem ev_tupF {a : AM} : EvE (eTupF a) env st Q ↔ EvA a env st fun xs s1 => xs.length ≤ sizeLine ∧ Q (.tpf xs) s1 := by
  unfold EvE EvA eTupF
  constructor
  · rintro ⟨d, s, e, q⟩
    split at e
    · rename_i xs s1 h
      split at e
      · rename_i hz
        cases e
        exact ⟨_, _, h, hz, q⟩
      · cases e
    · cases e
  · rintro ⟨xs, s1, h, hz, q⟩
    exact ⟨_, _, by rw [h]; simp only [if_pos hz], q⟩
theorem ev_bF {F : MM} {a : EM} {r : AM} : EvE (eBF F a r) env st Q ↔ EvE a env st fun x s1 => ∃ ys, x = .tpf ys ∧ EvA r env s1 fun xs s2 => ∃ d s3, F (.tpf ys) xs s2 = some (d, s3) ∧ Q d s3 := by
  unfold EvE EvA eBF
  constructor
  · rintro ⟨d, s, e, q⟩
    split at e
    · rename_i ys s1 h
      split at e
      · rename_i xs s2 h2
        exact ⟨_, _, h, ys, rfl, _, _, h2, _, _, e, q⟩
      · cases e
    · cases e
  · rintro ⟨x, s1, h, ys, rfl, xs, s2, h2, d, s3, h3, q⟩
    exact ⟨d, s3, by rw [h]; simp only [h2, h3], q⟩
theorem ev_tupleF_lst {xs : List D} : EvF fTupleF [.lst xs] st Q ↔ Q (.tpf xs) st := evF_some rfl
end
end My

namespace My
open PySem PySem.Spec PyProof.Rows L2
section
variable {X : Cx} {W : Wd} {o : Expr} {m : EM} {p pos apos mpos : Pos}
end
section
variable {env : Env} {st : Store} {Q : D → Store → Prop}
end
end My

namespace My
open PySem PySem.Spec PyProof.Rows L2 PySem.W
def eRev (m : EM) : EM := fun env st => match m env st with
  | some (d, s1) => match seqA s1 d with
    | some xs => if isT d then none else some (.lst xs.reverse, s1)
    | none => none
  | none => none
where isT : D → Bool
  | .tup _ => true
  | .tpf _ => true
  | _ => false
section
variable {X : Cx} {W : Wd} {e : Expr} {m : EM}
end
section
variable {prog : Program} {w : World} {A : Around} {E : Value → Shared → Prop} {s : Shared}
end
section
variable {X : Cx} {W : Wd} {e : Expr} {m : EM} {pos p1 p2 p3 : Pos}
def sStar2 (i j : Nat) (m : EM) : SM := fun env st => match m env st with
  | some (.tup (x :: xs), s1) => if xs.length < 16384 then some (.nx ((env.set i (some x)).set j (some (.lst xs))), s1) else none
  | _ => none
end
section
variable {env : Env} {st : Store} {Q : D → Store → Prop} {QS : Out → Store → Prop}
theorem ev_rev {m : EM} : EvE (eRev m) env st Q ↔ EvE m env st fun d s1 => ∃ xs, seqA s1 d = some xs ∧ eRev.isT d = false ∧ Q (.lst xs.reverse) s1 := by
  unfold EvE eRev
  constructor
  · rintro ⟨d, s, e, q⟩
    split at e
    · rename_i x s1 h
      split at e
      · rename_i xs h2
        split at e
        · cases e
        · rename_i hT
          cases e
          exact ⟨_, _, h, xs, h2, by simpa using hT, q⟩
      · cases e
    · cases e
  · rintro ⟨d, s1, h, xs, h2, h3, q⟩
    exact ⟨_, _, by rw [h]; simp only [h2, h3]; rfl, q⟩
theorem ev_star2 {i j : Nat} {m : EM} : EvS (sStar2 i j m) env st QS ↔ EvE m env st fun d s1 => ∃ x xs, d = .tup (x :: xs) ∧ xs.length < 16384 ∧ QS (.nx ((env.set i (some x)).set j (some (.lst xs)))) s1 := by
  unfold EvS EvE sStar2
  constructor
  · rintro ⟨o, s, e, q⟩
    split at e
    · rename_i x xs s1 h
      split at e
      · rename_i hl
        cases e
        exact ⟨_, _, h, x, xs, rfl, hl, q⟩
      · cases e
    · cases e
  · rintro ⟨d, s1, h, x, xs, rfl, hl, q⟩
    exact ⟨_, _, by rw [h]; simp only [if_pos hl], q⟩
end
end My

namespace My
open PySem PySem.Spec PyProof.Rows L2
section
variable {X : Cx} {W : Wd}
end
end My

namespace My
open PySem PySem.Spec PyProof.Rows L2
section
variable {X : Cx} {W : Wd}
end
end My

namespace My
open PySem PySem.Spec PyProof.Rows L2
section
variable {X : Cx} {W : Wd}
end
end My

namespace My
open PySem PySem.Spec PyProof.Rows L2
section
variable {X : Cx} {W : Wd} {k v : Expr} {pos : Pos} {mk mv : EM}
end
section
variable {env : Env} {st : Store} {Q : D → Store → Prop}
end
end My

namespace My
open PySem PySem.Spec PyProof.Rows L2
def kD : Key → D
  | .inl i => .int i
  | .inr x => .str x
def eItemsT (m : EM) : EM := fun env st => match m env st with
  | some (x, s1) => match dicT s1 x with
    | some (ks, vs) => some (.lst ((ks.zip vs).map fun p => .tup [.tup (p.1.map kD), p.2]), s1)
    | none => none
  | none => none
section
variable {X : Cx} {W : Wd}
end
section
variable {env : Env} {st : Store} {Q : D → Store → Prop}
theorem ev_itemsT {m : EM} : EvE (eItemsT m) env st Q ↔ EvE m env st fun x s1 => ∃ ks vs, dicT s1 x = some (ks, vs) ∧ Q (.lst ((ks.zip vs).map fun p => .tup [.tup (p.1.map kD), p.2])) s1 := by
  unfold EvE eItemsT
  constructor
  · rintro ⟨d, s, e, q⟩
    split at e
    · rename_i x s1 e1
      split at e
      · rename_i ks vs q1
        cases e
        exact ⟨_, _, e1, ks, vs, q1, q⟩
      · cases e
    · cases e
  · rintro ⟨x, s1, e1, ks, vs, q1, q⟩
    exact ⟨_, _, by rw [e1]; simp only [q1], q⟩
end
end My

namespace My
open PySem PySem.Spec PyProof.Rows L2
local macro_rules | `(tactic| walk_at "ev") => `(tactic| try simp only [ev_var, ev_c, ev_un, ev_op, ev_nil, ev_cons, ev_call, ev_callD, ev_callN, ev_tup, ev_lst, ev_lstM, ev_dkM, ev_dtM, ev_bE, ev_bAnd, ev_bOr, ev_bNot, ev_bYes, ev_eAnd, ev_eOr, ev_eNot, ev_if, ev_chain, ev_oNone, ev_oSome, ev_sl, ev_bm, ev_skip, ev_brk, ev_cnt, ev_seq, then_nx, then_rt, then_bk, then_ct, ev_set, ev_asg, ev_par, ev_par3, ev_ret, ev_drop, ev_sIf, ev_aug, ev_sub, ev_seqI, ev_range1, ev_range2, ev_for, ev_lc, enter, gNm, gsNil, gsCons, gTp, wipeE,
  List.map_cons, List.map_nil, List.length_cons, List.length_nil, List.replicate, List.cons_append, List.nil_append, List.append_nil, List.getElem?_cons_zero, List.getElem?_cons_succ, List.set_cons_zero, List.set_cons_succ, Option.some.injEq, exists_eq_left', exists_eq_left, D.bl.injEq, D.int.injEq, D.str.injEq, D.tup.injEq, D.lst.injEq, D.ref.injEq, decide_eq_true_eq, List.cons.injEq, and_true, true_and, if_true, if_false, reduceCtorEq, Bool.false_eq_true, ite_true, ite_false, Nat.sub_self, Nat.reduceAdd, Nat.reduceSub, Nat.zero_add, exists_and_left, exists_const, Bool.not_true, Bool.not_false, Bool.not_eq_true', exists_eq_right, and_assoc, List.length_set, exists_eq_right',
  add_int, addI_int, sub_int, neg_int, lt_int, le_int, gt_int, ge_int, eq_int, ne_int, eq_str, ne_str, eq_bl, ne_bl, eq_is, eq_si, ne_is, ne_si, is_nn, ix_tup, ix_lst, ix_scr, at_0, at_1, at_2, at_3, len_tup, len_lst, len_scr, outF, outK, ev_len_tup, ev_len_lst, ev_len_scr, ev_abs, ev_int, ev_intb, ev_max2, ev_min2, ev_tuple_lst, ev_tuple_tup, ev_list_lst, ev_list_tup])
noncomputable def mb_Ltake : SM :=
(sSeq (sIf (bE (eOp dGt (eOp dIx (eVar 0) (eC (.int 0))) (eC (.int 0))))
(sSeq (sSet 2 (eOp dMod (eOp dIx (eVar 0) (eC (.int 0))) (eVar 1)))
(sSeq (sSub dPut (eVar 0) (eC (.int 0)) (eOp dFdiv (eOp dIx (eVar 0) (eC (.int 0))) (eVar 1)))
(sRet (eVar 2))))
sSkip)
(sSeq (sSub dPut (eVar 0) (eC (.int 2)) (eOp dAdd (eOp dIx (eVar 0) (eC (.int 2))) (eC (.int 1))))
(sSeq (sSet 3 (eOp dMod (eOp dMul (eOp dAdd (eOp dAdd (eOp dIx (eVar 0) (eC (.int 1))) (eOp dMul (eOp dMul (eC (.int 65557)) (eOp dIx (eVar 0) (eC (.int 2)))) (eOp dIx (eVar 0) (eC (.int 2))))) (eC (.int 19))) (eC (.int 48311))) (eC (.int 2305843009213693921))))
(sSeq (sSet 3 (eOp dMod (eOp dMul (eVar 3) (eOp dAdd (eOp dMod (eVar 3) (eC (.int 1000037))) (eOp dMul (eC (.int 99989)) (eOp dIx (eVar 0) (eC (.int 2)))))) (eC (.int 2305843009213693907))))
(sRet (eOp dMod (eOp dAdd (eOp dFdiv (eVar 3) (eC (.int 103))) (eOp dFdiv (eVar 3) (eC (.int 1000003)))) (eVar 1)))))))
noncomputable def mf_Ltake : FM := mkF 4 mb_Ltake

noncomputable def mb_Lbox : SM :=
(sSeq (sSet 2 (eIf (bE (eOp dLt (eVar 1) (eCall fLen (aCons (eVar 0) aNil)))) (eOp dIx (eVar 0) (eVar 1)) (eOp dAdd (eOp dMul (eC (.int 29)) (eVar 1)) (eC (.int 6)))))
(sSeq (sSet 3 (eOp dMul (eOp dMod (eCall fAbs (aCons (eVar 2) aNil)) (eOp dPow (eOp dPow (eC (.int 10)) (eC (.int 60))) (eC (.int 5)))) (eCall fInt (aCons (eOp dGe (eCall fAbs (aCons (eVar 2) aNil)) (eOp dPow (eC (.int 10)) (eC (.int 18)))) aNil))))
(sRet (eLstM (aCons (eVar 3) (aCons (eOp dMod (eOp dAdd (eOp dAdd (eOp dMul (eOp dMod (eVar 2) (eC (.int 2305843009213693951))) (eC (.int 70003))) (eOp dMul (eOp dMul (eC (.int 6011)) (eVar 1)) (eVar 1))) (eC (.int 61))) (eC (.int 2305843009213693921))) (aCons (eC (.int 0)) aNil)))))))
noncomputable def mf_Lbox : FM := mkK 4 mb_Lbox

noncomputable def mb_Lof : SM :=
(sRet (eOp dIx (eVar 1) (eCallD 2 mf_Ltake [] (aCons (eVar 0) (aCons (eCall fLen (aCons (eVar 1) aNil)) aNil)))))
noncomputable def mf_Lof : FM := mkF 2 mb_Lof

noncomputable def mb_Lbook : SM :=
(sSeq (sPar 2 3 (aCons (eOp dAdd (eC (.int 1)) (eCallD 2 mf_Ltake [] (aCons (eVar 0) (aCons (eVar 1) aNil)))) (aCons eDkM aNil)))
(sSeq (sFor (iRange1 (eOp dAdd (eC (.int 1)) (eCallD 2 mf_Ltake [] (aCons (eVar 0) (aCons (eC (.int 6)) aNil))))) (gNm 4)
(sSeq (sSet 5 (eLst (aCons (eOp dAdd (eC (.int 1)) (eCallD 2 mf_Ltake [] (aCons (eVar 0) (aCons (eVar 2) aNil)))) (aCons (eOp dAdd (eOp dFdiv (eVar 2) (eC (.int 2))) (eC (.int 1))) (aCons (eC (.int 1)) (aCons (eVar 2) (aCons (eCall fMax (aCons (eC (.int 1)) (aCons (eOp dFdiv (eVar 2) (eC (.int 2))) aNil))) (aCons (eCall fMax (aCons (eC (.int 1)) (aCons (eOp dFdiv (eVar 2) (eC (.int 3))) aNil))) aNil))))))))
(sSub dPut (eVar 3) (eCallD 2 mf_Lof [] (aCons (eVar 0) (aCons (eOp dAdd (eOp dMul (eSl (eVar 5) oNone (oSome (eC (.int 1)))) (eC (.int 3))) (eVar 5)) aNil))) (eC (.bl true)))))
(sRet (eTup (aCons (eVar 2) (aCons (eCall fTuple (aCons (eCall fSorted (aCons (eVar 3) aNil)) aNil)) aNil))))))
noncomputable def mf_Lbook : FM := mkF 6 mb_Lbook

def BoxC (n : Nat) (c : D) : Prop := ∃ o m k : Int, c = .lst [.int o, .int m, .int k] ∧ 0 ≤ o ∧ 0 ≤ m ∧ m < 2 ^ 62 ∧ 0 ≤ k ∧ k ≤ n
theorem BoxC.mono {n m : Nat} {c : D} (h : BoxC n c) (l : n ≤ m) : BoxC m c := by
  obtain ⟨o, a, k, h1, h2, h3, h4, h5, h6⟩ := h
  exact ⟨o, a, k, h1, h2, h3, h4, h5, by omega⟩
theorem BoxC.blw {n : Nat} {c : D} (h : BoxC n c) : c.blw 0 = true := by
  obtain ⟨o, a, k, rfl, _⟩ := h
  exact blw_lst (blws_cons blw_int (blws_cons blw_int (blws_cons blw_int blws_nil)))
theorem fin_set {st : Store} {b : Nat} {c r : D} {Q : D → Store → Prop} (h : r.blw 0 = true) (hc : c.blw 0 = true) (q : Q r (st.set b c)) : EvF (fun _ s => fin st r s) [] (st.set b c) Q :=
  fin_tree h (by have := closeOk_set st [] b c hc; rwa [List.append_nil] at this) (by rw [cut_b0]; exact q)
theorem ev_take {st : Store} {b n : Nat} {c : D} {many : Int} {Q : D → Store → Prop} (hb : st[b]? = some c) (hc : BoxC n c) (hn : n < 2 ^ 40) (h1 : 0 < many) (h2 : many < 2 ^ 64)
    (k : ∀ r c', 0 ≤ r → r < many → BoxC (n + 1) c' → Q (.int r) (st.set b c')) : EvF mf_Ltake [.ref b, .int many] st Q := by
  obtain ⟨o, m, u, rfl, ho, hm0, hm1, hu0, hu1⟩ := hc
  have hlt : b < st.length := (List.getElem?_eq_some_iff.mp hb).1
  have hb2 : ∀ l, (st.set b l)[b]? = some l := fun l => cell_b0 hlt
  rw [mf_Ltake, ev_mkF]
  unfold mb_Ltake
  walk_at "ev"
  simp only [ix_cell hb, at_0, gt_int, Option.some.injEq, D.bl.injEq, exists_eq_left', decide_eq_true_eq]
  split
  · have d1 : CDivW o many := cdiv 64 h1 (by omega)
    try walk_at "ev"
    simp only [ix_cell hb, at_0, mod_int h1, fdiv_int d1, put_cell (i := 0) hb (by decide) (by show (0 : Int) < 3; decide), Option.some.injEq, exists_eq_left']
    exact fin_set blw_int (blw_lst (blws_cons blw_int (blws_cons blw_int (blws_cons blw_int blws_nil)))) (k _ _ (Int.emod_nonneg _ (by omega)) (Int.emod_lt_of_pos _ h1) ⟨o / many, m, u, rfl, Int.ediv_nonneg ho (by omega), hm0, hm1, hu0, by omega⟩)
  · walk_at "ev"
    simp only [ix_cell hb, at_2, add_int, put_cell (i := 2) hb (by decide) (by show (2 : Int) < 3; decide), Option.some.injEq, exists_eq_left']
    have e2 : (List.set [D.int o, D.int m, D.int u] (2 : Int).toNat (D.int (u + 1))) = [.int o, .int m, .int (u + 1)] := rfl
    rw [e2]
    try walk_at "ev"
    have q1 : CMulW 65557 (u + 1) := cmul 20 64 (by decide) (by omega)
    have q2 : CMulW (65557 * (u + 1)) (u + 1) := cmul 64 64 (by omega) (by omega)
    have b1 : (u + 1) * (u + 1) ≤ 2 ^ 41 * 2 ^ 41 := Int.mul_le_mul (by omega) (by omega) (by omega) (by omega)
    have b0 : 0 ≤ (u + 1) * (u + 1) := Int.mul_nonneg (by omega) (by omega)
    have e3 : 65557 * (u + 1) * (u + 1) = 65557 * ((u + 1) * (u + 1)) := Int.mul_assoc ..
    have q3 : CMulW (m + 65557 * (u + 1) * (u + 1) + 19) 48311 := cmul 200 20 (by rw [e3]; omega) (by decide)
    simp only [ix_cell (hb2 _), at_1, at_2, add_int, mul_int q1, mul_int q2, mul_int q3, mod_int (show (0 : Int) < 2305843009213693921 by decide), Option.some.injEq, exists_eq_left']
    generalize (m + 65557 * (u + 1) * (u + 1) + 19) * 48311 = z
    have z0 : 0 ≤ z % 2305843009213693921 := Int.emod_nonneg _ (by decide)
    have z1 : z % 2305843009213693921 < 2305843009213693921 := Int.emod_lt_of_pos _ (by decide)
    try walk_at "ev"
    have q4 : CMulW 99989 (u + 1) := cmul 20 64 (by decide) (by omega)
    have q5 : CMulW (z % 2305843009213693921) (z % 2305843009213693921 % 1000037 + 99989 * (u + 1)) := cmul 64 100 (by omega) (by omega)
    simp only [ix_cell (hb2 _), at_1, at_2, add_int, mod_int (show (0 : Int) < 1000037 by decide), mul_int q4, mul_int q5, mod_int (show (0 : Int) < 2305843009213693907 by decide), Option.some.injEq, exists_eq_left']
    generalize z % 2305843009213693921 * (z % 2305843009213693921 % 1000037 + 99989 * (u + 1)) % 2305843009213693907 = y
    try walk_at "ev"
    simp only [fdiv_int (cdiv (j := 103) 64 (by decide) (by decide)), fdiv_int (cdiv (j := 1000003) 64 (by decide) (by decide)), add_int, mod_int h1, Option.some.injEq, exists_eq_left']
    exact fin_set blw_int (blw_lst (blws_cons blw_int (blws_cons blw_int (blws_cons blw_int blws_nil)))) (k _ _ (Int.emod_nonneg _ (by omega)) (Int.emod_lt_of_pos _ h1) ⟨o, m, u + 1, rfl, ho, hm0, hm1, by omega, by omega⟩)
theorem ev_of {st : Store} {b n : Nat} {c d : D} {xs : List D} {Q : D → Store → Prop} (hb : st[b]? = some c) (hc : BoxC n c) (hn : n < 2 ^ 40) (hd : d = .lst xs ∨ d = .tup xs) (hx : D.blws 0 xs = true) (hne : xs ≠ []) (hl : xs.length < 2 ^ 60)
    (k : ∀ v c', v ∈ xs → BoxC (n + 1) c' → Q v (st.set b c')) : EvF mf_Lof [.ref b, d] st Q := by
  have hpos : 0 < xs.length := List.length_pos_iff.mpr hne
  rw [mf_Lof, ev_mkF]
  unfold mb_Lof
  rcases hd with rfl | rfl
  all_goals
    walk_at "ev"
    refine ev_take hb hc hn (by omega) (by omega) fun r c' h0 h1 hc' => ?_
    obtain ⟨v, hv, hm⟩ := atI_in h0 h1
    exact ⟨v, hv, fin_set (blws_mem hx v hm) hc'.blw (k v c' hm hc')⟩
theorem ev_box {st : Store} {ns : List Int} {j : Int} {Q : D → Store → Prop} (hl : ns.length ≤ 63) (h0 : 0 ≤ j) (h1 : j < 1000) (k : ∀ c, BoxC 0 c → Q (.ref st.length) (st ++ [c])) : EvF mf_Lbox [.scr ns, .int j] st Q := by
  rw [mf_Lbox, ev_mkK]
  unfold mb_Lbox
  have q1 : CMulW 29 j := cmul 20 20 (by decide) (by omega)
  have main : ∀ cell : Int, EvS (sSeq (sSet 3 (eOp dMul (eOp dMod (eCall fAbs (aCons (eVar 2) aNil)) (eOp dPow (eOp dPow (eC (.int 10)) (eC (.int 60))) (eC (.int 5)))) (eCall fInt (aCons (eOp dGe (eCall fAbs (aCons (eVar 2) aNil)) (eOp dPow (eC (.int 10)) (eC (.int 18)))) aNil))))
      (sRet (eLstM (aCons (eVar 3) (aCons (eOp dMod (eOp dAdd (eOp dAdd (eOp dMul (eOp dMod (eVar 2) (eC (.int 2305843009213693951))) (eC (.int 70003))) (eOp dMul (eOp dMul (eC (.int 6011)) (eVar 1)) (eVar 1))) (eC (.int 61))) (eC (.int 2305843009213693921))) (aCons (eC (.int 0)) aNil))))))
      [some (.scr ns), some (.int j), some (.int cell), none] st (outK Q) := by
    intro cell
    have w1 : CPowW 10 60 := ⟨by decide, by decide +kernel⟩
    have w2 : CPowW ((10 : Int) ^ (60 : Int).toNat) 5 := ⟨by decide, by decide +kernel⟩
    have w3 : CPowW 10 18 := ⟨by decide, by decide +kernel⟩
    have p1 : ∀ s : Store, dPow (.int 10) (.int 60) s = some (.int ((10 : Int) ^ (60 : Int).toNat)) := fun s => if_pos w1
    have p2 : ∀ s : Store, dPow (.int ((10 : Int) ^ (60 : Int).toNat)) (.int 5) s = some (.int (((10 : Int) ^ (60 : Int).toNat) ^ (5 : Int).toNat)) := fun s => if_pos w2
    have p3 : ∀ s : Store, dPow (.int 10) (.int 18) s = some (.int ((10 : Int) ^ (18 : Int).toNat)) := fun s => if_pos w3
    have B0 : (0 : Int) < ((10 : Int) ^ (60 : Int).toNat) ^ (5 : Int).toNat := by decide +kernel
    have B1 : (((10 : Int) ^ (60 : Int).toNat) ^ (5 : Int).toNat).natAbs < 2 ^ 2000 := by decide +kernel
    walk_at "ev"
    simp only [p1, p2, p3, Option.some.injEq, exists_eq_left']
    generalize ((10 : Int) ^ (60 : Int).toNat) ^ (5 : Int).toNat = B at B0 B1
    generalize (10 : Int) ^ (18 : Int).toNat = C
    generalize (if cell < 0 then -cell else cell) = a
    have a0 : 0 ≤ a % B := Int.emod_nonneg _ (by omega)
    have a1 : a % B < B := Int.emod_lt_of_pos _ B0
    simp only [mod_int B0]
    walk_at "ev"
    have e0 : 0 ≤ (if C ≤ a then (1 : Int) else 0) ∧ (if C ≤ a then (1 : Int) else 0) ≤ 1 := by split <;> decide
    generalize (if C ≤ a then (1 : Int) else 0) = t at e0
    have q2 : CMulW (a % B) t := cmul 2000 2 (by
      refine Nat.lt_of_le_of_lt ?_ B1
      omega) (by omega)
    simp only [mul_int q2]
    walk_at "ev"
    have q3 : CMulW (cell % 2305843009213693951) 70003 := cmul 64 20 (by
      have := Int.emod_nonneg cell (show (2305843009213693951 : Int) ≠ 0 by decide)
      have := Int.emod_lt_of_pos cell (show (0 : Int) < 2305843009213693951 by decide)
      omega) (by decide)
    have q4 : CMulW 6011 j := cmul 20 20 (by decide) (by omega)
    have q5 : CMulW (6011 * j) j := cmul 64 20 (by omega) (by omega)
    simp only [mod_int (show (0 : Int) < 2305843009213693951 by decide), mul_int q3, mul_int q4, mul_int q5, add_int, mod_int (show (0 : Int) < 2305843009213693921 by decide), Option.some.injEq, exists_eq_left']
    refine ⟨by decide, k _ ⟨_, _, _, rfl, ?_, ?_, ?_, by omega, by omega⟩⟩
    · exact Int.mul_nonneg a0 e0.1
    · exact Int.emod_nonneg _ (by decide)
    · exact Int.lt_trans (Int.emod_lt_of_pos _ (by decide)) (by decide)
  rw [ev_seq, ev_set]
  refine EvE.mono (Q := fun d s => s = st ∧ ∃ cell : Int, d = .int cell) ?_ fun d s ⟨e, cell, e2⟩ => ?_
  · walk_at "ev"
    split
    · rename_i h
      obtain ⟨v, hv, hm⟩ := atI_in (xs := ns.map D.int) h0 (by rw [List.length_map]; exact h)
      obtain ⟨cell, _, rfl⟩ := List.mem_map.mp hm
      exact ⟨_, hv, cell, rfl⟩
    · simp only [mul_int q1]
      walk_at "ev"
      exact ⟨_, rfl⟩
  · subst e e2
    exact main cell
theorem kHas_ints (ns : List Int) (x : Int) : kHas (ns.map (Sum.inl : Int → Key)) (Sum.inl x) = decide (x ∈ ns) := by
  unfold kHas
  rw [List.any_map, Bool.eq_iff_iff, List.any_eq_true, decide_eq_true_eq]
  constructor
  · rintro ⟨y, hy, e⟩
    have := of_decide_eq_true e
    cases this
    exact hy
  · exact fun h => ⟨x, h, decide_eq_true rfl⟩
theorem kPutK_ints (ns : List Int) (x : Int) : kPutK (ns.map (Sum.inl : Int → Key)) (Sum.inl x) = (insL ns x).map Sum.inl := by
  unfold kPutK insL
  rw [kHas_ints]
  by_cases h : x ∈ ns
  · rw [if_pos (decide_eq_true h), if_pos h]
  · rw [if_neg (by simpa using h), if_neg h, List.map_append]; rfl
theorem ev_book {st : Store} {b n : Nat} {c : D} {top : Int} {Q : D → Store → Prop} (hb : st[b]? = some c) (hc : BoxC n c) (hn : n + 40 < 2 ^ 40) (h1 : 1 ≤ top) (h2 : top ≤ 100)
    (k : ∀ S ls c', Rules S ls → S ≤ top → BoxC (n + 20) c' → Q (.tup [.int S, .tup (ls.map .int)]) (st.set b c')) : EvF mf_Lbook [.ref b, .int top] st Q := by
  have hlt : b < st.length := (List.getElem?_eq_some_iff.mp hb).1
  rw [mf_Lbook, ev_mkF]
  unfold mb_Lbook
  walk_at "ev"
  refine ev_take hb hc (by omega) (by omega) (by omega) fun r c1 r0 r1 B1 => ?_
  walk_at "ev"
  refine ev_take (c := c1) (by rw [cell_b hlt]) B1 (by omega) (by omega) (by omega) fun t c2 t0 t1 B2 => ?_
  rw [put_b hlt]
  walk_at "ev"
  refine ⟨by omega, by omega, ?_⟩
  refine for_inv (fun i env s => ∃ (c : D) (ns : List Int) (vs : List D) (x5 x4 : Option D), BoxC (n + 2 + 2 * i) c ∧ env = [some (.ref b), some (.int top), some (.int (1 + r)), some (.ref st.length), x4, x5] ∧ s = st.set b c ++ [.dk (ns.map Sum.inl) vs] ∧
    ns.Nodup ∧ ns.length ≤ i ∧ (0 < i → ns ≠ []) ∧ ∀ x ∈ ns, 1 ≤ x ∧ x ≤ 1 + r) ?_ (fun _ _ _ _ _ => trivial) ?_ ?_
  · exact ⟨c2, [], [], none, none, B2.mono (by omega), rfl, rfl, List.nodup_nil, Nat.le_refl _, fun z => absurd z (by omega), fun _ z => absurd z (by simp)⟩
  · rintro i hi env s ⟨c, ns, vs, x5, x4, B, rfl, rfl, kn, kl, kz, km⟩
    rw [intsTo_len] at hi
    have hi6 : i < 6 := by omega
    refine ⟨_, rfl, ?_⟩
    walk_at "ev"
    refine ev_take (cell_b hlt) B (by omega) (by omega) (by omega) fun z c3 z0 z1 B3 => ?_
    rw [put_b hlt]
    have d2 : CDivW (1 + r) 2 := cdiv 20 (by decide) (by decide)
    have d3 : CDivW (1 + r) 3 := cdiv 20 (by decide) (by decide)
    walk_at "ev"
    simp only [fdiv_int d2, fdiv_int d3]
    walk_at "ev"
    refine ⟨by decide, ?_⟩
    have sl : ∀ (a1 a2 a3 a4 a5 a6 : D) (s : Store), dSl (.lst [a1, a2, a3, a4, a5, a6]) none (some 1) s = some (.lst [a1]) := fun _ _ _ _ _ _ _ => rfl
    have ml : ∀ (a : D) (s : Store), dMul (.lst [a]) (.int 3) s = some (.lst [a, a, a]) := fun a s => mul_lst (by decide) (by decide) (by show 1 * 3 ≤ sizeLine; decide)
    have ct : ∀ (a b1 b2 b3 b4 b5 b6 : D) (s : Store), dAdd (.lst [a, a, a]) (.lst [b1, b2, b3, b4, b5, b6]) s = some (.lst [a, a, a, b1, b2, b3, b4, b5, b6]) := fun _ _ _ _ _ _ _ _ => cat_lst (by show 3 + 6 ≤ sizeLine; decide)
    simp only [sl]
    walk_at "ev"
    simp only [ml]
    walk_at "ev"
    simp only [ct]
    walk_at "ev"
    refine ev_of (cell_b hlt) B3 (by omega) (.inl rfl) ?_ (by simp) (by show 9 < 2 ^ 60; decide) fun v c4 hv B4 => ?_
    · simp only [D.blws, D.blw, Bool.and_true]
    rw [put_b hlt]
    have r3 : (1 + r) / 2 + 1 ≤ 1 + r ∨ 1 + r = 1 := by omega
    have hx : ∃ x : Int, v = .int x ∧ 1 ≤ x ∧ x ≤ 1 + r := by
      simp only [List.mem_cons, List.not_mem_nil, or_false] at hv
      rcases hv with h | h | h | h | h | h | h | h | h
      all_goals first
        | exact ⟨_, h, by omega, by omega⟩
        | (refine ⟨_, h, ?_, ?_⟩ <;> (split <;> omega))
    obtain ⟨x, rfl, x1, x2⟩ := hx
    refine ⟨_, put_dk cell_n rfl (by rw [List.length_map]; exact Nat.lt_of_le_of_lt (Nat.le_trans kl (Nat.le_of_lt hi6)) (by decide)), ?_⟩
    rw [put_n, kPutK_ints]
    exact ⟨c4, B4.mono (by omega), insL ns x, _, rfl, insL_nd kn, Nat.le_trans (insL_len _ _) (by omega), fun _ => insL_ne _ _, fun y hy => (insL_mem hy).elim (km y) (fun e => by omega)⟩
  · rintro env s ⟨c, ns, vs, x5, x4, B, rfl, rfl, kn, kl, kz, km⟩
    rw [intsTo_len] at kl B kz
    have l6 : ns.length ≤ 6 := by omega
    walk_at "ev"
    refine (ev_sorted_dk cell_n (by omega)).mpr ?_
    walk_at "ev"
    refine ⟨by decide, ?_⟩
    have pm := isort_perm ns
    refine fin_tree (blw_tup (blws_cons blw_int (blws_cons (blw_tup blws_ints) blws_nil))) (closeOk_set st _ b c B.blw) ?_
    rw [cut_b]
    refine k _ _ _ ⟨by omega, by omega, ?_, by rw [pm.length_eq]; exact l6, fun l hl => km l (pm.mem_iff.mp hl), asc_of pm kn (isort_sorted ns)⟩ (by omega) (B.mono (by omega))
    intro e
    have := pm.length_eq
    rw [e] at this
    exact kz (by omega) (List.length_eq_zero_iff.mp this.symm)
end My

namespace My
open PySem PySem.Spec PyProof.Rows L2
local macro_rules | `(tactic| walk_at "ev") => `(tactic| try simp only [ev_var, ev_c, ev_un, ev_op, ev_nil, ev_cons, ev_call, ev_callD, ev_callN, ev_tup, ev_lst, ev_lstM, ev_dkM, ev_dtM, ev_bE, ev_bAnd, ev_bOr, ev_bNot, ev_bYes, ev_eAnd, ev_eOr, ev_eNot, ev_if, ev_chain, ev_oNone, ev_oSome, ev_sl, ev_bm, ev_skip, ev_brk, ev_cnt, ev_seq, then_nx, then_rt, then_bk, then_ct, ev_set, ev_asg, ev_par, ev_par3, ev_ret, ev_drop, ev_sIf, ev_aug, ev_sub, ev_seqI, ev_range1, ev_range2, ev_for, ev_lc, enter, gNm, gsNil, gsCons, gTp, wipeE,
  List.map_cons, List.map_nil, List.length_cons, List.length_nil, List.replicate, List.cons_append, List.nil_append, List.append_nil, List.getElem?_cons_zero, List.getElem?_cons_succ, List.set_cons_zero, List.set_cons_succ, Option.some.injEq, exists_eq_left', exists_eq_left, D.bl.injEq, D.int.injEq, D.str.injEq, D.tup.injEq, D.lst.injEq, D.ref.injEq, decide_eq_true_eq, List.cons.injEq, and_true, true_and, if_true, if_false, reduceCtorEq, Bool.false_eq_true, ite_true, ite_false, Nat.sub_self, Nat.reduceAdd, Nat.reduceSub, Nat.zero_add, exists_and_left, exists_const, Bool.not_true, Bool.not_false, Bool.not_eq_true', exists_eq_right, and_assoc, List.length_set, exists_eq_right',
  add_int, addI_int, sub_int, neg_int, lt_int, le_int, gt_int, ge_int, eq_int, ne_int, eq_str, ne_str, eq_bl, ne_bl, eq_is, eq_si, ne_is, ne_si, is_nn, ix_tup, ix_lst, ix_scr, at_0, at_1, at_2, at_3, len_tup, len_lst, len_scr, outF, outK, ev_len_tup, ev_len_lst, ev_len_scr, ev_abs, ev_int, ev_intb, ev_max2, ev_min2, ev_tuple_lst, ev_tuple_tup, ev_list_lst, ev_list_tup])
def Ev.D : Ev → D
  | .line l => .int l
  | .look => .str "look"
  | .rot => .str "rotate"
end My

namespace My
open PySem L2

structure RS where
  old : List (List Int × Int)
  cur : List Int
  beg : Int
  places : List Int
  gone : List (Int × Bool)
  fill : Int
  here : Int
  turns : Int
namespace RS
def init : RS := ⟨[], [], 0 - 1, [], [], 0, 0, 0⟩
def lost (pl : List Int) (here : Int) (f : List Int × Int) : List (Int × Bool) :=
  (f.1.filter fun n => decide (pl.getD n.toNat 0 = here)).map fun n => (n, decide (f.2 = here))
def turn (r : RS) : RS := { r with old := r.old ++ [(r.cur, r.beg)], cur := [], beg := r.here, fill := 0, turns := r.turns + 1 }
def drop (r : RS) (f : List Int × Int) (o : List (List Int × Int)) : RS := { r with old := o, gone := r.gone ++ lost r.places r.here f }
def trim (many : Nat) (r : RS) : RS := if many < r.old.length then (match r.old with | [] => r | f :: o => r.drop f o) else r
def add (l : Int) (r : RS) : RS := { r with cur := r.cur ++ [(r.places.length : Int)], places := r.places ++ [r.here], fill := r.fill + l }
def step (S : Int) (many : Nat) (r : RS) : Ev → RS
  | .look => { r with here := r.here + 1 }
  | .rot => trim many (turn r)
  | .line l => add l (if S < r.fill + l then trim many (turn r) else r)
def run (S : Int) (many : Nat) (es : List Ev) : RS := es.foldl (step S many) init
def cnt (o : List (List Int × Int)) : Nat := (o.map fun f => f.1.length).sum
structure Ok (many i : Nat) (r : RS) : Prop where
  o1 : r.old.length ≤ many
  o2 : r.old.length ≤ i
  pl : r.places.length ≤ i
  tot : r.gone.length + cnt r.old + r.cur.length ≤ r.places.length
  fs : ∀ f ∈ r.old, ∀ n ∈ f.1, 0 ≤ n ∧ n < (r.places.length : Int)
  cs : ∀ n ∈ r.cur, 0 ≤ n ∧ n < (r.places.length : Int)
theorem Ok.init (many : Nat) : Ok many 0 RS.init := ⟨Nat.zero_le _, Nat.le_refl _, Nat.le_refl _, Nat.le_refl _, fun _ h => absurd h (by simp [RS.init]), fun _ h => absurd h (by simp [RS.init])⟩
theorem Ok.mono {many i j : Nat} {r : RS} (h : Ok many i r) (l : i ≤ j) : Ok many j r := ⟨h.o1, Nat.le_trans h.o2 l, Nat.le_trans h.pl l, h.tot, h.fs, h.cs⟩
structure Ok1 (many i : Nat) (r : RS) : Prop where
  o1 : r.old.length ≤ many + 1
  o2 : r.old.length ≤ i + 1
  pl : r.places.length ≤ i
  tot : r.gone.length + cnt r.old + r.cur.length ≤ r.places.length
  fs : ∀ f ∈ r.old, ∀ n ∈ f.1, 0 ≤ n ∧ n < (r.places.length : Int)
  cs : ∀ n ∈ r.cur, 0 ≤ n ∧ n < (r.places.length : Int)
theorem cnt_snoc (o : List (List Int × Int)) (f : List Int × Int) : cnt (o ++ [f]) = cnt o + f.1.length := by
  unfold cnt
  rw [List.map_append, List.sum_append]
  simp
theorem Ok.turn {many i : Nat} {r : RS} (h : Ok many i r) : Ok1 many i r.turn := by
  obtain ⟨o1, o2, pl, tot, fs, cs⟩ := h
  refine ⟨?_, ?_, pl, ?_, fun f hf => ?_, fun n hn => absurd hn (by simp [RS.turn])⟩
  · show (r.old ++ [(r.cur, r.beg)]).length ≤ _
    rw [List.length_append, List.length_singleton]; omega
  · show (r.old ++ [(r.cur, r.beg)]).length ≤ _
    rw [List.length_append, List.length_singleton]; omega
  · show r.gone.length + cnt (r.old ++ [(r.cur, r.beg)]) + 0 ≤ r.places.length
    rw [cnt_snoc]
    simp only
    omega
  · rcases List.mem_append.mp (show f ∈ r.old ++ [(r.cur, r.beg)] from hf) with hf | hf
    · exact fs f hf
    · rw [List.mem_singleton.mp hf]
      exact cs
theorem lost_len (pl : List Int) (here : Int) (f : List Int × Int) : (lost pl here f).length ≤ f.1.length := by
  unfold lost
  rw [List.length_map]
  exact List.length_filter_le _ _
theorem Ok1.drop {many i : Nat} {r : RS} {f : List Int × Int} {o : List (List Int × Int)} (h : Ok1 many i r) (e : r.old = f :: o) : Ok many (i + 1) (r.drop f o) := by
  obtain ⟨o1, o2, pl, tot, fs, cs⟩ := h
  rw [e] at o1 o2 fs tot
  rw [List.length_cons] at o1 o2
  refine ⟨by show o.length ≤ many; omega, by show o.length ≤ i + 1; omega, by show r.places.length ≤ i + 1; omega, ?_, fun g hg => fs g (List.mem_cons_of_mem _ hg), cs⟩
  show (r.gone ++ lost r.places r.here f).length + cnt o + r.cur.length ≤ r.places.length
  rw [List.length_append]
  have := lost_len r.places r.here f
  unfold cnt at tot ⊢
  rw [List.map_cons, List.sum_cons] at tot
  omega
theorem Ok1.keep {many i : Nat} {r : RS} (h : Ok1 many i r) (l : r.old.length ≤ many) : Ok many (i + 1) r := ⟨l, h.o2, by have := h.pl; omega, h.tot, h.fs, h.cs⟩
theorem Ok.add {many i : Nat} {r : RS} {l : Int} (h : r.places.length ≤ i) (g : Ok many (i + 1) r) : Ok many (i + 1) (r.add l) := by
  obtain ⟨o1, o2, pl, tot, fs, cs⟩ := g
  have e : ((r.add l).places.length : Int) = r.places.length + 1 := by
    show (((r.places ++ [r.here]).length : Nat) : Int) = _
    rw [List.length_append, List.length_singleton]
    omega
  refine ⟨o1, o2, ?_, ?_, fun f hf n hn => ?_, fun n hn => ?_⟩
  · show (r.places ++ [r.here]).length ≤ _
    rw [List.length_append, List.length_singleton]; omega
  · show r.gone.length + cnt r.old + (r.cur ++ [(r.places.length : Int)]).length ≤ (r.places ++ [r.here]).length
    rw [List.length_append, List.length_append, List.length_singleton, List.length_singleton]; omega
  · have := fs f hf n hn
    omega
  · rcases List.mem_append.mp (show n ∈ r.cur ++ [(r.places.length : Int)] from hn) with hn | hn
    · have := cs n hn
      omega
    · rw [List.mem_singleton.mp hn]
      omega
theorem trim_drop {many : Nat} {r : RS} {f : List Int × Int} {o : List (List Int × Int)} (e : r.old = f :: o) (l : many < r.old.length) : trim many r = r.drop f o := by
  unfold trim
  rw [if_pos l, e]
theorem trim_keep {many : Nat} {r : RS} (l : r.old.length ≤ many) : trim many r = r := by
  unfold trim
  rw [if_neg (by omega)]
theorem Ok1.trim {many i : Nat} {r : RS} (h : Ok1 many i r) : Ok many (i + 1) (trim many r) := by
  by_cases l : many < r.old.length
  · cases e : r.old with
    | nil => rw [e] at l; exact absurd l (by simp)
    | cons f o =>
      rw [trim_drop e l]
      exact h.drop e
  · rw [trim_keep (by omega)]
    exact h.keep (by omega)
theorem trim_places (many : Nat) (r : RS) : (trim many r).places = r.places := by
  unfold RS.trim
  split
  · split <;> rfl
  · rfl
theorem Ok.step {many i : Nat} {r : RS} {S : Int} (h : Ok many i r) (e : Ev) : Ok many (i + 1) (step S many r e) := by
  cases e with
  | look => exact ⟨h.o1, Nat.le_succ_of_le h.o2, Nat.le_succ_of_le h.pl, h.tot, h.fs, h.cs⟩
  | rot => exact h.turn.trim
  | line l =>
    show Ok many (i + 1) (RS.add l _)
    split
    · exact Ok.add (by rw [trim_places]; exact h.pl) h.turn.trim
    · exact Ok.add h.pl (h.mono (Nat.le_succ _))
theorem Ok.run (S : Int) (many : Nat) (es : List Ev) : Ok many es.length (run S many es) := by
  have : ∀ (es : List Ev) (r : RS) (i : Nat), Ok many i r → Ok many (i + es.length) (es.foldl (RS.step S many) r) := by
    intro es
    induction es with
    | nil => intro r i h; exact h
    | cons e es ih =>
      intro r i h
      have := ih _ _ (h.step (S := S) e)
      rw [List.length_cons, show i + (es.length + 1) = i + 1 + es.length by omega]
      exact this
  have h := this es RS.init 0 (Ok.init many)
  rwa [Nat.zero_add] at h
end RS

theorem pairs_app {α β : Type} {R : α → β → Prop} : ∀ {xs xs' : List α} {ys ys' : List β}, Paired R xs ys → Paired R xs' ys' → Paired R (xs ++ xs') (ys ++ ys')
  | _, _, _, _, .nil, q => q
  | _, _, _, _, .cons h t, q => .cons h (pairs_app t q)

def FileAt (H : Hp) (N : List Addr) (v : V) (f : List Int × Int) : Prop := ∃ t c, v = .ref t ∧ H t = some (.tup [.ref c, .int f.2]) ∧ H c = some (.lst (f.1.map V.int)) ∧ c ∉ N
def GoneAt (H : Hp) (v : V) (p : Int × Bool) : Prop := ∃ t, v = .ref t ∧ H t = some (.tup [.int p.1, .bl p.2])
def Buts (N : List Addr) (H H' : Hp) : Prop := ∀ a o, a ∉ N → H a = some o → H' a = some o
structure RunAt (H0 H : Hp) (F P G c : Addr) (ov gv : List V) (t : Addr) (r : RS) : Prop where
  hF : H F = some (.lst (ov ++ [.ref t]))
  ht : H t = some (.tup [.ref c, .int r.beg])
  hc : H c = some (.lst (r.cur.map V.int))
  hP : H P = some (.lst (r.places.map V.int))
  hG : H G = some (.lst gv)
  po : Paired (FileAt H [c, P, G, F]) ov r.old
  pg : Paired (GoneAt H) gv r.gone
  ne : c ≠ P ∧ c ≠ G ∧ c ≠ F ∧ P ≠ G ∧ P ≠ F ∧ G ≠ F
  fr : H0 F = none ∧ H0 P = none ∧ H0 G = none ∧ H0 c = none
  sm : Same H0 H
theorem FileAt.buts {H H' : Hp} {N M : List Addr} {v : V} {f : List Int × Int} (h : FileAt H N v f) (b : Buts N H H') (tn : ∀ a xs, H a = some (.tup xs) → a ∉ N) (hm : ∀ a, a ∉ N → H a ≠ none → a ∉ M) : FileAt H' M v f := by
  obtain ⟨t, c, rfl, h1, h2, h3⟩ := h
  exact ⟨t, c, rfl, b _ _ (tn _ _ h1) h1, b _ _ h3 h2, hm _ h3 (by rw [h2]; simp)⟩
theorem GoneAt.buts {H H' : Hp} {N : List Addr} {v : V} {p : Int × Bool} (h : GoneAt H v p) (b : Buts N H H') (tn : ∀ a xs, H a = some (.tup xs) → a ∉ N) : GoneAt H' v p := by
  obtain ⟨t, rfl, h1⟩ := h
  exact ⟨t, rfl, b _ _ (tn _ _ h1) h1⟩
theorem RunAt.tn {H0 H : Hp} {F P G c : Addr} {ov gv : List V} {t : Addr} {r : RS} (R : RunAt H0 H F P G c ov gv t r) : ∀ a xs, H a = some (.tup xs) → a ∉ [c, P, G, F] := by
  intro a xs h hm
  simp only [List.mem_cons, List.not_mem_nil, or_false] at hm
  rcases hm with rfl | rfl | rfl | rfl
  · exact tup_ne h R.hc rfl
  · exact tup_ne h R.hP rfl
  · exact tup_ne h R.hG rfl
  · exact tup_ne h R.hF rfl
theorem RunAt.nn {H0 H : Hp} {F P G c : Addr} {ov gv : List V} {t : Addr} {r : RS} (R : RunAt H0 H F P G c ov gv t r) : ∀ a, H a = none → a ∉ [c, P, G, F] := by
  intro a h hm
  simp only [List.mem_cons, List.not_mem_nil, or_false] at hm
  rcases hm with rfl | rfl | rfl | rfl
  · rw [R.hc] at h; cases h
  · rw [R.hP] at h; cases h
  · rw [R.hG] at h; cases h
  · rw [R.hF] at h; cases h
theorem RunAt.old {H0 H H' : Hp} {F P G c : Addr} {ov gv : List V} {t : Addr} {r : RS} {os : List (List Int × Int)} (R : RunAt H0 H F P G c ov gv t r) (b : Buts [c, P, G, F] H H') (p : Paired (FileAt H [c, P, G, F]) ov os) : Paired (FileAt H' [c, P, G, F]) ov os :=
  Paired.mapP p fun _ _ x => x.buts b R.tn fun _ n _ => n
theorem RunAt.gn {H0 H H' : Hp} {F P G c : Addr} {ov gv : List V} {t : Addr} {r : RS} (R : RunAt H0 H F P G c ov gv t r) (b : Buts [c, P, G, F] H H') : Paired (GoneAt H') gv r.gone :=
  Paired.mapP R.pg fun _ _ x => x.buts b R.tn
theorem RunAt.keep {H0 H H' : Hp} {F P G c : Addr} {ov gv : List V} {t : Addr} {r : RS} (R : RunAt H0 H F P G c ov gv t r) (b : Buts [c, P, G, F] H H') : Same H0 H' := fun a o h => b _ _ (fun hm => by
  obtain ⟨h1, h2, h3, h4⟩ := R.fr
  simp only [List.mem_cons, List.not_mem_nil, or_false] at hm
  rcases hm with rfl | rfl | rfl | rfl
  · rw [h4] at h; cases h
  · rw [h2] at h; cases h
  · rw [h3] at h; cases h
  · rw [h1] at h; cases h) (R.sm _ _ h)
theorem Buts.of {N : List Addr} {H H' : Hp} (s : Same H H') : Buts N H H' := fun a o _ h => s a o h
theorem RunAt.same {H0 H H' : Hp} {F P G c : Addr} {ov gv : List V} {t : Addr} {r : RS} (R : RunAt H0 H F P G c ov gv t r) (s : Same H H') : RunAt H0 H' F P G c ov gv t r :=
  ⟨s _ _ R.hF, s _ _ R.ht, s _ _ R.hc, s _ _ R.hP, s _ _ R.hG, R.old (Buts.of s) R.po, R.gn (Buts.of s), R.ne, R.fr, R.sm.trans s⟩
theorem none_of {H H' : Hp} {a : Addr} (s : Same H H') (h : H' a = none) : H a = none := by
  cases e : H a with
  | none => rfl
  | some o => rw [s _ _ e] at h; cases h
theorem RunAt.turn {H0 H : Hp} {F P G c : Addr} {ov gv : List V} {t : Addr} {r : RS} (R : RunAt H0 H F P G c ov gv t r) {c' t' L F' : Addr} {H1 H2 H3 H4 : Hp}
    (n1 : H c' = none) (e1 : H1 = upd H c' (.lst [])) (n2 : H1 t' = none) (e2 : H2 = upd H1 t' (.tup [.ref c', .int r.here])) (n3 : H2 L = none) (e3 : H3 = upd H2 L (.lst [.ref t'])) (n4 : H3 F' = none) (e4 : H4 = upd H3 F' (.lst (ov ++ [.ref t] ++ [.ref t']))) :
    RunAt H0 H4 F' P G c' (ov ++ [.ref t]) gv t' r.turn := by
  have s1 : Same H H1 := e1 ▸ same_new n1
  have s2 : Same H1 H2 := e2 ▸ same_new n2
  have s3 : Same H2 H3 := e3 ▸ same_new n3
  have s4 : Same H3 H4 := e4 ▸ same_new n4
  have s24 := (s2.trans s3).trans s4
  have s : Same H H4 := s1.trans s24
  have R4 := R.same s
  have hc1 : H1 c' = some (.lst []) := e1 ▸ upd_same
  have ht2 : H2 t' = some (.tup [.ref c', .int r.here]) := e2 ▸ upd_same
  have m4 : H F' = none := none_of (s1.trans (s2.trans s3)) n4
  have q1 := R.nn _ n1
  have q4 := R.nn _ m4
  have d1 : c' ≠ F' := ne_of_none ((s2.trans s3) _ _ hc1) n4
  have nF : ∀ v f, FileAt H [c, P, G, F] v f → FileAt H4 [c', P, G, F'] v f := fun v f x => x.buts (Buts.of s) R.tn fun a ha hn => by
    simp only [List.mem_cons, List.not_mem_nil, or_false, not_or] at ha ⊢
    exact ⟨fun e => hn (e ▸ n1), ha.2.1, ha.2.2.1, fun e => hn (e ▸ m4)⟩
  simp only [List.mem_cons, List.not_mem_nil, or_false, not_or] at q1 q4
  obtain ⟨f1, f2, f3, f4⟩ := R.fr
  have cn := R.ne
  refine ⟨e4 ▸ upd_same, (s3.trans s4) _ _ ht2, s24 _ _ hc1, R4.hP, R4.hG, Paired.snoc (Paired.mapP R.po nF) ⟨t, c, rfl, s _ _ R.ht, s _ _ R.hc, ?_⟩, R4.pg, ⟨q1.2.1, q1.2.2.1, d1, cn.2.2.2.1, fun e => q4.2.1 e.symm, fun e => q4.2.2.1 e.symm⟩, ⟨none_of R.sm m4, f2, f3, none_of R.sm n1⟩, R4.sm⟩
  simp only [List.mem_cons, List.not_mem_nil, or_false, not_or]
  exact ⟨fun e => q1.1 e.symm, cn.1, cn.2.1, fun e => q4.1 e.symm⟩
theorem RunAt.drop {H0 H H' : Hp} {F P G c : Addr} {v : V} {ov gv gn : List V} {t : Addr} {r : RS} {f : List Int × Int} {o : List (List Int × Int)} (R : RunAt H0 H F P G c (v :: ov) gv t r) (e : r.old = f :: o)
    (b : Buts [F, G] H H') (hF : H' F = some (.lst (ov ++ [.ref t]))) (hG : H' G = some (.lst (gv ++ gn))) (pn : Paired (GoneAt H') gn (RS.lost r.places r.here f)) : RunAt H0 H' F P G c ov (gv ++ gn) t (r.drop f o) := by
  have b4 : Buts [c, P, G, F] H H' := fun a u n h => b a u (fun z => n (by
    simp only [List.mem_cons, List.not_mem_nil, or_false] at z ⊢
    rcases z with z | z
    · exact .inr (.inr (.inr z))
    · exact .inr (.inr (.inl z)))) h
  have cn := R.ne
  have po := R.old b4 R.po
  rw [e] at po
  cases po with
  | cons _ po =>
    refine ⟨hF, b _ _ (fun z => R.tn _ _ R.ht ?_) R.ht, b _ _ ?_ R.hc, b _ _ ?_ R.hP, hG, po, pairs_app (R.gn b4) pn, R.ne, R.fr, R.keep b4⟩
    · simp only [List.mem_cons, List.not_mem_nil, or_false] at z ⊢
      rcases z with z | z
      · exact .inr (.inr (.inr z))
      · exact .inr (.inr (.inl z))
    · simp only [List.mem_cons, List.not_mem_nil, or_false, not_or]
      exact ⟨cn.2.2.1, cn.2.1⟩
    · simp only [List.mem_cons, List.not_mem_nil, or_false, not_or]
      exact ⟨cn.2.2.2.2.1, cn.2.2.2.1⟩
theorem RunAt.add {H0 H : Hp} {F P G c : Addr} {ov gv : List V} {t : Addr} {r : RS} (R : RunAt H0 H F P G c ov gv t r) (l : Int) {xs ys : List V} (ex : xs = (r.add l).cur.map V.int) (ey : ys = (r.add l).places.map V.int) :
    RunAt H0 (upd (upd H c (.lst xs)) P (.lst ys)) F P G c ov gv t (r.add l) := by
  have b : Buts [c, P, G, F] H (upd (upd H c (.lst xs)) P (.lst ys)) := fun a o n h => by
    simp only [List.mem_cons, List.not_mem_nil, or_false, not_or] at n
    exact kp_set n.2.1 (kp_set n.1 h)
  have cn := R.ne
  have tn := R.tn _ _ R.ht
  refine ⟨kp_set (fun e => cn.2.2.2.2.1 e.symm) (kp_set (fun e => cn.2.2.1 e.symm) R.hF), b _ _ tn R.ht, ?_, ?_, kp_set (fun e => cn.2.2.2.1 e.symm) (kp_set (fun e => cn.2.1 e.symm) R.hG), R.old b R.po, R.gn b, R.ne, R.fr, R.keep b⟩
  · rw [kp_set cn.1 upd_same, ex]
  · rw [upd_same, ey]
def Ev.n : Ev → Int
  | .line l => l
  | _ => 0
theorem Ev.sc (e : Ev) (x : Str) : scal e.v (.str x) = true := by cases e <;> rfl

end My

namespace My
open PySem PySem.Spec PyProof.Rows L2
def Ext (st s : Store) : Prop := ∃ l, s = st ++ l
theorem Ext.refl (st : Store) : Ext st st := ⟨[], (List.append_nil _).symm⟩
theorem Ext.app {st s : Store} (h : Ext st s) (l : Store) : Ext st (s ++ l) := by
  obtain ⟨k, rfl⟩ := h
  exact ⟨k ++ l, List.append_assoc ..⟩
theorem Ext.set {st s : Store} (h : Ext st s) {i : Nat} {c : D} (hi : st.length ≤ i) : Ext st (s.set i c) := by
  obtain ⟨k, rfl⟩ := h
  exact ⟨k.set (i - st.length) c, by rw [List.set_append_right _ _ hi]⟩
theorem Ext.le {st s : Store} (h : Ext st s) : st.length ≤ s.length := by
  obtain ⟨k, rfl⟩ := h
  simp
theorem Ext.cut {st s : Store} (h : Ext st s) : s.take st.length = st := by
  obtain ⟨k, rfl⟩ := h
  exact cut_0
theorem Ext.get {st s : Store} (h : Ext st s) {i : Nat} {c : D} (e : st[i]? = some c) : s[i]? = some c := by
  obtain ⟨k, rfl⟩ := h
  rw [List.getElem?_append_left (List.getElem?_eq_some_iff.mp e).1]; exact e
theorem Ext.trans {a b c : Store} (h : Ext a b) (k : Ext b c) : Ext a c := by
  obtain ⟨l, rfl⟩ := h
  obtain ⟨m, rfl⟩ := k
  exact ⟨l ++ m, List.append_assoc ..⟩
section
variable {s : Store} {i j : Nat} {x y : D}
theorem up_ne (h : i ≠ j) (e : s[i]? = some x) : (s.set j y)[i]? = some x := by rw [List.getElem?_set_ne (Ne.symm h)]; exact e
theorem up_eq (e : s[i]? = some x) : (s.set i y)[i]? = some y := List.getElem?_set_self (List.getElem?_eq_some_iff.mp e).1
theorem up_app (e : s[i]? = some x) (l : Store) : (s ++ l)[i]? = some x := by rw [List.getElem?_append_left (List.getElem?_eq_some_iff.mp e).1]; exact e
theorem up_new (l : Store) : (s ++ x :: l)[s.length]? = some x := by simp
theorem up_lt (e : s[i]? = some x) : i < s.length := (List.getElem?_eq_some_iff.mp e).1
end
local macro_rules | `(tactic| walk_at "ev") => `(tactic| try simp only [ev_var, ev_c, ev_un, ev_op, ev_nil, ev_cons, ev_call, ev_callD, ev_callN, ev_callK, ev_opM, ev_lcM, ev_tup, ev_lst, ev_lstM, ev_dkM, ev_dtM, ev_bE, ev_bAnd, ev_bOr, ev_bNot, ev_bYes, ev_eAnd, ev_eOr, ev_eNot, ev_if, ev_chain, ev_oNone, ev_oSome, ev_sl, ev_bm, ev_skip, ev_brk, ev_cnt, ev_seq, then_nx, then_rt, then_bk, then_ct, ev_set, ev_asg, ev_par, ev_par3, ev_ret, ev_drop, ev_sIf, ev_aug, ev_sub, ev_seqI, ev_fld, ev_fldM, ev_meth, ev_new, ev_newK, ev_enum, ev_zip, ev_range1, ev_range2, ev_for, ev_lc, enter, gNm, gsNil, gsCons, gTp, wipeE,
  List.map_cons, List.map_nil, List.length_cons, List.length_nil, List.replicate, List.cons_append, List.nil_append, List.append_nil, List.getElem?_cons_zero, List.getElem?_cons_succ, List.set_cons_zero, List.set_cons_succ, Option.some.injEq, exists_eq_left', exists_eq_left, D.bl.injEq, D.int.injEq, D.str.injEq, D.tup.injEq, D.lst.injEq, D.ref.injEq, decide_eq_true_eq, List.cons.injEq, and_true, true_and, if_true, if_false, reduceCtorEq, Bool.false_eq_true, ite_true, ite_false, Nat.sub_self, Nat.reduceAdd, Nat.reduceSub, Nat.zero_add, exists_and_left, exists_const, Bool.not_true, Bool.not_false, Bool.not_eq_true', exists_eq_right, and_assoc, List.length_set, exists_eq_right',
  add_int, addI_int, sub_int, neg_int, lt_int, le_int, gt_int, ge_int, eq_int, ne_int, eq_str, ne_str, eq_bl, ne_bl, eq_is, eq_si, ne_is, ne_si, is_nn, ix_tup, ix_lst, ix_scr, at_0, at_1, at_2, at_3, len_tup, len_lst, len_scr, outF, outK, ev_len_tup, ev_len_lst, ev_len_scr, ev_abs, ev_int, ev_intb, ev_max2, ev_min2, ev_tuple_lst, ev_tuple_tup, ev_list_lst, ev_list_tup, sz0, sz1, sz2, sz3, sz4, sz5, sz6, sz7, sz8, sz9, sz10, sz11, sz12, s_rl, s_lr, atI_last, decide_false, decide_true, Bool.or_false, Bool.false_or])
local macro_rules | `(tactic| walk_at "st") => `(tactic| try simp only [List.append_assoc, List.cons_append, List.nil_append, List.length_append, List.length_cons, List.length_nil, Nat.reduceAdd, Nat.add_assoc])
def fileD (x : Nat × (List Int × Int)) : D := .tup [.ref x.1, .int x.2.2]
def goneD (x : Int × Bool) : D := .tup [.int x.1, .bl x.2]
structure RunC (st s : Store) (f p g c : Nat) (ks : List (Nat × (List Int × Int))) (r : RS) : Prop where
  ext : Ext st s
  old : ks.map (·.2) = r.old
  hk : ∀ x ∈ ks, s[x.1]? = some (.lst (x.2.1.map .int)) ∧ x.1 ≠ f ∧ x.1 ≠ p ∧ x.1 ≠ g ∧ x.1 ≠ c
  hf : s[f]? = some (.lst (ks.map fileD ++ [.tup [.ref c, .int r.beg]]))
  hp : s[p]? = some (.lst (r.places.map .int))
  hg : s[g]? = some (.lst (r.gone.map goneD))
  hc : s[c]? = some (.lst (r.cur.map .int))
  lf : st.length ≤ f
  lp : st.length ≤ p
  lg : st.length ≤ g
  lc : st.length ≤ c
  fp : f ≠ p
  fg : f ≠ g
  fc : f ≠ c
  pg : p ≠ g
  pc : p ≠ c
  gc : g ≠ c
section
variable {st s : Store} {f p g c : Nat} {ks : List (Nat × (List Int × Int))} {r : RS}
theorem RunC.look (h : RunC st s f p g c ks r) (i : Int) : RunC st s f p g c ks { r with here := i } := ⟨h.ext, h.old, h.hk, h.hf, h.hp, h.hg, h.hc, h.lf, h.lp, h.lg, h.lc, h.fp, h.fg, h.fc, h.pg, h.pc, h.gc⟩
theorem RunC.turn (h : RunC st s f p g c ks r) (z : D) : RunC st (s ++ [.lst [], z, .lst (ks.map fileD ++ [.tup [.ref c, .int r.beg]] ++ [.tup [.ref s.length, .int r.here]])]) (s.length + 2) p g s.length (ks ++ [(c, (r.cur, r.beg))]) r.turn := by
  have l1 := up_lt h.hp
  have l2 := up_lt h.hg
  have l3 := up_lt h.hc
  have l4 := h.ext.le
  refine ⟨h.ext.app _, by rw [List.map_append, h.old]; rfl, fun x hx => ?_, ?_, up_app h.hp _, up_app h.hg _, up_new _, by omega, h.lp, h.lg, l4, by omega, by omega, by omega, h.pg, by omega, by omega⟩
  · rcases List.mem_append.mp hx with q | q
    · obtain ⟨e, _, n2, n3, _⟩ := h.hk x q
      have := up_lt e
      exact ⟨up_app e _, by omega, n2, n3, by omega⟩
    · rw [List.mem_singleton.mp q]
      exact ⟨up_app h.hc _, by show c ≠ _; omega, Ne.symm h.pc, Ne.symm h.gc, by show c ≠ _; omega⟩
  · rw [List.getElem?_append_right (by omega), show s.length + 2 - s.length = 2 by omega, List.map_append]
    rfl
theorem RunC.drop {k : Nat} {fl : List Int × Int} {o : List (List Int × Int)} {kt : List (Nat × (List Int × Int))} (h : RunC st s f p g c ks r) (e : r.old = fl :: o) (ek : ks = (k, fl) :: kt) :
    RunC st ((s.set f (.lst (kt.map fileD ++ [.tup [.ref c, .int r.beg]]))).set g (.lst (r.gone.map goneD ++ (RS.lost r.places r.here fl).map goneD))) f p g c kt (r.drop fl o) := by
  subst ek
  refine ⟨(h.ext.set h.lf).set h.lg, ?_, fun x hx => ?_, up_ne h.fg (up_eq h.hf), up_ne h.pg (up_ne (Ne.symm h.fp) h.hp), by rw [up_eq (up_ne (Ne.symm h.fg) h.hg)]; show _ = some (D.lst (List.map goneD (_ ++ _))); rw [List.map_append], up_ne (Ne.symm h.gc) (up_ne (Ne.symm h.fc) h.hc), h.lf, h.lp, h.lg, h.lc, h.fp, h.fg, h.fc, h.pg, h.pc, h.gc⟩
  · have := h.old
    rw [e, List.map_cons] at this
    exact (List.cons.inj this).2
  · obtain ⟨e, n1, n2, n3, n4⟩ := h.hk x (List.mem_cons_of_mem _ hx)
    exact ⟨up_ne n3 (up_ne n1 e), n1, n2, n3, n4⟩
theorem RunC.add (h : RunC st s f p g c ks r) (l : Int) : RunC st ((s.set c (.lst (r.cur.map .int ++ [.int r.places.length]))).set p (.lst (r.places.map .int ++ [.int r.here]))) f p g c ks (r.add l) := by
  refine ⟨(h.ext.set h.lc).set h.lp, h.old, fun x hx => ?_, up_ne h.fp (up_ne h.fc h.hf), ?_, up_ne (Ne.symm h.pg) (up_ne h.gc h.hg), ?_, h.lf, h.lp, h.lg, h.lc, h.fp, h.fg, h.fc, h.pg, h.pc, h.gc⟩
  · obtain ⟨e, n1, n2, n3, n4⟩ := h.hk x hx
    exact ⟨up_ne n2 (up_ne n4 e), n1, n2, n3, n4⟩
  · rw [up_eq (up_ne h.pc h.hp)]
    show _ = some (D.lst (List.map _ (_ ++ _)))
    rw [List.map_append]; rfl
  · rw [up_ne (Ne.symm h.pc) (up_eq h.hc)]
    show _ = some (D.lst (List.map _ (_ ++ _)))
    rw [List.map_append]; rfl
end
theorem filter_yes {α : Type} (xs : List α) : xs.filter (fun _ => true) = xs := List.filter_eq_self.mpr fun _ _ => rfl
end My

namespace My
open PySem PySem.Spec PyProof.Rows L2
structure RP (n k : Nat) (d : D) (p : PyData) : Prop where
  py : d.py = some p
  tr : d.blw 0 = true
  tx : Tx n k p
  lay : p.canLay0 = true
theorem RP.mono {n m k l : Nat} {d : D} {p : PyData} (h : RP n k d p) (h1 : n ≤ m) (h2 : k ≤ l) : RP m l d p := ⟨h.py, h.tr, h.tx.mono h1 h2, h.lay⟩
theorem RP.int {i : Int} (n : Nat) (h : i.natAbs < 10 ^ n) (h0 : 0 < n := by decide) (h1 : n ≤ 500 := by decide) : RP (n + 1) 0 (.int i) (.int i) := ⟨by simp only [D.py], blw_int, Tx.int h0 h1 h, rfl⟩
theorem RP.bl {b : Bool} : RP 5 0 (.bl b) (.bool b) := ⟨by simp only [D.py], blw_bl, Tx.bool, rfl⟩
theorem RP.non : RP 4 0 .non .none := ⟨by simp only [D.py], blw_non, Tx.none, rfl⟩
theorem lays_all : ∀ {ps : List PyData}, (∀ p ∈ ps, p.canLay0 = true) → PyData.canLayAll0 ps = true
  | [], _ => rfl
  | p :: ps, h => by
    simp only [PyData.canLayAll0, Bool.and_eq_true]
    exact ⟨h p List.mem_cons_self, lays_all fun q hq => h q (List.mem_cons_of_mem _ hq)⟩
theorem pys_map {α : Type} {f : α → D} {g : α → PyData} : ∀ {xs : List α}, (∀ x ∈ xs, (f x).py = some (g x)) → D.pys (xs.map f) = some (xs.map g)
  | [], _ => by simp only [List.map_nil, D.pys]
  | x :: xs, h => by simp only [List.map_cons, D.pys, h x List.mem_cons_self, pys_map fun y hy => h y (List.mem_cons_of_mem _ hy), Option.map_some]
theorem RP.lstM {α : Type} {f : α → D} {g : α → PyData} {xs : List α} {n k m : Nat} (h : ∀ x ∈ xs, RP n k (f x) (g x)) (hm : xs.length ≤ m) : RP (m * (n + 2) + 2) (k + 1) (.lst (xs.map f)) (.list (xs.map g)) := by
  refine ⟨by simp only [D.py, pys_map fun x hx => (h x hx).py, Option.map_some], blw_lst (blws_all fun d hd => ?_), Tx.list (fun d hd => ?_) (by rw [List.length_map]; exact hm), by
    simp only [PyData.canLay0]
    refine lays_all fun p hp => ?_
    obtain ⟨x, hx, rfl⟩ := List.mem_map.mp hp
    exact (h x hx).lay⟩
  · obtain ⟨x, hx, rfl⟩ := List.mem_map.mp hd
    exact (h x hx).tr
  · obtain ⟨x, hx, rfl⟩ := List.mem_map.mp hd
    exact (h x hx).tx
theorem RP.tupM {α : Type} {f : α → D} {g : α → PyData} {xs : List α} {n k m : Nat} (h : ∀ x ∈ xs, RP n k (f x) (g x)) (hm : xs.length ≤ m) : RP (m * (n + 2) + 3) (k + 1) (.tup (xs.map f)) (.tuple (xs.map g)) := by
  refine ⟨by simp only [D.py, pys_map fun x hx => (h x hx).py, Option.map_some], blw_tup (blws_all fun d hd => ?_), Tx.tuple (fun d hd => ?_) (by rw [List.length_map]; exact hm), by
    simp only [PyData.canLay0]
    refine lays_all fun p hp => ?_
    obtain ⟨x, hx, rfl⟩ := List.mem_map.mp hp
    exact (h x hx).lay⟩
  · obtain ⟨x, hx, rfl⟩ := List.mem_map.mp hd
    exact (h x hx).tr
  · obtain ⟨x, hx, rfl⟩ := List.mem_map.mp hd
    exact (h x hx).tx
theorem RP.ev {e : Ev} {ls : List Int} (h : Ev.ok ls e) (hl : ∀ l ∈ ls, 1 ≤ l ∧ l ≤ 100) : RP 62 0 e.D e.d := by
  refine ⟨?_, by cases e <;> simp only [Ev.D, D.blw], Ev.tx h hl, by cases e <;> first | rfl | decide +kernel⟩
  cases e <;> simp only [Ev.D, D.py, Ev.d]
inductive RPs (n k : Nat) : List D → List PyData → Prop
  | nil : RPs n k [] []
  | cons {d : D} {p : PyData} {ds : List D} {ps : List PyData} : RP n k d p → RPs n k ds ps → RPs n k (d :: ds) (p :: ps)
theorem RPs.py {n k : Nat} : ∀ {ds : List D} {ps : List PyData}, RPs n k ds ps → D.pys ds = some ps ∧ D.blws 0 ds = true ∧ (∀ p ∈ ps, Tx n k p) ∧ ps.length = ds.length ∧ PyData.canLayAll0 ps = true
  | _, _, .nil => ⟨by simp only [D.pys], blws_nil, fun _ h => absurd h (by simp), rfl, rfl⟩
  | _, _, .cons h t => by
    obtain ⟨h1, h2, h3, h4, h5⟩ := RPs.py t
    exact ⟨by simp only [D.pys, h.py, h1, Option.map_some], blws_cons h.tr h2, fun q hq => (List.mem_cons.mp hq).elim (fun e => e ▸ h.tx) (h3 q), by simp [h4], by simp only [PyData.canLayAll0, h.lay, h5, Bool.and_self]⟩
theorem RPs.lst {n k : Nat} {ds : List D} {ps : List PyData} (h : RPs n k ds ps) : RP (ds.length * (n + 2) + 2) (k + 1) (.lst ds) (.list ps) := by
  obtain ⟨h1, h2, h3, h4, h5⟩ := h.py
  exact ⟨by simp only [D.py, h1, Option.map_some], blw_lst h2, Tx.list h3 (Nat.le_of_eq h4), by simp only [PyData.canLay0]; exact h5⟩
theorem RPs.tup {n k : Nat} {ds : List D} {ps : List PyData} (h : RPs n k ds ps) : RP (ds.length * (n + 2) + 3) (k + 1) (.tup ds) (.tuple ps) := by
  obtain ⟨h1, h2, h3, h4, h5⟩ := h.py
  exact ⟨by simp only [D.py, h1, Option.map_some], blw_tup h2, Tx.tuple h3 (Nat.le_of_eq h4), by simp only [PyData.canLay0]; exact h5⟩
theorem view_tree {st : Store} {d : D} (h : d.blw 0 = true) : view st d = some d := fz_blw (n := 0) (fun i hi => absurd hi (Nat.not_lt_zero _)) d h
theorem ev_repr {n k : Nat} {d : D} {p : PyData} {st : Store} {Q : D → Store → Prop} (h : RP n k d p) (hn : n ≤ 16777216) (hk : k ≤ 60) (q : Q (.str p.shown) st) : EvF fRepr [d] st Q := by
  refine ⟨.str p.shown, st, ?_, q⟩
  have t := h.tx.mono hn hk
  simp only [fRepr, ro, pyOf, view_tree h.tr, Option.bind_some, h.py]
  rw [if_pos t]
  rfl
theorem RP.shaped {n k : Nat} {d : D} {p : PyData} (h : RP n k d p) (hk : k ≤ 64) : SeqAt.shaped p = true := by
  unfold SeqAt.shaped
  rw [h.lay, Bool.true_and, decide_eq_true_eq]
  exact Nat.le_trans h.tx.dp hk
theorem RP.refl {n k : Nat} {d : D} {p : PyData} (h : RP n k d p) : PyData.eqv p p = true := SeqAt.eqv_refl p h.lay
theorem RP.ints {ns : List Int} (n m : Nat) (h : ∀ i ∈ ns, i.natAbs < 10 ^ n) (hm : ns.length ≤ m) (h0 : 0 < n := by decide) (h1 : n ≤ 500 := by decide) : RP (m * (n + 1 + 2) + 3) 1 (.tup (ns.map .int)) (.tuple (ns.map .int)) := RP.tupM (fun i hi => RP.int n (h i hi) h0 h1) hm
end My

namespace My
open PySem PySem.Spec PyProof.Rows L2
local macro_rules | `(tactic| walk_at "ev") => `(tactic| try simp only [ev_var, ev_c, ev_un, ev_op, ev_nil, ev_cons, ev_call, ev_callD, ev_callN, ev_callK, ev_opM, ev_lcM, ev_tup, ev_lst, ev_lstM, ev_dkM, ev_dtM, ev_bE, ev_bAnd, ev_bOr, ev_bNot, ev_bYes, ev_eAnd, ev_eOr, ev_eNot, ev_if, ev_chain, ev_oNone, ev_oSome, ev_sl, ev_bm, ev_skip, ev_brk, ev_cnt, ev_seq, then_nx, then_rt, then_bk, then_ct, ev_set, ev_asg, ev_par, ev_par3, ev_ret, ev_drop, ev_sIf, ev_aug, ev_sub, ev_seqI, ev_fld, ev_fldM, ev_meth, ev_new, ev_newK, ev_enum, ev_zip, ev_range1, ev_range2, ev_for, ev_lc, enter, gNm, gsNil, gsCons, gTp, wipeE,
  List.map_cons, List.map_nil, List.length_cons, List.length_nil, List.replicate, List.cons_append, List.nil_append, List.append_nil, List.getElem?_cons_zero, List.getElem?_cons_succ, List.set_cons_zero, List.set_cons_succ, Option.some.injEq, exists_eq_left', exists_eq_left, D.bl.injEq, D.int.injEq, D.str.injEq, D.tup.injEq, D.lst.injEq, D.ref.injEq, decide_eq_true_eq, List.cons.injEq, and_true, true_and, if_true, if_false, reduceCtorEq, Bool.false_eq_true, ite_true, ite_false, Nat.sub_self, Nat.reduceAdd, Nat.reduceSub, Nat.zero_add, exists_and_left, exists_const, Bool.not_true, Bool.not_false, Bool.not_eq_true', exists_eq_right, and_assoc, List.length_set, exists_eq_right',
  add_int, addI_int, sub_int, neg_int, lt_int, le_int, gt_int, ge_int, eq_int, ne_int, eq_str, ne_str, eq_bl, ne_bl, eq_is, eq_si, ne_is, ne_si, is_nn, ix_tup, ix_lst, ix_scr, at_0, at_1, at_2, at_3, len_tup, len_lst, len_scr, outF, outK, ev_len_tup, ev_len_lst, ev_len_scr, ev_abs, ev_int, ev_intb, ev_max2, ev_min2, ev_tuple_lst, ev_tuple_tup, ev_list_lst, ev_list_tup, sz0, sz1, sz2, sz3, sz4, sz5, sz6, sz7, sz8, sz9, sz10, sz11, sz12, s_rl, s_lr, atI_last, decide_false, decide_true, Bool.or_false, Bool.false_or])
local macro_rules | `(tactic| walk_at "st") => `(tactic| try simp only [List.append_assoc, List.cons_append, List.nil_append, List.length_append, List.length_cons, List.length_nil, Nat.reduceAdd, Nat.add_assoc])
theorem intsTo_at {n i : Nat} (h : i < n) {h2 : i < (intsTo 0 n).length} : (intsTo 0 n)[i] = .int (i : Int) := by
  simp [intsTo]
theorem all_lc {EL : EM} {i : Nat} {ds : List D} {gd : Store → Prop} {env : Env} {st : Store} {Q : D → Store → Prop} (I : Nat → Store → Prop) (hz : ds.length ≤ sizeLine) (hg : ∀ s, gd s) (h0 : I 0 st)
    (step : ∀ j (hj : j < ds.length) s, I j s → EvE EL (env.set i (some ds[j])) s fun y s' => y = .bl true ∧ I (j + 1) s') (k : ∀ s, I ds.length s → Q (.bl true) s) :
    EvL (lcGo gd (gNm i) bYes EL env ds st) fun ys s2 => ys.length ≤ sizeLine ∧ EvF fAll [.lst ys] s2 Q := by
  refine lc_inv (fun j ys s => ys = (List.replicate j true).map D.bl ∧ I j s) ⟨rfl, h0⟩ (fun _ _ s _ _ => hg s) ?_ ?_
  · rintro j hj ys s ⟨rfl, h⟩
    refine ⟨_, rfl, ?_⟩
    rw [ev_bYes, if_pos rfl]
    refine EvE.mono (step j hj s h) fun y s' ⟨e, h'⟩ => ⟨?_, h'⟩
    rw [e, List.replicate_succ', List.map_append]
    rfl
  · rintro ys s ⟨rfl, h⟩
    refine ⟨by simpa using hz, ?_⟩
    rw [ev_all, all_true]
    exact k s h
def HeadI (ns : List Int) (_ : Nat) (env : Env) (_ : Store) : Prop := ∃ x1 x2 x3, env = [some (.scr ns), x1, x2, x3]
theorem ev_headA {EL : EM} {ns : List Int} {m : Int} {R : Nat} {QS : Out → Store → Prop} (hl : ns.length ≤ 63) (m0 : 0 ≤ m) (m1 : m ≤ 100) (hR : R ≤ 2 ^ 30)
    (right : ∀ (x1 x3 : D) (st : Store) (b : Nat) (c : D) (n : Nat), st[b]? = some c → BoxC n c → n + R < 2 ^ 39 → EvE EL [some (.scr ns), some x1, some (.ref b), some x3] st fun y s => y = .bl true ∧ ∃ c', BoxC (n + R) c' ∧ s = st.set b c')
    (done : ∀ x1 x2 x3 st, QS (.nx [some (.scr ns), x1, x2, x3]) st) :
    EvS (sFor (iRange1 (eCall fMax (aCons (eC (.int 1)) (aCons (eCall fMin (aCons (eC (.int 3)) (aCons (eCall fLen (aCons (eVar 0) aNil)) aNil))) aNil)))) (gNm 1) (sSeq (sSet 2 (eCallD 2 mf_Lbox [] (aCons (eVar 0) (aCons (eVar 1) aNil)))) (sIf (bNot (bE (eCall fAll (aCons (eLc (iRange1 (eC (.int m))) (gNm 3) bYes EL [3]) aNil)))) (sRet (eC (.bl false))) sSkip))) [some (.scr ns), none, none, none] [] QS := by
  walk_at "ev"
  generalize er : (if (if (ns.length : Int) < 3 then (ns.length : Int) else 3) > 1 then (if (ns.length : Int) < 3 then (ns.length : Int) else 3) else 1) = r
  have hr : 1 ≤ r ∧ r ≤ 3 := by
    subst er
    constructor <;> (repeat' split) <;> omega
  clear er
  refine ⟨by omega, by omega, ?_⟩
  refine for_inv (HeadI ns) ⟨none, none, none, rfl⟩ (fun _ _ _ _ _ => trivial) ?_ ?_
  · rintro i hi env s ⟨x1, x2, x3, rfl⟩
    rw [intsTo_len] at hi
    refine ⟨_, rfl, ?_⟩
    rw [intsTo_at (by omega)]
    walk_at "ev"
    refine ev_box hl (by omega) (by omega) fun c hc => ?_
    walk_at "ev"
    refine ⟨by omega, by omega, ?_⟩
    have hlen : (intsTo 0 m.toNat).length = m.toNat := intsTo_len
    refine all_lc (I := fun j s' => ∃ c', BoxC (j * R) c' ∧ s' = s ++ [c']) (Nat.le_trans (Nat.le_of_eq hlen) (Nat.le_trans (show m.toNat ≤ 100 by omega) (by decide))) (fun _ => trivial) ⟨c, hc.mono (Nat.zero_le _), rfl⟩ ?_ ?_
    · rintro j hj s' ⟨c', hc', rfl⟩
      have hj2 : j < 100 := by omega
      have hR2 : j * R ≤ 100 * 2 ^ 30 := Nat.mul_le_mul (by omega) hR
      walk_at "ev"
      refine EvE.mono (right _ _ (s ++ [c']) s.length c' (j * R) (up_new _) hc' (by omega)) fun y s2 ⟨h1, c2, h2, h3⟩ => ⟨h1, c2, ?_, ?_⟩
      · rw [Nat.succ_mul]; exact h2
      · rw [h3, put_n0]
    · rintro s' ⟨c', hc', rfl⟩
      walk_at "ev"
      exact ⟨_, _, _, rfl⟩
  · rintro env s ⟨x1, x2, x3, rfl⟩
    exact done _ _ _ _
end My

namespace My
open PySem PySem.Spec PyProof.Rows L2
local macro_rules | `(tactic| walk_at "ev") => `(tactic| try simp only [ev_var, ev_c, ev_un, ev_op, ev_nil, ev_cons, ev_call, ev_callD, ev_callN, ev_callK, ev_opM, ev_lcM, ev_tup, ev_lst, ev_lstM, ev_dkM, ev_dtM, ev_bE, ev_bAnd, ev_bOr, ev_bNot, ev_bYes, ev_eAnd, ev_eOr, ev_eNot, ev_if, ev_chain, ev_oNone, ev_oSome, ev_sl, ev_bm, ev_skip, ev_brk, ev_cnt, ev_seq, then_nx, then_rt, then_bk, then_ct, ev_set, ev_asg, ev_par, ev_par3, ev_ret, ev_drop, ev_sIf, ev_aug, ev_sub, ev_seqI, ev_fld, ev_fldM, ev_meth, ev_new, ev_newK, ev_enum, ev_zip, ev_range1, ev_range2, ev_for, ev_lc, enter, gNm, gsNil, gsCons, gTp, wipeE,
  List.map_cons, List.map_nil, List.length_cons, List.length_nil, List.replicate, List.cons_append, List.nil_append, List.append_nil, List.getElem?_cons_zero, List.getElem?_cons_succ, List.set_cons_zero, List.set_cons_succ, Option.some.injEq, exists_eq_left', exists_eq_left, D.bl.injEq, D.int.injEq, D.str.injEq, D.tup.injEq, D.lst.injEq, D.ref.injEq, decide_eq_true_eq, List.cons.injEq, and_true, true_and, if_true, if_false, reduceCtorEq, Bool.false_eq_true, ite_true, ite_false, Nat.sub_self, Nat.reduceAdd, Nat.reduceSub, Nat.zero_add, exists_and_left, exists_const, Bool.not_true, Bool.not_false, Bool.not_eq_true', exists_eq_right, and_assoc, List.length_set, exists_eq_right',
  add_int, addI_int, sub_int, neg_int, lt_int, le_int, gt_int, ge_int, eq_int, ne_int, eq_str, ne_str, eq_bl, ne_bl, eq_is, eq_si, ne_is, ne_si, is_nn, ix_tup, ix_lst, ix_scr, at_0, at_1, at_2, at_3, len_tup, len_lst, len_scr, outF, outK, ev_len_tup, ev_len_lst, ev_len_scr, ev_abs, ev_int, ev_intb, ev_max2, ev_min2, ev_tuple_lst, ev_tuple_tup, ev_list_lst, ev_list_tup, sz0, sz1, sz2, sz3, sz4, sz5, sz6, sz7, sz8, sz9, sz10, sz11, sz12, s_rl, s_lr, atI_last, decide_false, decide_true, Bool.or_false, Bool.false_or])
local macro_rules | `(tactic| walk_at "st") => `(tactic| try simp only [List.append_assoc, List.cons_append, List.nil_append, List.length_append, List.length_cons, List.length_nil, Nat.reduceAdd, Nat.add_assoc])
noncomputable def mb_is_integer : SM :=
(sRet (eAnd (eCall fIsi (aCons (eVar 0) (aCons (eC (.ty "int")) aNil))) (eAnd (eNot (eCall fIsi (aCons (eVar 0) (aCons (eC (.ty "bool")) aNil)))) (eChain dLe dLe (eVar 1) (eVar 0) (eVar 2)))))
noncomputable def mf_is_integer : FM := mkF 3 mb_is_integer

theorem isi_ii0 {i : Int} {s : Store} : fIsi [.int i, .ty "int"] s = some (.bl true, s) := rfl
theorem isi_ib0 {i : Int} {s : Store} : fIsi [.int i, .ty "bool"] s = some (.bl false, s) := rfl
theorem ev_is_integer {s : Store} {v lo hi : Int} {Q : D → Store → Prop} (k : Q (.bl (decide (lo ≤ v) && decide (v ≤ hi))) s) : EvF mf_is_integer [.int v, .int lo, .int hi] s Q := by
  rw [mf_is_integer, ev_mkF]
  unfold mb_is_integer
  walk_at "ev"
  refine EvF_of isi_ii0 ?_
  refine ⟨_, rfl, ?_⟩
  rw [if_pos rfl]
  refine EvF_of isi_ib0 ⟨_, rfl, ?_⟩
  rw [if_pos rfl]
  have fin2 : ∀ b : Bool, Q (.bl b) s → EvF (fun _ s2 => fin s (.bl b) s2) [] s Q := fun b q => fin_tree blw_bl (closeOk_refl s) (by rw [List.take_length]; exact q)
  by_cases h : lo ≤ v
  · rw [if_pos h]
    refine fin2 _ ?_
    rw [decide_eq_true h, Bool.true_and] at k
    exact k
  · rw [if_neg h]
    refine fin2 _ ?_
    rw [decide_eq_false h, Bool.false_and] at k
    exact k
end My

namespace My
open PySem L2

def Reach (ls : List Int) (x t : Int) : Prop := ∃ zs : List Int, (∀ z ∈ zs, z ∈ ls) ∧ t = x + zs.sum
theorem Reach.self {ls : List Int} {x : Int} : Reach ls x x := ⟨[], fun _ h => absurd h (by simp), by simp⟩
theorem Reach.add {ls : List Int} {x t l : Int} (h : Reach ls x t) (hl : l ∈ ls) : Reach ls x (t + l) := by
  obtain ⟨zs, h1, rfl⟩ := h
  refine ⟨l :: zs, fun z hz => ?_, by rw [List.sum_cons]; omega⟩
  rcases List.mem_cons.mp hz with rfl | hz
  · exact hl
  · exact h1 z hz
def ov : Option Int → V
  | some i => .int i
  | none => .non
def put {α : Type} (g : Nat → α) (k : Nat) (v : α) : Nat → α := fun i => if i = k then v else g i
def Totals (S : Int) (ls : List Int) (x y : Int) (ts : List Int) : Prop := ts.Pairwise (· < ·) ∧ ∀ t, t ∈ ts ↔ (S - y < t ∧ t ≤ S ∧ Reach ls x t)
theorem turn_there {S : Int} {ls : List Int} {x y : Int} (hx : x ≤ S) (hy : y ∈ ls) (y1 : 1 ≤ y) : ∃ t, S - y < t ∧ t ≤ S ∧ Reach ls x t := by
  have : ∀ n : Nat, ∀ t : Int, (S - t).toNat = n → t ≤ S → Reach ls x t → ∃ t, S - y < t ∧ t ≤ S ∧ Reach ls x t := by
    intro n
    induction n using Nat.strongRecOn with
    | _ n ih =>
      intro t e ht h
      by_cases q : S - y < t
      · exact ⟨t, q, ht, h⟩
      · exact ih (S - (t + y)).toNat (by omega) (t + y) rfl (by omega) (h.add hy)
  exact this _ x rfl hx Reach.self
theorem Totals.ne {S x y : Int} {ls ts : List Int} (h : Totals S ls x y ts) (hx : x ≤ S) (hy : y ∈ ls) (y1 : 1 ≤ y) : ts ≠ [] := by
  obtain ⟨t, h1, h2, h3⟩ := turn_there hx hy y1
  exact List.ne_nil_of_mem ((h.2 t).mpr ⟨h1, h2, h3⟩)
structure Least (S : Int) (ls : List Int) (x y c : Int) : Prop where
  lo : S - y < c
  hi : c ≤ S
  re : Reach ls x c
  le : ∀ t, S - y < t → t ≤ S → Reach ls x t → c ≤ t
structure Greatest (S : Int) (ls : List Int) (x y c : Int) : Prop where
  lo : S - y < c
  hi : c ≤ S
  re : Reach ls x c
  le : ∀ t, S - y < t → t ≤ S → Reach ls x t → t ≤ c
theorem Totals.first {S x y : Int} {ls ts : List Int} (h : Totals S ls x y ts) (n : ts ≠ []) : ∃ c, atI (ts.map V.int) 0 = some (.int c) ∧ Least S ls x y c ∧ ts[0]? = some c := by
  cases ts with
  | nil => exact absurd rfl n
  | cons c ts =>
    obtain ⟨a1, a2, a3⟩ := (h.2 c).mp List.mem_cons_self
    refine ⟨c, atI_nat (j := 0) rfl, ⟨a1, a2, a3, fun t b1 b2 b3 => ?_⟩, rfl⟩
    rcases List.mem_cons.mp ((h.2 t).mpr ⟨b1, b2, b3⟩) with rfl | e
    · exact Int.le_refl _
    · exact Int.le_of_lt ((List.pairwise_cons.mp h.1).1 t e)
def RowsAt (H : Hp) : List V → List (List Int) → Prop := Paired fun v r => ∃ a, v = .ref a ∧ H a = some (.tup (r.map V.int))
theorem RowsAt.same {H H' : Hp} {vs : List V} {rs : List (List Int)} (h : RowsAt H vs rs) (s : Same H H') : RowsAt H' vs rs :=
  Paired.mapP h fun v r ⟨a, e, h1⟩ => ⟨a, e, s _ _ h1⟩
theorem Paired.snoc {α β : Type} {R : α → β → Prop} : ∀ {xs : List α} {ys : List β} {x : α} {y : β}, Paired R xs ys → R x y → Paired R (xs ++ [x]) (ys ++ [y])
  | _, _, _, _, .nil, r => .cons r .nil
  | _, _, _, _, .cons q t, r => .cons q (Paired.snoc t r)
theorem RowsAt.dp {K : PySem.W.Frag} {H : Hp} : ∀ {vs : List V} {rs : List (List Int)}, RowsAt H vs rs → DpAll K H vs (rs.map fun r => .tuple (r.map PyData.int))
  | _, _, .nil => .nil
  | _, _, .cons ⟨a, e, h⟩ t => by
    subst e
    exact .cons (.tup (SqT.of h) (dp_ints _)) (RowsAt.dp t)
end My

namespace My
open PySem PySem.Spec PyProof.Rows L2
local macro_rules | `(tactic| walk_at "ev") => `(tactic| try simp only [ev_var, ev_c, ev_un, ev_op, ev_nil, ev_cons, ev_call, ev_callD, ev_callN, ev_callK, ev_opM, ev_lcM, ev_tup, ev_lst, ev_lstM, ev_dkM, ev_dtM, ev_bE, ev_bAnd, ev_bOr, ev_bNot, ev_bYes, ev_eAnd, ev_eOr, ev_eNot, ev_if, ev_chain, ev_oNone, ev_oSome, ev_sl, ev_bm, ev_skip, ev_brk, ev_cnt, ev_seq, then_nx, then_rt, then_bk, then_ct, ev_set, ev_asg, ev_par, ev_par3, ev_ret, ev_drop, ev_sIf, ev_aug, ev_sub, ev_seqI, ev_fld, ev_fldM, ev_meth, ev_new, ev_newK, ev_enum, ev_zip, ev_range1, ev_range2, ev_for, ev_lc, enter, gNm, gsNil, gsCons, gTp, wipeE,
  List.map_cons, List.map_nil, List.length_cons, List.length_nil, List.replicate, List.cons_append, List.nil_append, List.append_nil, List.getElem?_cons_zero, List.getElem?_cons_succ, List.set_cons_zero, List.set_cons_succ, Option.some.injEq, exists_eq_left', exists_eq_left, D.bl.injEq, D.int.injEq, D.str.injEq, D.tup.injEq, D.lst.injEq, D.ref.injEq, decide_eq_true_eq, List.cons.injEq, and_true, true_and, if_true, if_false, reduceCtorEq, Bool.false_eq_true, ite_true, ite_false, Nat.sub_self, Nat.reduceAdd, Nat.reduceSub, Nat.zero_add, exists_and_left, exists_const, Bool.not_true, Bool.not_false, Bool.not_eq_true', exists_eq_right, and_assoc, List.length_set, exists_eq_right',
  add_int, addI_int, sub_int, neg_int, lt_int, le_int, gt_int, ge_int, eq_int, ne_int, eq_str, ne_str, eq_bl, ne_bl, eq_is, eq_si, ne_is, ne_si, is_nn, ix_tup, ix_lst, ix_scr, at_0, at_1, at_2, at_3, len_tup, len_lst, len_scr, outF, outK, ev_len_tup, ev_len_lst, ev_len_scr, ev_abs, ev_int, ev_intb, ev_max2, ev_min2, ev_tuple_lst, ev_tuple_tup, ev_list_lst, ev_list_tup, sz0, sz1, sz2, sz3, sz4, sz5, sz6, sz7, sz8, sz9, sz10, sz11, sz12, s_rl, s_lr, atI_last, decide_false, decide_true, Bool.or_false, Bool.false_or])
local macro_rules | `(tactic| walk_at "st") => `(tactic| try simp only [List.append_assoc, List.cons_append, List.nil_append, List.length_append, List.length_cons, List.length_nil, Nat.reduceAdd, Nat.add_assoc])
def bookD (S : Int) (ls : List Int) : D := .tup [.int S, .tup (ls.map .int)]
end My

namespace My
open PySem PySem.Spec PyProof.Rows L2
def sStuck : SM := fun _ _ => none
theorem js_stuck {X : Cx} {W : Wd} {a : Stmt} : PS X a (TSt W sStuck) := ⟨fun pins s σ H D I ⟨ι, st, env, o, st', r, n, e, k⟩ => by cases e⟩
theorem ev_stuck {env : Env} {st : Store} {QS : Out → Store → Prop} : EvS sStuck env st QS ↔ False := by
  constructor
  · rintro ⟨o, s, e, _⟩
    cases e
  · intro h
    cases h
noncomputable def eSlM (mx : EM) (ml mh : OM) : EM := fun env st => match mx env st with
  | some (x, s1) => match ml env s1 with
    | some (lo, s2) => match mh env s2 with
      | some (hi, s3) => match seqL s3 x with
        | some xs => some (.ref s3.length, s3 ++ [.lst (cutD xs lo hi)])
        | none => none
      | none => none
    | none => none
  | none => none
section
variable {X : Cx} {W : Wd}
end
section
variable {env : Env} {st : Store} {Q : D → Store → Prop}
theorem ev_slM {mx : EM} {ml mh : OM} : EvE (eSlM mx ml mh) env st Q ↔ EvE mx env st fun x s1 => ∃ lo s2, ml env s1 = some (lo, s2) ∧ ∃ hi s3, mh env s2 = some (hi, s3) ∧ ∃ xs, seqL s3 x = some xs ∧ Q (.ref s3.length) (s3 ++ [.lst (cutD xs lo hi)]) := by
  unfold EvE eSlM
  constructor
  · rintro ⟨d, s, e, q⟩
    split at e
    · rename_i x s1 h1
      split at e
      · rename_i lo s2 h2
        split at e
        · rename_i hi s3 h3
          split at e
          · rename_i xs h4
            cases e
            exact ⟨_, _, h1, _, _, h2, _, _, h3, _, h4, q⟩
          · cases e
        · cases e
      · cases e
    · cases e
  · rintro ⟨x, s1, h1, lo, s2, h2, hi, s3, h3, xs, h4, q⟩
    exact ⟨_, _, by rw [h1]; simp only [h2, h3, h4], q⟩
end
structure LcSt (W : Wd) (ι1 : Lay) (H1 : Hp) (L : Addr) (ι2 : Lay) (H : Hp) (s : Store) (acc : List D) (vacc : List V) : Prop where
  g2 : Grow ι1 H1 ι2 H
  gg : Gro ι1 H1 (ι2.hide L) H
  r2 : RelH W (ι2.hide L) H s
  hL : H L = some (.lst vacc)
  ha : Reps W (ι2.hide L) H acc vacc
section
variable {W : Wd} {ι1 ι2 ι4 : Lay} {H1 H H4 : Hp} {L : Addr} {s s4 : Store} {acc : List D} {vacc : List V}
theorem Gro.grow {ι ι' ι'' : Lay} {H H' H'' : Hp} (a : Gro ι H ι' H') (b : Grow ι' H' ι'' H'') : Gro ι H ι'' H'' :=
  ⟨fun i x h => b.pre i x (a.pre i x h), fun x o nn h => b.gro.keep x o (nn.imp (fun nn => a.notin x o nn h) id) (a.keep x o nn h), fun x o nn h => b.gro.notin x o (a.notin x o nn h) (a.keep x o (.inl nn) h)⟩
theorem LcSt.out (h : LcSt W ι1 H1 L ι2 H s acc vacc) : L ∉ (ι2.hide L).c := fun z => h.r2.dis L z List.mem_cons_self
theorem LcSt.move (h : LcSt W ι1 H1 L ι2 H s acc vacc) (hL1 : H1 L = none) (gg : Grow (ι2.hide L) H ι4 H4) (r4 : RelH W ι4 H4 s4) : ∃ ι5, ι4 = Lay.hide ι5 L ∧ LcSt W ι1 H1 L ι5 H4 s4 acc vacc := by
  have hk5 : ι4.k = L :: ι2.k := gg.hid
  have e5 : ι4 = (Lay.hide ⟨ι4.c, ι2.k⟩ L) := by
    cases ι4
    simp only [Lay.hide]
    exact congrArg _ hk5
  have hL5 : H4 L = some (.lst vacc) := gg.keep _ _ (.inl h.out) h.hL
  have hacc5 := Reps.grow gg _ _ h.ha
  have g2 := h.g2
  have gg3 := h.gg.grow gg
  rw [e5] at r4 hacc5 gg gg3
  refine ⟨⟨ι4.c, ι2.k⟩, e5, ⟨⟨fun i a q => gg.pre i a (g2.pre i a q), fun a o nn q => ?_, fun a m => ?_, g2.hid⟩, gg3, r4, hL5, hacc5⟩⟩
  · exact gg.keep a o (nn.imp (fun nn z => by
      rcases g2.new a z with q' | q'
      · exact nn q'
      · rw [q] at q'; cases q') id) (g2.keep a o nn q)
  · rcases gg.new a m with q | q
    · exact g2.new a q
    · by_cases hc : a ∈ ι1.c
      · exact .inl hc
      · refine .inr ?_
        cases e : H1 a with
        | none => rfl
        | some o => rw [g2.keep a o (.inl hc) e] at q; cases q
theorem LcSt.push (h : LcSt W ι1 H1 L ι2 H s acc vacc) (hL1 : H1 L = none) {y : D} {v : V} (p : Rep W (ι2.hide L) H y v) : LcSt W ι1 H1 L ι2 (upd H L (.lst (vacc ++ [v]))) s (acc ++ [y]) (vacc ++ [v]) :=
  ⟨⟨h.g2.pre, fun a o nn q => kp_set (ne_of_none q hL1) (h.g2.keep a o nn q), h.g2.new, h.g2.hid⟩, ⟨h.gg.pre, fun a o nn q => kp_set (ne_of_none q hL1) (h.gg.keep a o nn q), h.gg.notin⟩,
    h.r2.over List.mem_cons_self h.hL trivial, upd_same, Reps.gro (Gro.over List.mem_cons_self h.hL trivial) _ _ (Reps.append h.ha (Reps.cons p Reps.nil))⟩
end
section
variable {W : Wd}
end
end My

namespace My
open PySem PySem.Spec PyProof.Rows L2
section
variable {X : Cx} {CX : CXT} {k n : Nat} {f : Addr} {fd : FuncData} {ps ks : List Str} {sp : Sp} {E : XK} {x : Str} {p pos : Pos} {kws : List Keyword} {tk : TA} {g : List Value → List Value → List Value} {gV : List V → List V → List V}
end
section
variable {X : Cx} {W : Wd} {k n : Nat} {f : Addr} {fd : FuncData} {ps ks : List Str} {F : FM} {E : XK} {x : Str} {p pos : Pos}
end
end My

namespace My
open PySem PySem.Spec PyProof.Rows L2
section
variable {X : Cx} {W : Wd}
end
section
variable {X : Cx} {CX : CXT} {W : Wd} {k ar n j : Nat} {C f g : Addr} {fd : FuncData} {ps ks : List Str} {m : Str} {sp : Sp} {F : FM} {E : XK} {tf ta : TE} {t tk : TA} {o e fe : Expr} {es : List Expr} {pos apos : Pos} {mo : EM} {am km : AM} {kws : List Keyword} {gg : List Value → List Value → List Value} {gV : List V → List V → List V}
open Classical in
noncomputable def eMethN (cn m : Str) (ar n j : Nat) (F : FM) (g : List D → List D → List D) (mo : EM) (am km : AM) : EM := fun env st => match mo env st with
  | some (o, s1) => match insA s1 o with
    | some (n', fs, _) => if n' = cn ∧ m ∉ fs then match am env s1 with
      | some (xs, s2) => match km env s2 with
        | some (zs, s3) => if xs.length = n ∧ zs.length = j ∧ (g (o :: xs) zs).length = ar then F (g (o :: xs) zs) s3 else none
        | none => none
      | none => none
      else none
    | none => none
  | none => none
end
section
variable {env : Env} {st : Store} {Q : D → Store → Prop}
theorem ev_methN {cn m : Str} {ar n j : Nat} {F : FM} {g : List D → List D → List D} {mo : EM} {am km : AM} : EvE (eMethN cn m ar n j F g mo am km) env st Q ↔ EvE mo env st fun x s1 => ∃ fs vs, insA s1 x = some (cn, fs, vs) ∧ m ∉ fs ∧ EvA am env s1 fun xs s2 => EvA km env s2 fun zs s3 => (xs.length = n ∧ zs.length = j ∧ (g (x :: xs) zs).length = ar) ∧ EvF F (g (x :: xs) zs) s3 Q := by
  unfold EvE EvA EvF eMethN
  constructor
  · rintro ⟨d, s, e, q⟩
    split at e
    · rename_i x s1 h
      split at e
      · rename_i n' fs vs h3
        split at e
        · rename_i hc
          obtain ⟨rfl, hl⟩ := hc
          split at e
          · rename_i xs s2 h2
            split at e
            · rename_i zs s3 h4
              split at e
              · rename_i hz
                exact ⟨_, _, h, fs, vs, h3, hl, _, _, h2, _, _, h4, hz, _, _, e, q⟩
              · cases e
            · cases e
          · cases e
        · cases e
      · cases e
    · cases e
  · rintro ⟨x, s1, h, fs, vs, h3, hl, xs, s2, h2, zs, s3, h4, hz, d, s, e, q⟩
    exact ⟨d, s, by rw [h]; simp only [h3]; rw [if_pos ⟨trivial, hl⟩]; simp only [h2, h4]; rw [if_pos hz]; exact e, q⟩
end
section
variable {X : Cx} {W : Wd}
end
structure MeFK (K : PySem.W.Frag) (C : Addr) (m qual : Str) (st : Stmt) (ps : List Str) (kws : List (Str × V)) : Prop where
  ex : ∃ (f : Addr) (fd : FuncData), FunD K m qual (defArgs st) (defBody st) (defScope st) [] kws f fd ∧ (∃ ds, Vals (kws.map (·.2)) ds ∧ Binds K fd ps ds) ∧ Meth K C m f
section
variable {env : Env} {st : Store} {Q : D → Store → Prop} {QS : Out → Store → Prop}
theorem ev_slM2 {mx : EM} {ml mh : OM} : EvE (eSlM mx ml mh) env st Q ↔ EvE mx env st fun x s1 => EvO ml env s1 fun lo s2 => EvO mh env s2 fun hi s3 => ∃ xs, seqL s3 x = some xs ∧ Q (.ref s3.length) (s3 ++ [.lst (cutD xs lo hi)]) := by
  rw [ev_slM]
  unfold EvO EvE
  constructor
  · rintro ⟨x, s1, h1, lo, s2, h2, hi, s3, h3, q⟩
    exact ⟨x, s1, h1, lo, s2, h2, hi, s3, h3, q⟩
  · rintro ⟨x, s1, h1, lo, s2, h2, hi, s3, h3, q⟩
    exact ⟨x, s1, h1, lo, s2, h2, hi, s3, h3, q⟩
theorem ev_fldAugM {n f : Str} {g : D → D → Store → Option D} {mo mv : EM} : EvS (sFldAugM n f g mo mv) env st QS ↔ EvE mo env st fun o s1 => ∃ fs vs x, insA s1 o = some (n, fs, vs) ∧ fGet fs vs f = some x ∧ EvE mv env s1 fun y s2 => ∃ z, g x y s2 = some z ∧ ∃ s3, fldPut n f o z s2 = some s3 ∧ QS (.nx env) s3 := by
  unfold EvS EvE sFldAugM
  constructor
  · rintro ⟨d, s, e, q⟩
    split at e
    · rename_i o s1 h1
      split at e
      · rename_i n' fs vs h2
        split at e
        · rename_i hn
          subst hn
          split at e
          · rename_i x h3
            split at e
            · rename_i y s2 h4
              split at e
              · rename_i z h5
                split at e
                · rename_i s3 h6
                  cases e
                  exact ⟨_, _, h1, _, _, _, h2, h3, _, _, h4, _, h5, _, h6, q⟩
                · cases e
              · cases e
            · cases e
          · cases e
        · cases e
      · cases e
    · cases e
  · rintro ⟨o, s1, h1, fs, vs, x, h2, h3, y, s2, h4, z, h5, s3, h6, q⟩
    exact ⟨_, _, by rw [h1]; simp only [h2]; rw [if_pos trivial]; simp only [h3, h4, h5, h6], q⟩
end
end My

namespace My
open PySem PySem.Spec PyProof.Rows L2
section
variable {X : Cx} {W : Wd}
end
end My

namespace My
open PySem PySem.Spec PyProof.Rows L2
open Classical in
noncomputable def eDispM (ks : List Str) (am : AM) : EM := fun env st => match am env (st ++ [.dk [] []]) with
  | some (xs, s1) => if xs.length = ks.length ∧ ks.Nodup ∧ s1[st.length]? = some (.dk [] []) then some (.ref st.length, s1.set st.length (.dk (ks.map Sum.inr) xs)) else none
  | none => none
section
variable {X : Cx} {W : Wd} {pos : Pos}
structure PDs (X : Cx) (W : Wd) (pos : Pos) (keys : List (Option Expr)) (values : List Expr) (ks : List Str) (am : AM) : Prop where
  ex : ∃ trs, PPs X pos keys values trs ∧ keys.length = ks.length ∧ values.length = ks.length ∧ keys.all (·.isSome) = true ∧
    ∀ {σ : L2.St} {H : Hp} {Q : List (V × V) → Hp → Prop} {ι : Lay} {st st' : Store} {env : Env} {xs : List D}, RelH W ι H st → REnv W ι H env σ → am env st = some (xs, st') →
      (∀ ι' H' vs, Grow ι H ι' H' → RelH W ι' H' st' → Reps W ι' H' xs vs → Q ((ks.zip vs).map fun q => (V.str q.1, q.2)) H') → tPairs trs σ H Q
end
theorem ev_dispM {env : Env} {st : Store} {Q : D → Store → Prop} {ks : List Str} {am : AM} : EvE (eDispM ks am) env st Q ↔ EvA am env (st ++ [.dk [] []]) fun xs s1 => xs.length = ks.length ∧ ks.Nodup ∧ s1[st.length]? = some (.dk [] []) ∧ Q (.ref st.length) (s1.set st.length (.dk (ks.map Sum.inr) xs)) := by
  unfold EvE EvA eDispM
  constructor
  · rintro ⟨d, s, e, q⟩
    split at e
    · rename_i xs s1 e1
      split at e
      · rename_i hc
        cases e
        exact ⟨_, _, e1, hc.1, hc.2.1, hc.2.2, q⟩
      · cases e
    · cases e
  · rintro ⟨xs, s1, e1, h1, h2, h3, q⟩
    exact ⟨_, _, by rw [e1]; simp only []; rw [if_pos ⟨h1, h2, h3⟩], q⟩
end My

namespace My
open PySem PySem.Spec PyProof.Rows L2
section
variable {X : Cx} {W : Wd} {n : Str}
end
end My

namespace My
open PySem PySem.Spec PyProof.Rows L2
def gLs (n : Nat) (gs : GMs) : GM := fun d env => match d with
  | .lst xs => if xs.length = n then gs xs env else none
  | _ => none
section
variable {X : Cx} {W : Wd} {pos : Pos}
end
section
variable {X : Cx} {W : Wd}
end
end My

namespace My
open PySem PySem.Spec PyProof.Rows L2 PySem.W
open Classical in
noncomputable def eSplit (mo me : EM) : EM := fun env st => match mo env st with
  | some (.str a, s1) => match me env s1 with
    | some (.str b, s2) => if (b.length == 0) = false ∧ a.length + 2 ≤ sizeLine then some (.lst ((Txt.split a b).map .str), s2) else none
    | _ => none
  | _ => none
def strsOf : List D → Option (List Str)
  | [] => some []
  | .str z :: ds => (strsOf ds).map (z :: ·)
  | _ => none
open Classical in
noncomputable def eJoin (mo me : EM) : EM := fun env st => match mo env st with
  | some (.str a, s1) => match me env s1 with
    | some (d, s2) => match seqL s2 d with
      | some xs => match strsOf xs with
        | some ys => if (ys.map (·.length)).sum + ys.length * a.length ≤ 16777216 then some (.str (Txt.join a ys), s2) else none
        | none => none
      | none => none
    | none => none
  | _ => none
theorem strsOf_ok : ∀ {ds : List D} {ys : List Str}, strsOf ds = some ys → ds = ys.map .str
  | [], ys, h => by cases h; rfl
  | d :: ds, ys, h => by
    cases d with
    | str z =>
      simp only [strsOf, Option.map_eq_some_iff] at h
      obtain ⟨zs, h1, rfl⟩ := h
      rw [strsOf_ok h1]
      rfl
    | _ => cases h
theorem strsOf_map : ∀ {ys : List Str}, strsOf (ys.map .str) = some ys
  | [] => rfl
  | y :: ys => by
    simp only [List.map_cons, strsOf, strsOf_map]
    rfl
section
variable {X : Cx} {W : Wd} {o e : Expr} {mo me : EM} {apos pos : Pos}
theorem reps_strs {ι : Lay} {H : Hp} : ∀ {ys : List Str} {vs : List V}, Reps W ι H (ys.map .str) vs → vs = ys.map V.str
  | [], _, h => by rw [h.nil_of]; rfl
  | y :: ys, _, h => by
    obtain ⟨v, r, rfl, h1, h2⟩ := h.uncons
    rw [rep_str h1, reps_strs h2]
    rfl
theorem strs_reps {ι : Lay} {H : Hp} {ys : List Str} : Reps W ι H (ys.map .str) (ys.map V.str) := Reps.map fun _ _ => str_rep
theorem j_split (ho : PE X o (T W mo)) (he : PE X e (T W me)) (hs : starEach [e] X.env = [(false, eval e X.env)] := by rfl) (hbase : attributeBase o "split" X.env (eval o X.env) = eval o X.env := by rfl) (hline : (apos.endLine == pos.line) = true := by rfl) :
    PE X (.Call (.Attribute o "split" apos) [e] [] pos) (T W (eSplit mo me)) := (pe_split ho he hs hbase hline).imp fun σ H Q ⟨ι, st, env, d, st', r, n, e, k⟩ => by
  unfold eSplit at e
  split at e
  · rename_i a s1 e1
    split at e
    · rename_i b s2 e2
      split at e
      · rename_i hz
        cases e
        refine T.of r n e1 fun v ι1 H1 g1 r1 p1 => ?_
        have ev := rep_str p1
        subst ev
        refine ⟨⟨a, rfl⟩, T.of r1 (n.grow g1) e2 fun u ι2 H2 g2 r2 p2 => ?_⟩
        have eu := rep_str p2
        subst eu
        exact ⟨a, b, rfl, rfl, hz.1, hz.2, fun p hp => (k.go (g1.trans g2)).lst r2 strs_reps hp⟩
      · cases e
    · cases e
  · cases e
theorem j_join (hK : X.K = W.K) (ho : PE X o (T W mo)) (he : PE X e (T W me)) (hs : starEach [e] X.env = [(false, eval e X.env)] := by rfl) (hbase : attributeBase o "join" X.env (eval o X.env) = eval o X.env := by rfl) (hline : (apos.endLine == pos.line) = true := by rfl) :
    PE X (.Call (.Attribute o "join" apos) [e] [] pos) (T W (eJoin mo me)) := (pe_join ho he hs hbase hline).imp fun σ H Q ⟨ι, st, env, d, st', r, n, e, k⟩ => by
  unfold eJoin at e
  split at e
  · rename_i a s1 e1
    split at e
    · rename_i d2 s2 e2
      split at e
      · rename_i xs q
        split at e
        · rename_i ys q2
          split at e
          · rename_i hz
            cases e
            refine T.of r n e1 fun v ι1 H1 g1 r1 p1 => ?_
            have ev := rep_str p1
            subst ev
            refine ⟨⟨a, rfl⟩, T.of r1 (n.grow g1) e2 fun u ι2 H2 g2 r2 p2 => ?_⟩
            obtain ⟨p, us, rfl, h1, h2⟩ := seqL_ok r2 p2 q
            rw [strsOf_ok q2] at h2
            have eu := reps_strs h2
            subst eu
            exact ⟨a, p, ys, rfl, rfl, .inl (SqL.of h1), hz, k _ _ _ (g1.trans g2) r2 str_rep⟩
          · cases e
        · cases e
      · cases e
    · cases e
  · cases e
end
section
variable {env : Env} {st : Store} {Q : D → Store → Prop} {QS : Out → Store → Prop}
theorem ev_split {mo me : EM} : EvE (eSplit mo me) env st Q ↔ EvE mo env st fun x s1 => EvE me env s1 fun y s2 => ∃ a b, x = .str a ∧ y = .str b ∧ (b.length == 0) = false ∧ a.length + 2 ≤ sizeLine ∧ Q (.lst ((Txt.split a b).map .str)) s2 := by
  unfold EvE eSplit
  constructor
  · rintro ⟨d, s, e, q⟩
    split at e
    · rename_i a s1 h1
      split at e
      · rename_i b s2 h2
        split at e
        · rename_i hz
          cases e
          exact ⟨_, _, h1, _, _, h2, a, b, rfl, rfl, hz.1, hz.2, q⟩
        · cases e
      · cases e
    · cases e
  · rintro ⟨x, s1, h1, y, s2, h2, a, b, rfl, rfl, hz1, hz2, q⟩
    exact ⟨_, _, by rw [h1]; simp only [h2]; rw [if_pos ⟨hz1, hz2⟩], q⟩
theorem ev_join {mo me : EM} : EvE (eJoin mo me) env st Q ↔ EvE mo env st fun x s1 => EvE me env s1 fun y s2 => ∃ a xs ys, x = .str a ∧ seqL s2 y = some xs ∧ strsOf xs = some ys ∧ (ys.map (·.length)).sum + ys.length * a.length ≤ 16777216 ∧ Q (.str (Txt.join a ys)) s2 := by
  unfold EvE eJoin
  constructor
  · rintro ⟨d, s, e, q⟩
    split at e
    · rename_i a s1 h1
      split at e
      · rename_i d2 s2 h2
        split at e
        · rename_i xs h3
          split at e
          · rename_i ys h4
            split at e
            · rename_i hz
              cases e
              exact ⟨_, _, h1, _, _, h2, a, xs, ys, rfl, h3, h4, hz, q⟩
            · cases e
          · cases e
        · cases e
      · cases e
    · cases e
  · rintro ⟨x, s1, h1, y, s2, h2, a, xs, ys, rfl, h3, h4, hz, q⟩
    exact ⟨_, _, by rw [h1]; simp only [h2, h3, h4]; rw [if_pos hz], q⟩
end
noncomputable def eFmt (m : EM) : EM := fun env st => match m env st with
  | some (.str y, s1) => if y.length ≤ sizeLine then some (.str y, s1) else none
  | some (.int i, s1) => if i.natAbs.log2 < 1920 then some (.str (toString i), s1) else none
  | _ => none
def fsGo : List EM → Str → Env → Store → Option (Str × Store)
  | [], acc, _, st => some (acc, st)
  | m :: ms, acc, env, st => match m env st with
    | some (.str y, s1) => if (acc ++ y).length ≤ sizeLine then fsGo ms (acc ++ y) env s1 else none
    | _ => none
def eFs (ms : List EM) : EM := fun env st => (fsGo ms Str.empty env st).map fun z => (.str z.1, z.2)
section
variable {X : Cx} {W : Wd} {e e1 e2 : Expr} {es : List Expr} {m : EM} {ms : List EM} {pos : Pos}
theorem j_fmt (he : PE X e (T W m)) : PE X (.FormattedValue e (-1) none pos) (T W (eFmt m)) := (pe_fmt he).imp fun σ H Q ⟨ι, st, env, d, st', r, n, e, k⟩ => by
  unfold eFmt at e
  split at e
  · rename_i y s1 h1
    split at e
    · rename_i hz
      cases e
      refine T.of r n h1 fun v ι1 H1 g1 r1 p1 => .inl ⟨y, rep_str p1, hz, k _ _ _ g1 r1 str_rep⟩
    · cases e
  · rename_i i s1 h1
    split at e
    · rename_i hz
      cases e
      refine T.of r n h1 fun v ι1 H1 g1 r1 p1 => .inr ⟨i, rep_int p1, hz, k _ _ _ g1 r1 str_rep⟩
    · cases e
  · cases e
inductive PJs (X : Cx) (W : Wd) : List Expr → List EM → Prop where
  | nil : PJs X W [] []
  | cons {e : Expr} {m : EM} {es : List Expr} {ms : List EM} (h : PE X e (T W m)) (r : PJs X W es ms) : PJs X W (e :: es) (m :: ms)
theorem PJs.pj (h : PJs X W es ms) : PJ X es (ms.map (T W)) := by
  induction h with
  | nil => exact .nil
  | cons h _ ih => exact .cons h ih
theorem fs_of {σ : L2.St} {Q : Str → Hp → Prop} : ∀ {ms : List EM} {acc out : Str} {ι : Lay} {H : Hp} {st st' : Store} {env : Env}, RelH W ι H st → REnv W ι H env σ → fsGo ms acc env st = some (out, st') →
    (∀ ι' H', Grow ι H ι' H' → RelH W ι' H' st' → Q out H') → tJs (ms.map (T W)) acc σ H Q
  | [], acc, out, ι, H, st, st', env, r, n, e, k => by
    cases e
    exact k _ _ Grow.refl r
  | m :: ms, acc, out, ι, H, st, st', env, r, n, e, k => by
    unfold fsGo at e
    split at e
    · rename_i y s1 h1
      split at e
      · rename_i hz
        refine T.of r n h1 fun v ι1 H1 g1 r1 p1 => ⟨y, rep_str p1, hz, fs_of r1 (n.grow g1) e fun ι' H' g r' => k _ _ (g1.trans g) r'⟩
      · cases e
    · cases e
theorem j_fs (h : PJs X W (e1 :: e2 :: es) ms) : PE X (.JoinedStr (e1 :: e2 :: es) pos) (T W (eFs ms)) := (pe_joined h.pj).imp fun σ H Q ⟨ι, st, env, d, st', r, n, e, k⟩ => by
  unfold eFs at e
  rw [Option.map_eq_some_iff] at e
  obtain ⟨⟨z, s⟩, e1, e2⟩ := e
  cases e2
  exact fs_of r n e1 fun ι' H' g r' => k _ _ _ g r' str_rep
end
section
variable {env : Env} {st : Store} {Q : D → Store → Prop}
def EvFs (ms : List EM) (acc : Str) (env : Env) (st : Store) (Q : Str → Store → Prop) : Prop := ∃ z s, fsGo ms acc env st = some (z, s) ∧ Q z s
theorem ev_fs {ms : List EM} : EvE (eFs ms) env st Q ↔ EvFs ms Str.empty env st fun z s => Q (.str z) s := by
  unfold EvE EvFs eFs
  constructor
  · rintro ⟨d, s, e, q⟩
    rw [Option.map_eq_some_iff] at e
    obtain ⟨⟨z, s⟩, e1, e2⟩ := e
    cases e2
    exact ⟨z, s, e1, q⟩
  · rintro ⟨z, s, e, q⟩
    exact ⟨_, _, by rw [e]; rfl, q⟩
theorem ev_fs0 {acc : Str} {Q : Str → Store → Prop} : EvFs [] acc env st Q ↔ Q acc st := ⟨fun ⟨z, s, e, q⟩ => by cases e; exact q, fun q => ⟨_, _, rfl, q⟩⟩
theorem ev_fs1 {m : EM} {ms : List EM} {acc : Str} {Q : Str → Store → Prop} : EvFs (m :: ms) acc env st Q ↔ EvE m env st fun x s1 => ∃ y, x = .str y ∧ (acc ++ y).length ≤ sizeLine ∧ EvFs ms (acc ++ y) env s1 Q := by
  unfold EvFs EvE
  constructor
  · rintro ⟨z, s, e, q⟩
    unfold fsGo at e
    split at e
    · rename_i y s1 h1
      split at e
      · rename_i hz
        exact ⟨_, _, h1, y, rfl, hz, _, _, e, q⟩
      · cases e
    · cases e
  · rintro ⟨x, s1, h1, y, rfl, hz, z, s, e, q⟩
    exact ⟨z, s, by unfold fsGo; rw [h1]; simp only [if_pos hz]; exact e, q⟩
theorem ev_fmt {m : EM} : EvE (eFmt m) env st Q ↔ EvE m env st fun x s1 => match x with
    | .str y => y.length ≤ sizeLine ∧ Q (.str y) s1
    | .int i => i.natAbs.log2 < 1920 ∧ Q (.str (toString i)) s1
    | _ => False := by
  unfold EvE eFmt
  constructor
  · rintro ⟨d, s, e, q⟩
    split at e
    · rename_i y s1 h1
      split at e
      · rename_i hz
        cases e
        exact ⟨_, _, h1, hz, q⟩
      · cases e
    · rename_i i s1 h1
      split at e
      · rename_i hz
        cases e
        exact ⟨_, _, h1, hz, q⟩
      · cases e
    · cases e
  · rintro ⟨x, s1, h1, q⟩
    cases x with
    | str y => exact ⟨_, _, by rw [h1]; simp only [if_pos q.1], q.2⟩
    | int i => exact ⟨_, _, by rw [h1]; simp only [if_pos q.1], q.2⟩
    | _ => exact q.elim
end
def iStrM (m : EM) : IM := fun env st => match m env st with
  | some (.str z, s1) => some (z.cps.toList.map fun c => .str ⟨#[c]⟩, always, s1)
  | _ => none
noncomputable def fIntS : FM := ro fun ds _ => match ds with
  | [.str z] => match PySem.intText? z with
    | some n => if z.length ≤ 640 then some (.int n) else none
    | none => none
  | _ => none
section
variable {X : Cx} {W : Wd}
theorem itOk_str {z : Str} {ι0 : Lay} {H0 : Hp} : ItOk W (Its z) ι0 H0 (z.cps.toList.map fun c => .str ⟨#[c]⟩) always where
  go := fun i ι H st d g r k e => by
    rw [List.getElem?_map, Option.map_eq_some_iff] at e
    obtain ⟨c, e1, rfl⟩ := e
    have hi : i < z.cps.size := by
      have := (List.getElem?_eq_some_iff.mp e1).1
      simpa using this
    refine ⟨hi, fun x H' ⟨h1, c2, h2, h3⟩ => ?_⟩
    subst h1 h3
    have : c2 = c := by
      have e2 : z.cps[i]? = some c := by simpa using e1
      rw [h2] at e2
      exact Option.some.inj e2
    subst this
    exact ⟨Grow.refl, r, str_rep⟩
  stop := fun ι H st g r k => by
    show z.cps.size ≤ _
    simp
theorem ji_str {tg l : Expr} {m : EM} (hl : PE X l (T W m)) : PI X tg l (TIm W (iStrM m)) := by
  refine ⟨fun pins s σ H R I h => ?_⟩
  obtain ⟨ι, st, env, ds, gd, st', r, n, e, k⟩ := h
  unfold iStrM at e
  split at e
  · rename_i z s1 e1
    cases e
    refine (pi_str hl).run pins s σ H R I (T.of r n e1 fun v ι1 H1 g1 r1 p1 => ?_)
    exact ⟨z, rep_str p1, k _ ι1 H1 g1 r1 itOk_str⟩
  · cases e
theorem jc_intS : CallR X (.type "int") (MA W fIntS) := by
  intro pins s σ H xs us Q I rs ⟨ι, st, ds, d, st', r, p, e, k⟩
  replace e := ro_ok e
  obtain ⟨e, rfl⟩ := e
  split at e
  · rename_i z
    split at e
    · rename_i n q
      split at e
      · rename_i hz
        cases e
        obtain ⟨v, rfl, p1⟩ := reps1 p
        have ev := rep_str p1
        subst ev
        exact call_int_str pins s σ H _ us Q I rs ⟨z, n, rfl, q, hz, k _ _ _ Grow.refl r int_rep⟩
      · cases e
    · cases e
  · cases e
end
section
variable {env : Env} {st : Store} {Q : D → Store → Prop}
theorem ev_strI {m : EM} {QI : List D → (Store → Prop) → Store → Prop} : EvI (iStrM m) env st QI ↔ EvE m env st fun x s1 => ∃ z, x = .str z ∧ QI (z.cps.toList.map fun c => .str ⟨#[c]⟩) always s1 := by
  unfold EvI EvE iStrM
  constructor
  · rintro ⟨ds, gd, s, e, q⟩
    split at e
    · rename_i z s1 h1
      cases e
      exact ⟨_, _, h1, z, rfl, q⟩
    · cases e
  · rintro ⟨x, s1, h1, z, rfl, q⟩
    exact ⟨_, _, _, by rw [h1], q⟩
theorem ev_intS {z : Str} {n : Int} (h : PySem.intText? z = some n) (hz : z.length ≤ 640) (q : Q (.int n) st) : EvF fIntS [.str z] st Q := by
  refine ⟨.int n, st, ?_, q⟩
  simp only [fIntS, ro, h, if_pos hz]
  rfl
end
section
variable {prog : Program} {w : World} {A : Around} {E : Value → Shared → Prop} {s : Shared}
theorem un_starL {l : Addr} {items : Array Value} {x : Value} {Q : List Value → Shared → Prop} (hl : s.heap.IsList l items) (hh : A.handled = none) (hx : items.toList[0]? = some x) (hz : items.size ≤ 16384)
    (h : ∀ (h' : Heap) (tk : Nat), (∀ b o, s.heap.get? b = some o → h'.get? b = some o) → Q [x, .ref h'.objs.size] { s with heap := h'.push { cls := .type "list", data := .seq (items.toList.drop 1).toArray }, toks := tk }) : wpAny (model prog w) A (unpackItems (.ref l) 2 (some 1)) Q E s := by
  have hlt : l ≠ s.heap.objs.size := by obtain ⟨o, ho, _⟩ := hl; exact Nat.ne_of_lt (Heap.lt_size ho)
  have hn : 1 ≤ items.size := by
    have h0 := (List.getElem?_eq_some_iff.mp hx).1
    have h1 : 0 < items.size := by simpa using h0
    omega
  unfold unpackItems
  refine wpAny_bind ?_
  unfold notIterableAtAll
  refine wpAny_bind (wpAny_specialOf hl.typeIs slot_list_iter.lookup ?_)
  refine wpAny_pure ?_
  simp only [Bool.false_eq_true, if_false]
  refine wpAny_bind (wpAny_holding (wpAny_pyIter_list hl ?_))
  refine wpAny_bind (wpAny_holding (kun_draw hlt 1 0 _ _ ⟨_, Heap.get?_push_size _ rfl, rfl, rfl⟩ (hl.push _) (by omega) fun h₁ hit₁ hs₁ => ?_))
  have hl₁ : h₁.IsList l items := (hl.push _).extBut hs₁.extBut hlt
  rw [Nat.zero_add] at hit₁
  have hit₁' := hit₁
  obtain ⟨oi, hoi, _⟩ := hit₁'
  have hl₁' := hl₁
  obtain ⟨ol, hol, _⟩ := hl₁'
  rw [List.drop_zero]
  have hfl : (items.toList.take 1).length = 1 := by rw [List.length_take, Array.length_toList]; omega
  rw [if_neg (show ¬ ((items.toList.take 1).length < 1) by rw [hfl]; omega)]
  refine wpAny_bind (wpAny_holding (kun_collect (s := { s with heap := h₁ }) (T := "list_iterator") (.inr (.inr (.inl rfl))) (Walks.list (A := A.in1) hh s.heap.objs.size l hlt items) (fun j u st => st.1.typeIs) (k := 1) (by omega) ⟨hit₁, hl₁⟩ (Heap.lt_size hoi) (Heap.lt_size hol) (fun h₂ tk hk => ?_) (by rw [sizeLine_eq]; omega)))
  have hrl : (items.toList.drop 1).length = items.size - 1 := by rw [List.length_drop, Array.length_toList]
  show wpAny _ _ (if (items.toList.drop 1).length < 2 - 1 - 1 then _ else _) _ _ _
  rw [if_neg (by omega)]
  show wpAny _ _ (newList ((items.toList.drop 1).take ((items.toList.drop 1).length - (2 - 1 - 1))) >>= fun d => pure (items.toList.take 1 ++ [d] ++ (items.toList.drop 1).drop ((items.toList.drop 1).length - (2 - 1 - 1)))) _ _ _
  have e1 : (items.toList.drop 1).length - (2 - 1 - 1) = (items.toList.drop 1).length := by omega
  have e2 : items.toList.take 1 = [x] := by
    cases q : items.toList with
    | nil => rw [q] at hx; cases hx
    | cons y ys => rw [q] at hx; cases hx; rfl
  rw [e1, List.take_length, List.drop_length, e2]
  simp only [List.append_nil, List.cons_append, List.nil_append]
  have he : Heap.ExtBut s.heap.objs.size s.heap h₂ := fun b o hb e => hk b o hb (hs₁.extBut b o hb (Heap.get?_push_of_some _ e))
  unfold newList
  refine wpAny_bind (wpAny_newObj_type (wpAny_pure ?_) (by show (List.drop 1 items.toList).toArray.size ≤ sizeLine; rw [List.size_toArray, hrl, sizeLine_eq]; omega))
  exact h h₂ tk fun b o e => he b o (Nat.ne_of_lt (Heap.lt_size e)) e
end
def gStarL (K : PySem.W.Frag) (i j : Nat) : TG := fun v σ H Q => ∃ a x xs, v = .ref a ∧ SqL K H a (x :: xs) ∧ xs.length < 16384 ∧ ∀ p, H p = none → Q ((σ.set i (some x)).set j (some (.ref p))) (upd H p (.lst xs))
section
variable {X : Cx} {W : Wd} {e : Expr} {m : EM} {pos p1 p2 p3 : Pos}
theorem pg_starL {i j k : Nat} {x y : Str} (hc : X.calm = true) (hN : X.N.Nodup) (hi : X.N[i]? = some x) (hj : X.N[j]? = some y) (hx : Loc X.env.scope x) (hy : Loc X.env.scope y)
    (fx : X.fn x = true ∨ X.env.scope.names.lookup x = some .local) (fy : X.fn y = true ∨ X.env.scope.names.lookup y = some .local) : PG X (.Tuple [.Name x p1, .Starred (.Name y p2) p3] k pos) (gStarL X.K i j) := by
  refine ⟨fun pins s σ H v u Q I r h => ?_⟩
  obtain ⟨a, z, xs, rfl, hq, hl, q⟩ := h
  cases r
  obtain ⟨its, rv, ht, hz⟩ := I.list hq
  obtain ⟨u, us, rfl, ru, rus⟩ : ∃ u us, its = u :: us ∧ RelV z u ∧ Vals xs us := by
    cases rv with
    | cons r t => exact ⟨_, _, rfl, r, t⟩
  have hlen := rus.length
  rw [assign_Tuple]
  refine wpAny_bind (wpAny_standAt ?_)
  unfold unpack
  show wpAny _ _ (holding [.ref a] (unpackItems (.ref a) 2 (some 1)) >>= fun is => assignInOrder [assign (.Name x p1) X.env, assign (.Name y p2) X.env] is) _ _ _
  refine wpAny_bind (wpAny_holding (un_starL ht.isList (I.ok.hd hc) rfl (by simp only [List.size_toArray, List.length_cons]; omega) fun h' tk hk => ?_))
  have I1 : Inv X pins σ H { s with heap := h', toks := tk } := I.kept (t' := tk) hk
  have e1 : (u :: us).toArray.toList.drop 1 = us := rfl
  rw [e1]
  have hf := I1.hok.fresh (Nat.le_refl h'.objs.size)
  have I2 : Inv X pins σ (upd H h'.objs.size (.lst xs)) { s with heap := h'.push { cls := .type "list", data := .seq us.toArray }, toks := tk } :=
    I1.laid (t' := tk) (fun b o e => Heap.get?_push_of_some _ e) (Nat.le_refl _) (show ObjOk X.prog X.w _ _ _ (.lst xs) from ⟨by rw [sizeLine_eq]; omega, us, 0, rus, Heap.get?_push_size _ rfl⟩)
  refine assignInOrder_cons (wpAny_assign_Name (store_ok I2 hN hi hx ru (fun s2 I3 => ?_) fx))
  refine assignInOrder_cons (wpAny_assign_Name (store_ok I3 hN hj hy (v := .ref h'.objs.size) rfl (fun s3 I4 => assignInOrder_nil ?_) fy))
  exact ⟨_, _, I4, q _ hf⟩
def sStarL (i j : Nat) (m : EM) : SM := fun env st => match m env st with
  | some (.lst (x :: xs), s1) => if xs.length < 16384 then some (.nx ((env.set i (some x)).set j (some (.lst xs))), s1) else none
  | _ => none
theorem js_starL {i j k : Nat} {pt : Pos} {x y : Str} (hK : X.K = W.K) (hc : X.calm = true) (hN : X.N.Nodup) (hi : X.N[i]? = some x) (hj : X.N[j]? = some y) (hx : Loc X.env.scope x) (hy : Loc X.env.scope y)
    (fx : X.fn x = true ∨ X.env.scope.names.lookup x = some .local) (fy : X.fn y = true ∨ X.env.scope.names.lookup y = some .local) (he : PE X e (T W m))
    (hs : swapsWithSole [.Tuple [.Name x p1, .Starred (.Name y p2) p3] k pt] e pos.line X.env = pure false := by rfl) (hw : swappedStores [.Tuple [.Name x p1, .Starred (.Name y p2) p3] k pt] e X.env = pure none := by rfl)
    (h1 : (assignEach [.Tuple [.Name x p1, .Starred (.Name y p2) p3] k pt] X.env).map (·.2) = [assign (.Tuple [.Name x p1, .Starred (.Name y p2) p3] k pt) X.env] := by rfl) :
    PS X (.Assign [.Tuple [.Name x p1, .Starred (.Name y p2) p3] k pt] e pos) (TSt W (sStarL i j m)) := (ps_asg he (pg_starL hc hN hi hj hx hy fx fy) hs hw h1).imp fun D σ H ⟨ι, st, env, o, st', r, n, e, k⟩ => by
  unfold sStarL at e
  split at e
  · rename_i x xs s1 q
    split at e
    · rename_i hl
      cases e
      refine T.of r n q fun v ι1 H1 g1 r1 p1 => ?_
      simp only [Rep] at p1
      obtain ⟨a, rfl, na, vs, h1, h2⟩ := p1
      obtain ⟨v, us, rfl, h3, h4⟩ := h2.uncons
      refine ⟨a, v, us, rfl, SqL.of h1, by rw [← h4.length]; exact hl, fun p hp => ?_⟩
      have g2 := Grow.laid (ι := ι1) (o := .lst us) hp
      refine k _ ι1 _ (g1.trans g2) (r1.laid hp) (((n.grow (g1.trans g2)).set i (Rep.grow g2 _ _ h3)).set j ?_)
      simp only [Rep]
      exact ⟨p, rfl, r1.free hp, us, upd_same, Reps.grow g2 _ _ h4⟩
    · cases e
  · cases e
end
section
variable {env : Env} {st : Store} {Q : D → Store → Prop} {QS : Out → Store → Prop}
theorem ev_starL {i j : Nat} {m : EM} : EvS (sStarL i j m) env st QS ↔ EvE m env st fun d s1 => ∃ x xs, d = .lst (x :: xs) ∧ xs.length < 16384 ∧ QS (.nx ((env.set i (some x)).set j (some (.lst xs)))) s1 := by
  unfold EvS EvE sStarL
  constructor
  · rintro ⟨o, s, e, q⟩
    split at e
    · rename_i x xs s1 h
      split at e
      · rename_i hl
        cases e
        exact ⟨_, _, h, x, xs, rfl, hl, q⟩
      · cases e
    · cases e
  · rintro ⟨d, s1, h, x, xs, rfl, hl, q⟩
    exact ⟨_, _, by rw [h]; simp only [if_pos hl], q⟩
end
def wOr (t : TM) (w : WM) : WM := fun env st => match t env st with
  | some (true, s1) => some (true, env, s1)
  | some (false, s1) => w env s1
  | none => none
section
variable {X : Cx} {W : Wd} {a b : Expr} {t : TM} {w : WM} {pos : Pos}
def wOrT (t : TT) (u : TTw) : TTw := fun σ H Q => t σ H fun c H1 => if c = true then Q true σ H1 else u σ H1 Q
theorem ptw_or2 {ta : TT} {tb : TTw} (ha : PT X a ta) (hb : PTw X b tb) : PTw X (.BoolOp .Or [a, b] pos) (wOrT ta tb) := by
  refine ⟨fun pins s σ H Q I h => ?_⟩
  refine isTrue_or (thn (ha.run pins s σ H _ I h) fun c s1 ⟨H1, I1, q1⟩ => ?_)
  cases c with
  | true => exact ⟨σ, H1, I1, q1⟩
  | false => exact isTrue_or (thn (hb.run pins s1 σ H1 Q I1 q1) fun c s2 q => by
      cases c with
      | true => exact q
      | false => exact isTrue_or_nil q)
theorem jw_or2 (ha : PT X a (TB W t)) (hb : PTw X b (TBw W w)) : PTw X (.BoolOp .Or [a, b] pos) (TBw W (wOr t w)) := ⟨fun pins s σ H Q I ⟨ι, st, env, b, env', st', r, n, e, k⟩ => by
  refine (ptw_or2 ha hb).run pins s σ H Q I ?_
  unfold wOr at e
  split at e
  · rename_i s1 q
    cases e
    refine TB.of r n q fun ι1 H1 g1 r1 => (if_pos rfl).mpr (k _ _ _ g1 r1 (n.grow g1))
  · rename_i s1 q
    refine TB.of r n q fun ι1 H1 g1 r1 => (if_neg Bool.false_ne_true).mpr ⟨ι1, s1, env, b, env', st', r1, n.grow g1, e, fun σ' ι' H' g => k σ' ι' H' (g1.trans g)⟩
  · cases e⟩
end
theorem ev_wOr {env : Env} {st : Store} {Q : Bool → Env → Store → Prop} {t : TM} {w : WM} : EvW2 (wOr t w) env st Q ↔ EvB t env st fun c s1 => if c = true then Q true env s1 else EvW2 w env s1 Q := by
  unfold EvW2 EvB wOr
  constructor
  · rintro ⟨k, e, s, h, q⟩
    split at h
    · rename_i s1 h1
      cases h
      exact ⟨_, _, h1, q⟩
    · rename_i s1 h1
      exact ⟨_, _, h1, k, e, s, h, q⟩
    · cases h
  · rintro ⟨c, s1, h, q⟩
    cases c with
    | true =>
      rw [if_pos rfl] at q
      exact ⟨_, _, _, by rw [h], q⟩
    | false =>
      rw [if_neg Bool.false_ne_true] at q
      obtain ⟨k, e, s, h2, q⟩ := q
      exact ⟨_, _, _, by rw [h]; exact h2, q⟩
end My

namespace My
open PySem PySem.Spec PyProof.Rows L2 TL
local macro_rules | `(tactic| walk_at "ev") => `(tactic| try simp only [ev_split, ev_join, ev_fs, ev_fs0, ev_fs1, ev_fmt, ev_strI, ev_starL, ev_wOr, ev_dispM, gLs, ev_slM2, ev_methN, ev_fldAugM, ev_stuck, ev_rev, ev_star2, ev_bF, ev_tupF, ev_len_tpf, ix_tpf, len_tpf, ev_tuple_tpf, ev_tupleF_lst, ev_var, ev_c, ev_un, ev_op, ev_nil, ev_cons, ev_call, ev_callD, ev_callN, ev_callK, ev_opM, ev_lcM, ev_lz, ev_dcT, ev_lrg1, ev_lrg2, ev_trg1, ev_trg2, ev_zipM, ev_callO, ev_star, ev_itemsT, ev_newN, pick0, pick1, pick2, ev_ifW, ev_named, ev_tup, ev_lst, ev_lstM, ev_dkM, ev_dtM, ev_bE, ev_bAnd, ev_bOr, ev_bNot, ev_bYes, ev_eAnd, ev_eOr, ev_eNot, ev_if, ev_chain, ev_oNone, ev_oSome, ev_sl, ev_bm, ev_skip, ev_brk, ev_cnt, ev_seq, then_nx, then_rt, then_bk, then_ct, ev_set, ev_asg, ev_par, ev_par3, ev_ret, ev_drop, ev_sIf, ev_aug, ev_sub, ev_seqI, ev_fld, ev_fldM, ev_meth, ev_new, ev_newK, ev_enum, ev_zip, ev_range1, ev_range2, ev_for, ev_lc, enter, gNm, gsNil, gsCons, gTp, wipeE,
  List.map_cons, List.map_nil, List.length_cons, List.length_nil, List.replicate, List.cons_append, List.nil_append, List.append_nil, List.getElem?_cons_zero, List.getElem?_cons_succ, List.set_cons_zero, List.set_cons_succ, Option.some.injEq, exists_eq_left', exists_eq_left, D.bl.injEq, D.int.injEq, D.str.injEq, D.tup.injEq, D.lst.injEq, D.ref.injEq, decide_eq_true_eq, List.cons.injEq, and_true, true_and, if_true, if_false, reduceCtorEq, Bool.false_eq_true, ite_true, ite_false, Nat.sub_self, Nat.reduceAdd, Nat.reduceSub, Nat.zero_add, exists_and_left, exists_const, Bool.not_true, Bool.not_false, Bool.not_eq_true', exists_eq_right, and_assoc, List.length_set, exists_eq_right',
  add_int, addI_int, sub_int, neg_int, lt_int, le_int, gt_int, ge_int, eq_int, ne_int, eq_str, ne_str, eq_bl, ne_bl, eq_is, eq_si, ne_is, ne_si, is_nn, ix_tup, ix_lst, ix_scr, at_0, at_1, at_2, at_3, len_tup, len_lst, len_scr, outF, outK, ev_len_tup, ev_len_lst, ev_len_scr, ev_abs, ev_int, ev_intb, ev_max2, ev_min2, ev_tuple_lst, ev_tuple_tup, ev_list_lst, ev_list_tup, sz0, sz1, sz2, sz3, sz4, sz5, sz6, sz7, sz8, sz9, sz10, sz11, sz12, s_rl, s_lr, atI_last, decide_false, decide_true, Bool.or_false, Bool.false_or])
local macro_rules | `(tactic| walk_at "st") => `(tactic| try simp only [List.append_assoc, List.cons_append, List.nil_append, List.length_append, List.length_cons, List.length_nil, Nat.reduceAdd, Nat.add_assoc])
noncomputable def mb_number_in : SM :=
(sSeq (sIf (bOr (bNot (bE (eChain dLe dLe (eC (.int 1)) (eCall fLen (aCons (eVar 0) aNil)) (eC (.int 19))))) (bNot (bE (eCall fAll (aCons (eLc (iStrM (eVar 0)) (gNm 1) bYes (eOp dIn (eVar 1) (eC (.str "0123456789"))) [1]) aNil)))))
(sRet (eC .non))
sSkip)
(sRet (eIf (bAnd (bE (eOp dEq (eOp dIx (eVar 0) (eC (.int 0))) (eC (.str "0")))) (bE (eOp dNe (eVar 0) (eC (.str "0"))))) (eC .non) (eCall fIntS (aCons (eVar 0) aNil)))))
noncomputable def mf_number_in : FM := mkF 2 mb_number_in

noncomputable def mb_are_lengths : SM :=
(sSeq (sIf (bOr (bNot (bE (eCall fIsi (aCons (eVar 0) (aCons (eC (.ty "tuple")) aNil))))) (bNot (bE (eChain dLe dLe (eC (.int 1)) (eCall fLen (aCons (eVar 0) aNil)) (eC (.int 6))))))
(sRet (eC (.bl false)))
sSkip)
(sSeq (sIf (bNot (bE (eCall fAll (aCons (eLc (iSeq (eVar 0)) (gNm 4) bYes (eCallD 3 mf_is_integer [] (aCons (eVar 4) (aCons (eC (.int 1)) (aCons (eVar 1) aNil)))) [4]) aNil))))
(sRet (eC (.bl false)))
sSkip)
(sRet (eCall fAll (aCons (eLc (iZip (eVar 0) (eSl (eVar 0) (oSome (eC (.int 1))) oNone)) (gTp 2 (gsCons (gNm 2) (gsCons (gNm 3) gsNil))) bYes (eOp dLt (eVar 2) (eVar 3)) [2, 3]) aNil)))))
noncomputable def mf_are_lengths : FM := mkF 5 mb_are_lengths

noncomputable def mb_is_rules : SM :=
(sSeq (sIf (bOr (bNot (bE (eCall fIsi (aCons (eVar 0) (aCons (eC (.ty "tuple")) aNil))))) (bOr (bE (eOp dNe (eCall fLen (aCons (eVar 0) aNil)) (eC (.int 2)))) (bNot (bE (eCallD 3 mf_is_integer [] (aCons (eOp dIx (eVar 0) (eC (.int 0))) (aCons (eC (.int 1)) (aCons (eC (.int 100)) aNil))))))))
(sRet (eC (.bl false)))
sSkip)
(sRet (eCallD 2 mf_are_lengths [] (aCons (eOp dIx (eVar 0) (eC (.int 1))) (aCons (eOp dIx (eVar 0) (eC (.int 0))) aNil)))))
noncomputable def mf_is_rules : FM := mkF 1 mb_is_rules

noncomputable def mb_rules_in : SM :=
(sSeq (sStarL 1 2 (eSplit (eVar 0) (eC (.str ": "))))
(sSeq (sSet 3 (eIf (bE (eOp dEq (eCall fLen (aCons (eVar 2) aNil)) (eOp dSub (eC (.int 2)) (eC (.int 1))))) (eSplit (eOp dIx (eVar 2) (eC (.int 0))) (eC (.str " "))) (eLst aNil)))
(sSeq (sSet 4 (eTup (aCons (eCallD 1 mf_number_in [] (aCons (eVar 1) aNil)) (aCons (eCall fTuple (aCons (eLc (iSeq (eVar 3)) (gNm 5) bYes (eCallD 1 mf_number_in [] (aCons (eVar 5) aNil)) [5]) aNil)) aNil))))
(sRet (eIf (bE (eCallD 1 mf_is_rules [] (aCons (eVar 4) aNil))) (eVar 4) (eC .non))))))
noncomputable def mf_rules_in : FM := mkF 6 mb_rules_in

noncomputable def mb_show_rules : SM :=
(sSeq (sAsg (eVar 0) (gTp 2 (gsCons (gNm 1) (gsCons (gNm 2) gsNil))))
(sRet (eOp dAdd (eFs [(eFmt (eVar 1)), (eFmt (eC (.str ": ")))]) (eJoin (eC (.str " ")) (eLc (iSeq (eVar 2)) (gNm 3) bYes (eCall fStr (aCons (eVar 3) aNil)) [3])))))
noncomputable def mf_show_rules : FM := mkF 4 mb_show_rules

noncomputable def mb_read_rules : SM :=
(sSeq (sIfW (wOr (bNot (bE (eCall fIsi (aCons (eVar 0) (aCons (eC (.ty "str")) aNil))))) (wNamed 1 dIs (eCallD 1 mf_rules_in [] (aCons (eVar 0) aNil)) (eC .non)))
sStuck
sSkip)
(sRet (eVar 1)))
noncomputable def mf_read_rules : FM := mkF 2 mb_read_rules

def decS (n : Nat) : Str := Str.ofString (toString ((n : Nat) : Int))
theorem decS_l (n : Nat) : (decS n).cps.toList = numL n := tl_num n
theorem decS_len (n : Nat) : (decS n).length = (numL n).length := by
  show (decS n).cps.size = _
  rw [← Array.length_toList, decS_l]
theorem decS_le {n k : Nat} (hk : 0 < k) (h : n < 10 ^ k) : (decS n).length ≤ k := by
  rw [decS_len]
  exact numL_len hk h
theorem decS_pos (n : Nat) : 1 ≤ (decS n).length := by
  rw [decS_len]
  exact List.length_pos_iff.mpr (numL_ne n)
theorem numL_zero : ∀ {n : Nat} {r : List Nat}, numL n = 48 :: r → n = 0 := by
  intro n
  induction n using Nat.strongRecOn with
  | _ n ih =>
    intro r h
    by_cases h1 : n < 10
    · rw [numL_lt h1] at h
      have := (List.cons.inj h).1
      omega
    · rw [numL_step (by omega)] at h
      cases e : numL (n / 10) with
      | nil => exact absurd e (numL_ne _)
      | cons a b =>
        rw [e] at h
        have e1 := (List.cons.inj h).1
        subst e1
        have := ih (n / 10) (by omega) e
        omega
theorem all_yes {α : Type} : ∀ xs : List α, (xs.map fun _ => D.bl true) = (xs.map fun _ => true).map D.bl := fun xs => by rw [List.map_map]; rfl
theorem all_true2 {α : Type} : ∀ xs : List α, (xs.map fun _ => true).all id = true := fun xs => by induction xs <;> simp_all
theorem digit_in {c : Nat} (h1 : 48 ≤ c) (h2 : c ≤ 57) {s : Store} : dIn (.str ⟨#[c]⟩) (.str "0123456789") s = some (.bl true) := by
  show some (D.bl (!(Builtin.Str.occurrences "0123456789" ⟨#[c]⟩ 0 ("0123456789" : Str).length 1).isEmpty)) = _
  rw [PySem.StrLaws.found_one]
  have : c ∈ ("0123456789" : Str).cps.toList := by
    have e : ("0123456789" : Str).cps.toList = [48, 49, 50, 51, 52, 53, 54, 55, 56, 57] := by decide
    rw [e]
    simp only [List.mem_cons, List.not_mem_nil, or_false]
    omega
  rw [decide_eq_true this]
theorem ev_number_in {n : Nat} {st : Store} {Q : D → Store → Prop} (h : n < 10 ^ 19) (k : Q (.int n) st) : EvF mf_number_in [.str (decS n)] st Q := by
  have l1 := decS_pos n
  have l2 := decS_le (by decide) h
  have dg := numL_digits n
  have fin2 : EvF fIntS [.str (decS n)] st fun d s => EvF (fun _ s => fin st d s) [] s Q := by
    refine ev_intS (n := n) (int_num (by rw [← decS_len]; omega)) (by omega) ?_
    exact fin_tree blw_int (closeOk_refl st) (by rw [List.take_length]; exact k)
  rw [mf_number_in, ev_mkF]
  unfold mb_number_in
  walk_at "ev"
  refine (evF_some (show (if (decS n).length ≤ sizeLine then some (D.int (decS n).length) else none : Option D).map _ = _ from by rw [if_pos (Nat.le_trans (by omega : _ ≤ 1000) (by decide))]; rfl)).mpr ?_
  refine ⟨_, le_int, ?_⟩
  rw [decide_eq_true (by omega), if_pos rfl]
  refine ⟨_, le_int, _, rfl, ?_⟩
  rw [decide_eq_true (by omega), if_neg (by decide)]
  refine lc_mapM (fun _ => true) (fun _ => .bl true) trivial ?_ ?_
  · intro c hc
    rw [decS_l] at hc
    obtain ⟨c1, c2⟩ := dg c hc
    refine ⟨_, rfl, ?_⟩
    walk_at "ev"
    exact fun _ => digit_in c1 c2
  · rw [filter_yes]
    refine ⟨by rw [List.length_map, Array.length_toList]; exact Nat.le_trans (show _ ≤ 1000 from by show (decS n).length ≤ _; omega) (by decide), ?_⟩
    rw [all_yes, ev_all, all_true2]
    refine ⟨_, rfl, ?_⟩
    rw [if_neg (by decide)]
    obtain ⟨c, r, hc⟩ : ∃ c r, numL n = c :: r := by
      cases e : numL n with
      | nil => exact absurd e (numL_ne n)
      | cons c r => exact ⟨c, r, rfl⟩
    have hix : dIx (.str (decS n)) (.int 0) st = some (.str ⟨#[c]⟩) := by
      show (if (decS n).length ≤ sizeLine then (atI (decS n).cps.toList 0).map fun c => D.str ⟨#[c]⟩ else none) = _
      rw [if_pos (Nat.le_trans (by omega : _ ≤ 1000) (by decide)), decS_l, hc, at_0]
      rfl
    refine ⟨_, hix, _, eq_str, _, rfl, ?_⟩
    by_cases h0 : c = 48
    · subst h0
      have hn := numL_zero hc
      subst hn
      rw [if_pos (by decide), if_neg (by decide)]
      exact fin2
    · rw [if_neg (by
        intro e
        rw [decide_eq_true_eq] at e
        have e2 := congrArg (fun z : Str => z.cps.toList) e
        have e3 : ("0" : Str).cps.toList = [48] := by decide
        rw [e3] at e2
        exact h0 (List.cons.inj e2).1)]
      exact fin2
theorem cut_natT {xs : List D} {b : Nat} : cutD xs (some (b : Int)) none = xs.drop b := by
  unfold cutD
  have e2 : HT.sIx xs.length xs.length none = xs.length := rfl
  rw [e2]
  by_cases h : b ≤ xs.length
  · have e1 : HT.sIx xs.length 0 (some (b : Int)) = b := by rw [HT.sIx_nat]; omega
    rw [e1, List.take_of_length_le (by rw [List.length_drop]; omega)]
  · have e1 : HT.sIx xs.length 0 (some (b : Int)) = xs.length := by rw [HT.sIx_nat]; omega
    rw [e1, List.drop_of_length_le (Nat.le_refl _), List.drop_of_length_le (by omega)]
    simp
theorem zip_asc {ls : List Int} (h : ls.Pairwise (· < ·)) : ∀ p ∈ ls.zip (ls.drop 1), p.1 < p.2 := by
  intro p hp
  obtain ⟨i, hi⟩ := List.mem_iff_getElem?.mp hp
  rw [List.getElem?_zip_eq_some, List.getElem?_drop] at hi
  obtain ⟨h1, h2⟩ := hi
  obtain ⟨l1, e1⟩ := List.getElem?_eq_some_iff.mp h1
  obtain ⟨l2, e2⟩ := List.getElem?_eq_some_iff.mp h2
  rw [← e1, ← e2]
  exact List.pairwise_iff_getElem.mp h i (1 + i) l1 l2 (by omega)
theorem zipped_ints (xs ys : List Int) : zipped (xs.map .int) (ys.map .int) = (xs.zip ys).map fun p => .tup [.int p.1, .int p.2] := by
  unfold zipped
  rw [List.zipWith_map, List.zip, List.map_zipWith]
theorem ev_are_lengths {S : Int} {ls : List Int} {st : Store} {Q : D → Store → Prop} (R : Rules S ls) (k : Q (.bl true) st) : EvF mf_are_lengths [.tup (ls.map .int), .int S] st Q := by
  have h6 := R.six
  have h1 : 1 ≤ ls.length := List.length_pos_iff.mpr R.ne
  have sz : ∀ n : Nat, n ≤ 6 → n ≤ sizeLine := fun n h => Nat.le_trans (show _ ≤ 1000 by omega) (by decide)
  rw [mf_are_lengths, ev_mkF]
  unfold mb_are_lengths
  walk_at "ev"
  refine EvF_of (show fIsi [.tup (ls.map .int), .ty "tuple"] st = some (.bl true, st) from rfl) ?_
  refine ⟨_, rfl, ?_⟩
  rw [if_neg (by decide), if_pos (by rw [List.length_map]; omega), if_neg (by rw [decide_eq_true (by rw [List.length_map]; omega)]; decide)]
  refine lc_mapM (fun _ => true) (fun _ => .bl true) trivial ?_ ?_
  · intro l hl
    obtain ⟨a, b⟩ := R.mem l hl
    refine ⟨_, rfl, ?_⟩
    walk_at "ev"
    refine fun _ => ev_is_integer ?_
    rw [decide_eq_true a, decide_eq_true b]
    exact ⟨rfl, rfl⟩
  · rw [filter_yes]
    refine ⟨sz _ (by rw [List.length_map]; exact h6), ?_⟩
    rw [all_yes, ev_all, all_true2]
    refine ⟨_, rfl, ?_⟩
    rw [if_neg (by decide)]
    refine ⟨.tup ((ls.drop 1).map .int), ?_, _, _, rfl, _, _, rfl, rfl, ?_⟩
    · show some (D.tup (cutD _ (some ((1 : Nat) : Int)) none)) = _
      rw [cut_natT, List.map_drop]
    rw [zipped_ints]
    refine lc_mapM (fun _ => true) (fun _ => .bl true) ⟨trivial, trivial⟩ ?_ ?_
    · intro p hp
      refine ⟨_, rfl, ?_⟩
      walk_at "ev"
      intro _
      exact zip_asc R.asc p hp
    · rw [filter_yes]
      refine ⟨sz _ (by rw [List.length_map, List.length_zip]; omega), ?_⟩
      rw [all_yes, ev_all, all_true2]
      exact fin_tree blw_bl (closeOk_refl st) (by rw [List.take_length]; exact k)
theorem ev_is_rules {S : Int} {ls : List Int} {st : Store} {Q : D → Store → Prop} (R : Rules S ls) (k : Q (.bl true) st) : EvF mf_is_rules [bookD S ls] st Q := by
  have s1 := R.s1
  have s2 := R.s2
  rw [mf_is_rules, ev_mkF]
  unfold mb_is_rules
  walk_at "ev"
  refine EvF_of (show fIsi [bookD S ls, .ty "tuple"] st = some (.bl true, st) from rfl) ?_
  refine ⟨_, rfl, ?_⟩
  rw [if_neg (by decide)]
  unfold bookD
  rw [ev_len_tup]
  refine ⟨_, ne_int, _, rfl, ?_⟩
  rw [show (!decide ((([D.int S, D.tup (ls.map .int)] : List D).length : Int) = 2)) = false from rfl, if_neg (by decide)]
  refine ⟨_, at_0, ev_is_integer ?_⟩
  rw [decide_eq_true s1, decide_eq_true s2]
  refine ⟨_, rfl, ?_⟩
  rw [if_neg (by decide)]
  refine ⟨_, at_1, _, at_0, ev_are_lengths R ?_⟩
  exact fin_tree blw_bl (closeOk_refl st) (by rw [List.take_length]; exact k)
def wordsS (ls : List Int) : List Str := ls.map fun l => decS l.toNat
def pageS (S : Int) (ls : List Int) : Str := decS S.toNat ++ ": " ++ Txt.join " " (wordsS ls)
theorem fmt_int {i : Int} (h : 0 ≤ i) : (Str.ofString (toString i) : Str) = decS i.toNat := by
  unfold decS
  rw [show ((i.toNat : Nat) : Int) = i by omega]
theorem tl_dec (n : Nat) : tl (decS n) = numL n := tl_num n
theorem joinL_mem {S : List Nat} {c : Nat} : ∀ {ps : List (List Nat)}, c ∈ joinL S ps → c ∈ S ∨ ∃ p ∈ ps, c ∈ p
  | [], h => absurd h (List.not_mem_nil)
  | [p], h => .inr ⟨p, List.mem_singleton.mpr rfl, h⟩
  | p :: q :: r, h => by
    rcases List.mem_append.mp (show c ∈ p ++ (S ++ joinL S (q :: r)) from h) with a | a
    · exact .inr ⟨p, List.mem_cons_self, a⟩
    · rcases List.mem_append.mp a with a | a
      · exact .inl a
      · rcases joinL_mem a with b | ⟨z, mz, b⟩
        · exact .inl b
        · exact .inr ⟨z, List.mem_cons_of_mem _ mz, b⟩
theorem joinL_len {S : List Nat} {k : Nat} : ∀ {ps : List (List Nat)}, (∀ p ∈ ps, p.length ≤ k) → (joinL S ps).length ≤ ps.length * (k + S.length)
  | [], _ => Nat.zero_le _
  | [p], h => by
    have := h p (List.mem_singleton.mpr rfl)
    show p.length ≤ 1 * (k + S.length)
    omega
  | p :: q :: r, h => by
    have h1 := h p List.mem_cons_self
    have h2 := joinL_len (S := S) (ps := q :: r) fun z mz => h z (List.mem_cons_of_mem _ mz)
    show (p ++ (S ++ joinL S (q :: r))).length ≤ ((q :: r).length + 1) * (k + S.length)
    rw [List.length_append, List.length_append, Nat.add_mul]
    omega
theorem join_len {y : Str} {ps : List Str} {k : Nat} (h : ∀ p ∈ ps, p.length ≤ k) : (Txt.join y ps).length ≤ ps.length * (k + y.length) := by
  have := joinL_len (S := tl y) (k := k) (ps := ps.map tl) fun p mp => by
    obtain ⟨z, mz, rfl⟩ := List.mem_map.mp mp
    rw [← len_tl]
    exact h z mz
  rw [join_eq, len_tl, tl_join, len_tl (x := y)]
  rwa [List.length_map] at this
theorem words_le2 {S : Int} {ls : List Int} (R : Rules S ls) : ∀ z ∈ wordsS ls, z.length ≤ 3 := fun z mz => by
  obtain ⟨l, ml, rfl⟩ := List.mem_map.mp mz
  have a := R.mem l ml
  have b := R.s2
  exact decS_le (by decide) (show l.toNat < 10 ^ 3 by omega)
theorem split_page {S : Int} {ls : List Int} (R : Rules S ls) : Txt.split (pageS S ls) ": " = [decS S.toNat, Txt.join " " (wordsS ls)] := by
  have e : pageS S ls = Txt.join ": " [decS S.toNat, Txt.join " " (wordsS ls)] := by
    rw [join_eq]
    rfl
  rw [e]
  refine split_join (s := 58) (S := [32]) (by decide +kernel) (by decide +kernel) (by simp) fun p hp => ?_
  rcases List.mem_cons.mp hp with rfl | hp
  · rw [tl_dec]
    exact numL_free (by omega)
  · rw [List.mem_singleton.mp hp, join_eq, tl_join]
    intro hm
    rcases joinL_mem hm with a | ⟨p, mp, a⟩
    · exact absurd a (by decide +kernel)
    · obtain ⟨z, mz, rfl⟩ := List.mem_map.mp mp
      obtain ⟨l, _, rfl⟩ := List.mem_map.mp mz
      rw [tl_dec] at a
      exact numL_free (by omega) a
theorem split_words {S : Int} {ls : List Int} (R : Rules S ls) : Txt.split (Txt.join " " (wordsS ls)) " " = wordsS ls := by
  refine split_join (s := 32) (S := []) (by decide +kernel) (by decide +kernel) (fun e => R.ne (List.map_eq_nil_iff.mp e)) fun p hp => ?_
  obtain ⟨l, _, rfl⟩ := List.mem_map.mp hp
  rw [tl_dec]
  exact numL_free (by omega)
theorem len_app (a b : Str) : (a ++ b).length = a.length + b.length := by rw [len_tl, tl_append, List.length_append, ← len_tl, ← len_tl]
theorem empty_app (a : Str) : Str.empty ++ a = a := map_tl_one (by rw [tl_append]; rfl)
where map_tl_one {a b : Str} (h : tl a = tl b) : a = b := (List.cons.inj (map_tl_inj (l := [a]) (m := [b]) (by show [tl a] = [tl b]; rw [h]))).1
theorem log2_ok {n : Nat} (h : n < 10 ^ 30) : n.log2 < 1920 := by
  by_cases h0 : n = 0
  · subst h0
    decide
  · exact (Nat.log2_lt h0).mpr (Nat.lt_of_lt_of_le h (by decide +kernel))
theorem page_len {S : Int} {ls : List Int} (R : Rules S ls) : (decS S.toNat).length ≤ 3 ∧ (Txt.join " " (wordsS ls)).length ≤ 24 ∧ (pageS S ls).length ≤ 29 := by
  have s1 := R.s1
  have s2 := R.s2
  have h1 : (decS S.toNat).length ≤ 3 := decS_le (by decide) (show S.toNat < 10 ^ 3 by omega)
  have h2 := join_len (y := " ") (words_le2 R)
  have h3 : (wordsS ls).length ≤ 6 := by rw [wordsS, List.length_map]; exact R.six
  have h4 : (" " : Str).length = 1 := by decide
  have h5 : (": " : Str).length = 2 := by decide
  rw [h4] at h2
  have h6 : (Txt.join " " (wordsS ls)).length ≤ 24 := by omega
  refine ⟨h1, h6, ?_⟩
  unfold pageS
  rw [len_app, len_app, h5]
  omega
theorem sum_le {xs : List Str} {k : Nat} (h : ∀ x ∈ xs, x.length ≤ k) : (xs.map (·.length)).sum ≤ xs.length * k := by
  induction xs with
  | nil => exact Nat.zero_le _
  | cons x xs ih =>
    have h1 := h x List.mem_cons_self
    have h2 := ih fun y my => h y (List.mem_cons_of_mem _ my)
    rw [List.map_cons, List.sum_cons, List.length_cons, Nat.add_mul]
    omega
theorem words_map (ls : List Int) : (ls.map fun l => D.str (decS l.toNat)) = (wordsS ls).map .str := by rw [wordsS, List.map_map]; rfl
theorem ev_show_rules {S : Int} {ls : List Int} {st : Store} {Q : D → Store → Prop} (R : Rules S ls) (k : Q (.str (pageS S ls)) st) : EvF mf_show_rules [bookD S ls] st Q := by
  have s1 := R.s1
  have s2 := R.s2
  obtain ⟨p1, p2, p3⟩ := page_len R
  have h4 : (" " : Str).length = 1 := by decide
  have h5 : (": " : Str).length = 2 := by decide
  have sz : ∀ n : Nat, n ≤ 1000 → n ≤ sizeLine := fun n h => Nat.le_trans h (by decide)
  rw [mf_show_rules, ev_mkF]
  unfold mb_show_rules bookD
  walk_at "ev"
  rw [empty_app, fmt_int (by omega)]
  refine ⟨log2_ok (Nat.lt_of_lt_of_le (show S.natAbs < 1000 by omega) (by decide)), sz _ (by omega), sz _ (by omega), sz _ (by rw [len_app]; omega), ?_⟩
  refine lc_mapM (fun _ => true) (fun l => .str (decS l.toNat)) trivial ?_ ?_
  · intro l hl
    have lm := R.mem l hl
    refine ⟨_, rfl, ?_⟩
    walk_at "ev"
    refine fun _ => ?_
    refine EvF_of (d := .str (decS l.toNat)) (st' := st) ?_ ⟨rfl, rfl⟩
    rw [← fmt_int (by omega)]
    show (if l.natAbs.log2 < 1920 then some (D.str (Str.ofString (toString l))) else none : Option D).map _ = _
    rw [if_pos (log2_ok (Nat.lt_of_lt_of_le (show l.natAbs < 1000 by omega) (by decide)))]
    rfl
  · rw [filter_yes, words_map]
    have h6 : (wordsS ls).length ≤ 6 := by rw [wordsS, List.length_map]; exact R.six
    have h7 := sum_le (words_le2 R)
    refine ⟨sz _ (by rw [List.length_map]; omega), _, rfl, _, strsOf_map, by rw [h4]; omega, ?_⟩
    refine ⟨.str (pageS S ls), ?_, fin_tree blw_str (closeOk_refl st) (by rw [List.take_length]; exact k)⟩
    show (if _ + _ ≤ sizeLine then _ else _) = _
    rw [if_pos (sz _ (by rw [len_app]; omega))]
    rfl
theorem ev_rules_in {S : Int} {ls : List Int} {st : Store} {Q : D → Store → Prop} (R : Rules S ls) (k : Q (bookD S ls) st) : EvF mf_rules_in [.str (pageS S ls)] st Q := by
  have s1 := R.s1
  have s2 := R.s2
  obtain ⟨p1, p2, p3⟩ := page_len R
  have sz : ∀ n : Nat, n ≤ 1000 → n ≤ sizeLine := fun n h => Nat.le_trans h (by decide)
  rw [mf_rules_in, ev_mkF]
  unfold mb_rules_in
  walk_at "ev"
  refine ⟨by decide, sz _ (by omega), ?_⟩
  rw [split_page R]
  refine ⟨_, _, rfl, (by decide : 1 < 16384), ?_⟩
  refine (if_pos (show ((([Txt.join (Str.ofString " ") (wordsS ls)].map D.str).length : Int) = 2 - 1) from rfl)).mpr ?_
  refine ⟨_, rfl, _, rfl, by decide, sz _ (by omega), ?_⟩
  rw [split_words R]
  refine ev_number_in (Nat.lt_of_lt_of_le (show S.toNat < 1000 by omega) (by decide)) ?_
  have e0 : ((S.toNat : Nat) : Int) = S := by omega
  rw [e0, wordsS, List.map_map]
  refine lc_mapM (fun _ => true) (fun l => .int l) trivial ?_ ?_
  · intro l hl
    have lm := R.mem l hl
    refine ⟨_, rfl, ?_⟩
    walk_at "ev"
    refine fun _ => ?_
    refine ev_number_in (Nat.lt_of_lt_of_le (show l.toNat < 1000 by omega) (by decide)) ⟨rfl, ?_⟩
    rw [show ((l.toNat : Nat) : Int) = l by omega]
  · rw [filter_yes]
    refine ⟨sz _ (by have := R.six; rw [List.length_map]; omega), ?_⟩
    refine ev_is_rules R ?_
    refine ⟨_, rfl, ?_⟩
    rw [if_pos rfl]
    exact fin_tree (blw_tup (blws_cons blw_int (blws_cons (blw_tup blws_ints) blws_nil))) (closeOk_refl st) (by rw [List.take_length]; exact k)
theorem ev_read_rules {S : Int} {ls : List Int} {st : Store} {Q : D → Store → Prop} (R : Rules S ls) (k : Q (bookD S ls) st) : EvF mf_read_rules [.str (pageS S ls)] st Q := by
  rw [mf_read_rules, ev_mkF]
  unfold mb_read_rules
  walk_at "ev"
  refine EvF_of (show fIsi [.str (pageS S ls), .ty "str"] st = some (.bl true, st) from rfl) ?_
  refine ⟨_, rfl, ?_⟩
  rw [if_neg (by decide)]
  refine ev_rules_in R ?_
  refine ⟨false, rfl, ?_⟩
  rw [if_neg (by decide)]
  exact fin_tree (blw_tup (blws_cons blw_int (blws_cons (blw_tup blws_ints) blws_nil))) (closeOk_refl st) (by rw [List.take_length]; exact k)
theorem ev_dec {i : Int} {st : Store} {Q : D → Store → Prop} (h0 : 0 ≤ i) (h1 : i < 10 ^ 25) (k : Q (.str (decS i.toNat)) st) : EvF fStr [.int i] st Q := by
  refine EvF_of (d := .str (decS i.toNat)) (st' := st) ?_ k
  rw [← fmt_int h0]
  show (if i.natAbs.log2 < 1920 then some (D.str (Str.ofString (toString i))) else none : Option D).map _ = _
  rw [if_pos (log2_ok (Nat.lt_of_lt_of_le (show i.natAbs < 10 ^ 25 by omega) (by decide)))]
  rfl
theorem add_str {a b : Str} {st : Store} (h : a.length + b.length ≤ 1000000) : dAdd (.str a) (.str b) st = some (.str (a ++ b)) := by
  show (if _ + _ ≤ sizeLine then _ else _) = _
  rw [if_pos (Nat.le_trans h (by decide))]
theorem RP.book {S : Int} {ls : List Int} (R : Rules S ls) : RP 120 2 (bookD S ls) (.tuple [.int S, .tuple (ls.map .int)]) := by
  have s1 := R.s1
  have s2 := R.s2
  have a : RP 48 1 (.int S) (.int S) := (RP.int 3 (by omega)).mono (by decide) (by decide)
  have b : RP 48 1 (.tup (ls.map .int)) (.tuple (ls.map .int)) := (RP.ints 3 6 (fun l hl => by have := R.mem l hl; omega) R.six).mono (by decide) (by decide)
  exact ((RPs.cons a (.cons b .nil)).tup).mono (by show 2 * (48 + 2) + 3 ≤ 120; decide) (Nat.le_refl _)
end My

namespace My
open PySem PySem.Spec PyProof.Rows L2 TL
local macro_rules | `(tactic| walk_at "ev") => `(tactic| try simp only [ev_split, ev_join, ev_fs, ev_fs0, ev_fs1, ev_fmt, ev_strI, ev_starL, ev_wOr, ev_dispM, gLs, ev_slM2, ev_methN, ev_fldAugM, ev_stuck, ev_rev, ev_star2, ev_bF, ev_tupF, ev_len_tpf, ix_tpf, len_tpf, ev_tuple_tpf, ev_tupleF_lst, ev_var, ev_c, ev_un, ev_op, ev_nil, ev_cons, ev_call, ev_callD, ev_callN, ev_callK, ev_opM, ev_lcM, ev_lz, ev_dcT, ev_lrg1, ev_lrg2, ev_trg1, ev_trg2, ev_zipM, ev_callO, ev_star, ev_itemsT, ev_newN, pick0, pick1, pick2, ev_ifW, ev_named, ev_tup, ev_lst, ev_lstM, ev_dkM, ev_dtM, ev_bE, ev_bAnd, ev_bOr, ev_bNot, ev_bYes, ev_eAnd, ev_eOr, ev_eNot, ev_if, ev_chain, ev_oNone, ev_oSome, ev_sl, ev_bm, ev_skip, ev_brk, ev_cnt, ev_seq, then_nx, then_rt, then_bk, then_ct, ev_set, ev_asg, ev_par, ev_par3, ev_ret, ev_drop, ev_sIf, ev_aug, ev_sub, ev_seqI, ev_fld, ev_fldM, ev_meth, ev_new, ev_newK, ev_enum, ev_zip, ev_range1, ev_range2, ev_for, ev_lc, enter, gNm, gsNil, gsCons, gTp, wipeE,
  List.map_cons, List.map_nil, List.length_cons, List.length_nil, List.replicate, List.cons_append, List.nil_append, List.append_nil, List.getElem?_cons_zero, List.getElem?_cons_succ, List.set_cons_zero, List.set_cons_succ, Option.some.injEq, exists_eq_left', exists_eq_left, D.bl.injEq, D.int.injEq, D.str.injEq, D.tup.injEq, D.lst.injEq, D.ref.injEq, decide_eq_true_eq, List.cons.injEq, and_true, true_and, if_true, if_false, reduceCtorEq, Bool.false_eq_true, ite_true, ite_false, Nat.sub_self, Nat.reduceAdd, Nat.reduceSub, Nat.zero_add, exists_and_left, exists_const, Bool.not_true, Bool.not_false, Bool.not_eq_true', exists_eq_right, and_assoc, List.length_set, exists_eq_right',
  add_int, addI_int, sub_int, neg_int, lt_int, le_int, gt_int, ge_int, eq_int, ne_int, eq_str, ne_str, eq_bl, ne_bl, eq_is, eq_si, ne_is, ne_si, is_nn, ix_tup, ix_lst, ix_scr, at_0, at_1, at_2, at_3, len_tup, len_lst, len_scr, outF, outK, ev_len_tup, ev_len_lst, ev_len_scr, ev_abs, ev_int, ev_intb, ev_max2, ev_min2, ev_tuple_lst, ev_tuple_tup, ev_list_lst, ev_list_tup, sz0, sz1, sz2, sz3, sz4, sz5, sz6, sz7, sz8, sz9, sz10, sz11, sz12, s_rl, s_lr, atI_last, decide_false, decide_true, Bool.or_false, Bool.false_or])
local macro_rules | `(tactic| walk_at "st") => `(tactic| try simp only [List.append_assoc, List.cons_append, List.nil_append, List.length_append, List.length_cons, List.length_nil, Nat.reduceAdd, Nat.add_assoc])
noncomputable def mb_Lright : SM :=
(sSeq (sSet 1 (eCallD 2 mf_Lbook [] (aCons (eVar 0) (aCons (eC (.int 100)) aNil))))
(sSeq (sPar 2 3 (aCons (eOp dAdd (eOp dAdd (eCall fStr (aCons (eOp dIx (eVar 1) (eC (.int 0))) aNil)) (eC (.str ":"))) (eJoin (eC (.str "")) (eLc (iSeq (eOp dIx (eVar 1) (eC (.int 1)))) (gNm 4) bYes (eOp dAdd (eC (.str " ")) (eCall fStr (aCons (eVar 4) aNil))) [4]))) (aCons (eCall fRepr (aCons (eVar 1) aNil)) aNil)))
(sRet (eAnd (eOp dEq (eCallD 1 mf_show_rules [] (aCons (eVar 1) aNil)) (eVar 2)) (eAnd (eOp dEq (eCall fRepr (aCons (eCallD 1 mf_read_rules [] (aCons (eVar 2) aNil)) aNil)) (eVar 3)) (eOp dEq (eCall fRepr (aCons (eVar 1) aNil)) (eVar 3)))))))
noncomputable def mf_Lright : FM := mkF 5 mb_Lright

noncomputable def mb_law : SM :=
(sSeq (sFor (iRange1 (eCall fMax (aCons (eC (.int 1)) (aCons (eCall fMin (aCons (eC (.int 3)) (aCons (eCall fLen (aCons (eVar 0) aNil)) aNil))) aNil)))) (gNm 1)
(sSeq (sSet 2 (eCallD 2 mf_Lbox [] (aCons (eVar 0) (aCons (eVar 1) aNil))))
(sIf (bNot (bE (eCall fAll (aCons (eLc (iRange1 (eC (.int 12))) (gNm 3) bYes (eCallD 1 mf_Lright [] (aCons (eVar 2) aNil)) [3]) aNil))))
(sRet (eC (.bl false)))
sSkip)))
(sRet (eOp dEq (eCallD 1 mf_show_rules [] (aCons (eTup (aCons (eC (.int 100)) (aCons (eTup (aCons (eC (.int 1)) (aCons (eC (.int 2)) (aCons (eC (.int 3)) (aCons (eC (.int 4)) (aCons (eC (.int 50)) (aCons (eC (.int 100)) aNil))))))) aNil))) aNil)) (eC (.str "100: 1 2 3 4 50 100")))))
noncomputable def mf_law : FM := mkF 4 mb_law

theorem joinL_bl : ∀ {ps : List (List Nat)}, ps ≠ [] → joinL [] (ps.map (32 :: ·)) = 32 :: joinL [32] ps
  | [], h => absurd rfl h
  | [p], _ => rfl
  | p :: q :: r, _ => by
    show (32 :: p) ++ ([] ++ joinL [] ((q :: r).map (32 :: ·))) = 32 :: (p ++ ([32] ++ joinL [32] (q :: r)))
    rw [joinL_bl (by simp)]
    simp
theorem page_eq {S : Int} {ls : List Int} (R : Rules S ls) : decS S.toNat ++ ":" ++ Txt.join "" (ls.map fun l => " " ++ decS l.toNat) = pageS S ls := by
  have inj : ∀ {a b : Str}, tl a = tl b → a = b := fun {a b} h => (List.cons.inj (map_tl_inj (l := [a]) (m := [b]) (by show [tl a] = [tl b]; rw [h]))).1
  apply inj
  unfold pageS
  rw [tl_append, tl_append, tl_append, tl_append, join_eq, tl_join, join_eq, tl_join, tl_dec]
  have e1 : tl (":" : Str) = [58] := by decide +kernel
  have e2 : tl (": " : Str) = [58, 32] := by decide +kernel
  have e3 : tl ("" : Str) = [] := by decide +kernel
  have e4 : tl (" " : Str) = [32] := by decide +kernel
  have e5 : (ls.map fun l => " " ++ decS l.toNat).map tl = (ls.map fun l => numL l.toNat).map (32 :: ·) := by
    rw [List.map_map, List.map_map]
    refine List.map_congr_left fun l _ => ?_
    show tl (" " ++ decS l.toNat) = _
    rw [tl_append, e4, tl_dec]
    rfl
  have e6 : (wordsS ls).map tl = ls.map fun l => numL l.toNat := by
    unfold wordsS
    rw [List.map_map]
    exact List.map_congr_left fun l _ => tl_dec _
  rw [e1, e2, e3, e4, e5, e6, joinL_bl (fun e => R.ne (List.map_eq_nil_iff.mp e))]
  simp
theorem ev_right {st : Store} {b n : Nat} {c : D} {Q : D → Store → Prop} (hb : st[b]? = some c) (hc : BoxC n c) (hn : n + 100 < 2 ^ 40) (k : ∀ c', BoxC (n + 100) c' → Q (.bl true) (st.set b c')) : EvF mf_Lright [.ref b] st Q := by
  have hlt := up_lt hb
  have sz : ∀ n : Nat, n ≤ 1000 → n ≤ sizeLine := fun n h => Nat.le_trans h (by decide)
  rw [mf_Lright, ev_mkF]
  unfold mb_Lright
  walk_at "ev"
  refine ev_book hb hc (by omega) (by decide) (by decide) fun S ls c1 R _ B1 => ?_
  have s1 := R.s1
  have s2 := R.s2
  obtain ⟨p1, p2, p3⟩ := page_len R
  have h6 := R.six
  have c1' : (":" : Str).length = 1 := by decide
  have c2' : (" " : Str).length = 1 := by decide
  have c3' : ("" : Str).length = 0 := by decide
  walk_at "ev"
  refine ev_dec (by omega) (by omega) ?_
  refine ⟨_, add_str (by omega), ?_⟩
  refine lc_mapM (fun _ => true) (fun l => .str (" " ++ decS l.toNat)) trivial ?_ ?_
  · intro l hl
    have lm := R.mem l hl
    refine ⟨_, rfl, ?_⟩
    walk_at "ev"
    refine fun _ => ev_dec (by omega) (by omega) ?_
    have := decS_le (n := l.toNat) (k := 3) (by decide) (by omega)
    exact ⟨_, add_str (by omega), rfl, rfl⟩
  · rw [filter_yes]
    have em : (ls.map fun l => D.str (" " ++ decS l.toNat)) = (ls.map fun l => " " ++ decS l.toNat).map .str := by rw [List.map_map]; rfl
    rw [em]
    have wl : ∀ z ∈ (ls.map fun l => " " ++ decS l.toNat), z.length ≤ 4 := fun z mz => by
      obtain ⟨l, ml, rfl⟩ := List.mem_map.mp mz
      have lm := R.mem l ml
      have := decS_le (n := l.toNat) (k := 3) (by decide) (by omega)
      rw [len_app]
      omega
    have h7 := sum_le wl
    have h8 := join_len (y := "") wl
    rw [List.length_map] at h7 h8
    have h9 : ls.length * (4 + ("" : Str).length) ≤ 24 := by rw [c3']; omega
    refine ⟨sz _ (by rw [List.length_map, List.length_map]; omega), _, rfl, _, strsOf_map, by rw [List.length_map, c3']; omega, ?_⟩
    refine ⟨_, add_str (by rw [len_app]; omega), ?_⟩
    rw [page_eq R]
    have pb := RP.book R
    unfold bookD at pb
    refine ev_repr pb (by decide) (by decide) ?_
    refine ev_show_rules R ?_
    refine ⟨_, eq_str, _, rfl, ?_⟩
    rw [decide_eq_true rfl, if_pos rfl]
    refine ev_read_rules R ?_
    refine ev_repr pb (by decide) (by decide) ?_
    refine ⟨_, eq_str, _, rfl, ?_⟩
    rw [decide_eq_true rfl, if_pos rfl]
    refine ev_repr pb (by decide) (by decide) ?_
    refine ⟨_, eq_str, ?_⟩
    rw [decide_eq_true rfl]
    exact fin_set blw_bl B1.blw (k c1 (B1.mono (by omega)))
theorem law_due (ns : List Int) (hl : ns.length ≤ 63) : EvF mf_law [.scr ns] [] fun d _ => d = .bl true := by
  rw [mf_law, ev_mkF]
  unfold mb_law
  rw [ev_seq]
  refine ev_headA (R := 100) hl (by decide) (by decide) (by decide) ?_ ?_
  · intro x1 x3 st b c n hb hc hn
    walk_at "ev"
    refine ev_right hb hc (by omega) fun c2 B2 => ?_
    exact ⟨rfl, c2, B2, rfl⟩
  · intro x1 x2 x3 st
    walk_at "ev"
    have R : Rules 100 [1, 2, 3, 4, 50, 100] := ⟨by decide, by decide, by decide, by decide, by decide, by decide⟩
    refine ev_show_rules R ?_
    refine ⟨_, eq_str, ?_⟩
    rw [decide_eq_true (by decide +kernel : pageS 100 [1, 2, 3, 4, 50, 100] = "100: 1 2 3 4 50 100")]
    exact fin_tree blw_bl (fun i hi => absurd hi (Nat.not_lt_zero _)) rfl
end My

namespace My
open PySem PySem.Spec PyProof.Rows L2
def top (i : Nat) : Stmt := PySem.Challenge.pw_rotatedlogs_k63_texts_of_rules.main.body.getD i (.Pass ⟨0, 0, 0, 0⟩)
abbrev s_Lbox : Stmt := top 21
abbrev N_Lbox : List Str := ["_law_script", "_law_k", "_law_cell", "_law_own"]
theorem sc_Lbox : FnScope N_Lbox ["_law_script", "_law_k"] (defScope s_Lbox) := ⟨rfl, rfl, rfl, by decide +kernel, rfl, by decide +kernel, by decide +kernel⟩
abbrev s_Ltake : Stmt := top 22
abbrev N_Ltake : List Str := ["_law_box_here", "_law_many", "_law_digit", "_law_mixed"]
theorem sc_Ltake : FnScope N_Ltake ["_law_box_here", "_law_many"] (defScope s_Ltake) := ⟨rfl, rfl, rfl, by decide +kernel, rfl, by decide +kernel, by decide +kernel⟩
abbrev s_Lof : Stmt := top 23
abbrev N_Lof : List Str := ["_law_box_here", "_law_some"]
theorem sc_Lof : FnScope N_Lof ["_law_box_here", "_law_some"] (defScope s_Lof) := ⟨rfl, rfl, rfl, by decide +kernel, rfl, by decide +kernel, by decide +kernel⟩
abbrev s_Lbook : Stmt := top 24
abbrev N_Lbook : List Str := ["_law_box_here", "_law_top", "_law_size", "_law_found", "_law_turn", "_law_some"]
theorem sc_Lbook : FnScope N_Lbook ["_law_box_here", "_law_top"] (defScope s_Lbook) := ⟨rfl, rfl, rfl, by decide +kernel, rfl, by decide +kernel, by decide +kernel⟩
abbrev s_is_integer : Stmt := top 7
abbrev N_is_integer : List Str := ["value", "least", "most"]
theorem sc_is_integer : FnScope N_is_integer ["value", "least", "most"] (defScope s_is_integer) := ⟨rfl, rfl, rfl, by decide +kernel, rfl, by decide +kernel, by decide +kernel⟩
abbrev s_are_lengths : Stmt := top 8
abbrev N_are_lengths : List Str := ["value", "size", "one", "other", "length"]
theorem sc_are_lengths : FnScope N_are_lengths ["value", "size"] (defScope s_are_lengths) := ⟨rfl, rfl, rfl, by decide +kernel, rfl, by decide +kernel, by decide +kernel⟩
abbrev s_is_rules : Stmt := top 9
abbrev N_is_rules : List Str := ["value"]
theorem sc_is_rules : FnScope N_is_rules ["value"] (defScope s_is_rules) := ⟨rfl, rfl, rfl, by decide +kernel, rfl, by decide +kernel, by decide +kernel⟩
abbrev s_number_in : Stmt := top 16
abbrev N_number_in : List Str := ["word", "digit"]
theorem sc_number_in : FnScope N_number_in ["word"] (defScope s_number_in) := ⟨rfl, rfl, rfl, by decide +kernel, rfl, by decide +kernel, by decide +kernel⟩
abbrev s_rules_in : Stmt := top 18
abbrev N_rules_in : List Str := ["text", "first", "rest", "words", "rules", "word"]
theorem sc_rules_in : FnScope N_rules_in ["text"] (defScope s_rules_in) := ⟨rfl, rfl, rfl, by decide +kernel, rfl, by decide +kernel, by decide +kernel⟩
abbrev s_read_rules : Stmt := top 19
abbrev N_read_rules : List Str := ["text", "rules"]
theorem sc_read_rules : FnScope N_read_rules ["text"] (defScope s_read_rules) := ⟨rfl, rfl, rfl, by decide +kernel, rfl, by decide +kernel, by decide +kernel⟩
abbrev s_show_rules : Stmt := top 17
abbrev N_show_rules : List Str := ["rules", "size", "lengths", "length"]
theorem sc_show_rules : FnScope N_show_rules ["rules"] (defScope s_show_rules) := ⟨rfl, rfl, rfl, by decide +kernel, rfl, by decide +kernel, by decide +kernel⟩
abbrev s_Lright : Stmt := top 25
abbrev N_Lright : List Str := ["_law_box_here", "_law_book_here", "_law_page", "_law_kept_so", "_law_one"]
theorem sc_Lright : FnScope N_Lright ["_law_box_here"] (defScope s_Lright) := ⟨rfl, rfl, rfl, by decide +kernel, rfl, by decide +kernel, by decide +kernel⟩
abbrev s_law : Stmt := top 26
abbrev N_law : List Str := ["_law_script", "_law_k", "_law_box_here", "_law_turn"]
theorem sc_law : FnScope N_law ["_law_script"] (defScope s_law) := ⟨rfl, rfl, rfl, by decide +kernel, rfl, by decide +kernel, by decide +kernel⟩
structure Txt (K : PySem.W.Frag) (mg : Str → Option Value) : Prop where
  d_Lbox : Df K mg "_law_box" s_Lbox ["_law_script", "_law_k"]
  d_Ltake : Df K mg "_law_take" s_Ltake ["_law_box_here", "_law_many"]
  d_Lof : Df K mg "_law_of" s_Lof ["_law_box_here", "_law_some"]
  d_Lbook : Df K mg "_law_book" s_Lbook ["_law_box_here", "_law_top"]
  d_is_integer : Df K mg "is_integer" s_is_integer ["value", "least", "most"]
  d_are_lengths : Df K mg "are_lengths" s_are_lengths ["value", "size"]
  d_is_rules : Df K mg "is_rules" s_is_rules ["value"]
  d_number_in : Df K mg "number_in" s_number_in ["word"]
  d_rules_in : Df K mg "rules_in" s_rules_in ["text"]
  d_read_rules : Df K mg "read_rules" s_read_rules ["text"]
  d_show_rules : Df K mg "show_rules" s_show_rules ["rules"]
  d_Lright : Df K mg "_law_right" s_Lright ["_law_box_here"]
  n_abs : mg "abs" = none
  n_int : mg "int" = none
  n_len : mg "len" = none
  n_tuple : mg "tuple" = none
  n_sorted : mg "sorted" = none
  n_range : mg "range" = none
  n_max : mg "max" = none
  n_isinstance : mg "isinstance" = none
  n_bool : mg "bool" = none
  n_all : mg "all" = none
  n_zip : mg "zip" = none
  n_str : mg "str" = none
  n_repr : mg "repr" = none
  n_min : mg "min" = none
  c_MOST_LENGTHS : ∃ t : Tok, mg "MOST_LENGTHS" = some (Value.int (6) t)
  c_GREATEST_SIZE : ∃ t : Tok, mg "GREATEST_SIZE" = some (Value.int (100) t)
  c_PAIR : ∃ t : Tok, mg "PAIR" = some (Value.int (2) t)
  c_DIGITS : ∃ t : Tok, mg "DIGITS" = some (Value.str "0123456789" t)
  c_MOST_DIGITS : ∃ t : Tok, mg "MOST_DIGITS" = some (Value.int (19) t)
  c_PARTS : ∃ t : Tok, mg "PARTS" = some (Value.int (2) t)
  c_BLANK : ∃ t : Tok, mg "BLANK" = some (Value.str " " t)
  c_COLON : ∃ t : Tok, mg "COLON" = some (Value.str ": " t)

section
variable {P : Program} {w : World} {K : PySem.W.Frag} {mg : Str → Option Value} {base : Heap}
theorem ok_Lbox {f : Addr} {fd : FuncData} (T : Txt K mg) (F : Fun K "_law_box" "_law_box" s_Lbox f fd) : FnOk P w K mg base CX0 1 f fd ["_law_script", "_law_k"] (spM (wd K mg) 2 mf_Lbox) := by
  have nd := sc_Lbox.nd
  refine jdK (W := wd K mg) F sc_Lbox (fun cdv A out s H E hr => ?_)
  have hK : K = (wd K mg).K := rfl
  unfold mb_Lbox
  exact (jb_cons (js_set (i := 2) nd rfl (Or.inl rfl) (j_if (jt_cmp jo_lt (jv 1) (j_callB (jc_len hK) (by rfl) T.n_len (by decide +kernel) (ja_cons (jv 0) ja_nil)) (nomark _)) (j_ix (ji_ix hK (hu_of hr)) (jv 0) (jv 1) (fun _ _ => rfl)) (j_op (jo_add hK) (j_op (jo_mul hK) j_int (jv 1)) j_int)))
(jb_cons (js_set (i := 3) nd rfl (Or.inl rfl) (j_op (jo_mul hK) (j_op jo_mod (j_callB jc_abs (by rfl) T.n_abs (by decide +kernel) (ja_cons (jv 2) ja_nil)) (j_op jo_pow (j_op jo_pow j_int j_int) j_int)) (j_callTy jc_int (by rfl) T.n_int (by decide +kernel) (ja_cons (j_cmp jo_ge (j_callB jc_abs (by rfl) T.n_abs (by decide +kernel) (ja_cons (jv 2) ja_nil)) (j_op jo_pow j_int j_int) (nomark _)) ja_nil))))
(jb_one (js_ret (j_lstM (ja_cons (jv 3) (ja_cons (j_op jo_mod (j_op (jo_add hK) (j_op (jo_add hK) (j_op (jo_mul hK) (j_op jo_mod (jv 2) j_int) j_int) (j_op (jo_mul hK) (j_op (jo_mul hK) j_int (jv 1)) (jv 1))) j_int) j_int) (ja_cons j_int ja_nil))))))))
theorem ok_Ltake {f : Addr} {fd : FuncData} (T : Txt K mg) (F : Fun K "_law_take" "_law_take" s_Ltake f fd) : FnOk P w K mg base CX0 1 f fd ["_law_box_here", "_law_many"] (spM (wd K mg) 2 mf_Ltake) := by
  have nd := sc_Ltake.nd
  refine jd (W := wd K mg) F sc_Ltake (fun cdv A out s H E hr => ?_)
  have hK : K = (wd K mg).K := rfl
  unfold mb_Ltake
  exact (jb_cons (js_if (jt_cmp jo_gt (j_ix (ji_ix hK (hu_of hr)) (jv 0) j_int (fun _ _ => rfl)) j_int (nomark _))
(jb_cons (js_set (i := 2) nd rfl (Or.inl rfl) (j_op jo_mod (j_ix (ji_ix hK (hu_of hr)) (jv 0) j_int (fun _ _ => rfl)) (jv 1)))
(jb_cons (js_sub (j_op jo_fdiv (j_ix (ji_ix hK (hu_of hr)) (jv 0) j_int (fun _ _ => rfl)) (jv 1)) (jv 0) j_int (jp_set (hu_of hr)))
(jb_one (js_ret (jv 2)))))
jb_nil)
(jb_cons (js_sub (j_op (jo_add hK) (j_ix (ji_ix hK (hu_of hr)) (jv 0) j_int (fun _ _ => rfl)) j_int) (jv 0) j_int (jp_set (hu_of hr)))
(jb_cons (js_set (i := 3) nd rfl (Or.inl rfl) (j_op jo_mod (j_op (jo_mul hK) (j_op (jo_add hK) (j_op (jo_add hK) (j_ix (ji_ix hK (hu_of hr)) (jv 0) j_int (fun _ _ => rfl)) (j_op (jo_mul hK) (j_op (jo_mul hK) j_int (j_ix (ji_ix hK (hu_of hr)) (jv 0) j_int (fun _ _ => rfl))) (j_ix (ji_ix hK (hu_of hr)) (jv 0) j_int (fun _ _ => rfl)))) j_int) j_int) j_int))
(jb_cons (js_set (i := 3) nd rfl (Or.inl rfl) (j_op jo_mod (j_op (jo_mul hK) (jv 3) (j_op (jo_add hK) (j_op jo_mod (jv 3) j_int) (j_op (jo_mul hK) j_int (j_ix (ji_ix hK (hu_of hr)) (jv 0) j_int (fun _ _ => rfl))))) j_int))
(jb_one (js_ret (j_op jo_mod (j_op (jo_add hK) (j_op jo_fdiv (jv 3) j_int) (j_op jo_fdiv (jv 3) j_int)) (jv 1))))))))
theorem ok_Lof {f : Addr} {fd : FuncData} (T : Txt K mg) (F : Fun K "_law_of" "_law_of" s_Lof f fd) : FnOk P w K mg base CX0 2 f fd ["_law_box_here", "_law_some"] (spM (wd K mg) 2 mf_Lof) := by
  have nd := sc_Lof.nd
  obtain ⟨f_Ltake, fd_Ltake, F_Ltake, m_Ltake, b_Ltake⟩ := T.d_Ltake.ex
  have G_Ltake := ok_Ltake (P := P) (w := w) (mg := mg) (base := base) T F_Ltake
  refine jd (W := wd K mg) F sc_Lof (fun cdv A out s H E hr => ?_)
  have hK : K = (wd K mg).K := rfl
  unfold mb_Lof
  exact (jb_one (js_ret (j_ix (ji_ix hK (hu_of hr)) (jv 1) (j_call G_Ltake (hr.mono (by decide)) rfl m_Ltake F_Ltake.kp b_Ltake .nil (fun _ _ => Reps.nil) pass0 (ja_cons (jv 0) (ja_cons (j_callB (jc_len hK) (by rfl) T.n_len (by decide +kernel) (ja_cons (jv 1) ja_nil)) ja_nil))) (fun _ _ => rfl))))
theorem ok_Lbook {f : Addr} {fd : FuncData} (T : Txt K mg) (F : Fun K "_law_book" "_law_book" s_Lbook f fd) : FnOk P w K mg base CX0 3 f fd ["_law_box_here", "_law_top"] (spM (wd K mg) 2 mf_Lbook) := by
  have nd := sc_Lbook.nd
  obtain ⟨f_Ltake, fd_Ltake, F_Ltake, m_Ltake, b_Ltake⟩ := T.d_Ltake.ex
  have G_Ltake := ok_Ltake (P := P) (w := w) (mg := mg) (base := base) T F_Ltake
  obtain ⟨f_Lof, fd_Lof, F_Lof, m_Lof, b_Lof⟩ := T.d_Lof.ex
  have G_Lof := ok_Lof (P := P) (w := w) (mg := mg) (base := base) T F_Lof
  refine jd (W := wd K mg) F sc_Lbook (fun cdv A out s H E hr => ?_)
  have hK : K = (wd K mg).K := rfl
  unfold mb_Lbook
  exact (jb_cons (js_par (i := 2) (j := 3) rfl nd rfl rfl (by decide) rfl rfl (ja_cons (j_op (jo_add hK) j_int (j_call G_Ltake (hr.mono (by decide)) rfl m_Ltake F_Ltake.kp b_Ltake .nil (fun _ _ => Reps.nil) pass0 (ja_cons (jv 0) (ja_cons (jv 1) ja_nil)))) (ja_cons j_dkM ja_nil)) (by rfl))
(jb_cons (js_for PassesOwn.never rfl (ji_range1 (by rfl) T.n_range (j_op (jo_add hK) j_int (j_call G_Ltake (hr.mono (by decide)) rfl m_Ltake F_Ltake.kp b_Ltake .nil (fun _ _ => Reps.nil) pass0 (ja_cons (jv 0) (ja_cons j_int ja_nil))))) (jg_name (i := 4) (vs := [4]) nd rfl (Or.inl rfl))
(jb_cons (js_set (i := 5) nd rfl (Or.inl rfl) (j_lst (ja_cons (j_op (jo_add hK) j_int (j_call G_Ltake (hr.mono (by decide)) rfl m_Ltake F_Ltake.kp b_Ltake .nil (fun _ _ => Reps.nil) pass0 (ja_cons (jv 0) (ja_cons (jv 2) ja_nil)))) (ja_cons (j_op (jo_add hK) (j_op jo_fdiv (jv 2) j_int) j_int) (ja_cons j_int (ja_cons (jv 2) (ja_cons (j_callB (jc_max hK rfl) (by rfl) T.n_max (by decide +kernel) (ja_cons j_int (ja_cons (j_op jo_fdiv (jv 2) j_int) ja_nil))) (ja_cons (j_callB (jc_max hK rfl) (by rfl) T.n_max (by decide +kernel) (ja_cons j_int (ja_cons (j_op jo_fdiv (jv 2) j_int) ja_nil))) ja_nil))))))))
(jb_one (js_sub j_bl (jv 3) (j_call G_Lof (hr.mono (by decide)) rfl m_Lof F_Lof.kp b_Lof .nil (fun _ _ => Reps.nil) pass0 (ja_cons (jv 0) (ja_cons (j_op (jo_add hK) (j_op (jo_mul hK) (j_slice hK (jv 5) jp_none (jp_some j_int)) j_int) (jv 5)) ja_nil))) (jp_set (hu_of hr))))))
(jb_one (js_ret (j_tup (ja_cons (jv 2) (ja_cons (j_callTy (jc_tuple hK) (by rfl) T.n_tuple (by decide +kernel) (ja_cons (j_callB (jc_sorted hK rfl) (by rfl) T.n_sorted (by decide +kernel) (ja_cons (jv 3) ja_nil)) ja_nil)) ja_nil)))))))
theorem ok_is_integer {f : Addr} {fd : FuncData} (T : Txt K mg) (F : Fun K "is_integer" "is_integer" s_is_integer f fd) : FnOk P w K mg base CX0 1 f fd ["value", "least", "most"] (spM (wd K mg) 3 mf_is_integer) := by
  have nd := sc_is_integer.nd
  refine jd (W := wd K mg) F sc_is_integer (fun cdv A out s H E hr => ?_)
  have hK : K = (wd K mg).K := rfl
  unfold mb_is_integer
  exact (jb_one (js_ret (j_and (j_callB (jc_isi hK) (by rfl) T.n_isinstance (by decide +kernel) (ja_cons (jv 0) (ja_cons (tC_of (fun _ _ => ty_rep) (pe_bltn (v := .ty "int") (by rfl) T.n_int (by decide +kernel) rfl)) ja_nil))) (j_and (j_not (j_callB (jc_isi hK) (by rfl) T.n_isinstance (by decide +kernel) (ja_cons (jv 0) (ja_cons (tC_of (fun _ _ => ty_rep) (pe_bltn (v := .ty "bool") (by rfl) T.n_bool (by decide +kernel) rfl)) ja_nil)))) (j_one (j_chain jo_le jo_le (jv 1) (jv 0) (jv 2)))))))
theorem ok_are_lengths {f : Addr} {fd : FuncData} (T : Txt K mg) (F : Fun K "are_lengths" "are_lengths" s_are_lengths f fd) : FnOk P w K mg base CX0 2 f fd ["value", "size"] (spM (wd K mg) 2 mf_are_lengths) := by
  have nd := sc_are_lengths.nd
  obtain ⟨f_is_integer, fd_is_integer, F_is_integer, m_is_integer, b_is_integer⟩ := T.d_is_integer.ex
  have G_is_integer := ok_is_integer (P := P) (w := w) (mg := mg) (base := base) T F_is_integer
  obtain ⟨tk_MOST_LENGTHS, c_MOST_LENGTHS⟩ := T.c_MOST_LENGTHS
  refine jd (W := wd K mg) F sc_are_lengths (fun cdv A out s H E hr => ?_)
  have hK : K = (wd K mg).K := rfl
  unfold mb_are_lengths
  exact (jb_cons (js_if (PW.pt (jw_or (jt_not (jt_val (j_callB (jc_isi hK) (by rfl) T.n_isinstance (by decide +kernel) (ja_cons (jv 0) (ja_cons (tC_of (fun _ _ => ty_rep) (pe_bltn (v := .ty "tuple") (by rfl) T.n_tuple (by decide +kernel) rfl)) ja_nil))))) (jw_or1 (jt_not (jt_chain jo_le jo_le j_int (j_callB (jc_len hK) (by rfl) T.n_len (by decide +kernel) (ja_cons (jv 0) ja_nil)) (tC_of (fun _ _ => int_rep) (pe_glob (v := .int 6) rfl c_MOST_LENGTHS ⟨_, rfl⟩)))))))
(jb_one (js_ret j_bl))
jb_nil)
(jb_cons (js_if (jt_not (jt_val (j_callB (jc_all hK rfl) (by rfl) T.n_all (by decide +kernel) (ja_cons (j_lc (own := [("length", 4)]) rfl nd (ji_seq hK (jv 0)) (blkOk_by (own := [("length", 4)]) (N := N_are_lengths) (sc := defScope s_are_lengths) (by decide +kernel)) (fun _ _ _ _ _ => (jg_name (i := 4) (vs := [4]) nd rfl (Or.inl rfl))) (fun _ _ _ _ _ => jts_nil) (fun _ _ _ _ _ => (j_call G_is_integer (hr.mono (by decide)) rfl m_is_integer F_is_integer.kp b_is_integer .nil (fun _ _ => Reps.nil) pass0 (ja_cons (jv 4) (ja_cons j_int (ja_cons (jv 1) ja_nil)))))) ja_nil))))
(jb_one (js_ret j_bl))
jb_nil)
(jb_one (js_ret (j_callB (jc_all hK rfl) (by rfl) T.n_all (by decide +kernel) (ja_cons (j_lc (own := [("one", 2), ("other", 3)]) rfl nd (ji_zip hK (by rfl) T.n_zip (jv 0) (j_slice hK (jv 0) (jp_some j_int) jp_none)) (blkOk_by (own := [("one", 2), ("other", 3)]) (N := N_are_lengths) (sc := defScope s_are_lengths) (by decide +kernel)) (fun _ _ _ _ _ => (jg_tup hK (by rfl) (jgs_cons (jg_name (i := 2) (vs := [2, 3]) nd rfl (Or.inl rfl)) (jgs_cons (jg_name (i := 3) (vs := [2, 3]) nd rfl (Or.inl rfl)) jgs_nil)))) (fun _ _ _ _ _ => jts_nil) (fun _ _ _ _ _ => (j_cmp jo_lt (jv 2) (jv 3) (nomark _)))) ja_nil))))))
theorem ok_is_rules {f : Addr} {fd : FuncData} (T : Txt K mg) (F : Fun K "is_rules" "is_rules" s_is_rules f fd) : FnOk P w K mg base CX0 3 f fd ["value"] (spM (wd K mg) 1 mf_is_rules) := by
  have nd := sc_is_rules.nd
  obtain ⟨f_are_lengths, fd_are_lengths, F_are_lengths, m_are_lengths, b_are_lengths⟩ := T.d_are_lengths.ex
  have G_are_lengths := ok_are_lengths (P := P) (w := w) (mg := mg) (base := base) T F_are_lengths
  obtain ⟨f_is_integer, fd_is_integer, F_is_integer, m_is_integer, b_is_integer⟩ := T.d_is_integer.ex
  have G_is_integer := ok_is_integer (P := P) (w := w) (mg := mg) (base := base) T F_is_integer
  obtain ⟨tk_GREATEST_SIZE, c_GREATEST_SIZE⟩ := T.c_GREATEST_SIZE
  obtain ⟨tk_PAIR, c_PAIR⟩ := T.c_PAIR
  refine jd (W := wd K mg) F sc_is_rules (fun cdv A out s H E hr => ?_)
  have hK : K = (wd K mg).K := rfl
  unfold mb_is_rules
  exact (jb_cons (js_if (PW.pt (jw_or (jt_not (jt_val (j_callB (jc_isi hK) (by rfl) T.n_isinstance (by decide +kernel) (ja_cons (jv 0) (ja_cons (tC_of (fun _ _ => ty_rep) (pe_bltn (v := .ty "tuple") (by rfl) T.n_tuple (by decide +kernel) rfl)) ja_nil))))) (jw_or (jt_cmp (jo_ne hK hr.units) (j_callB (jc_len hK) (by rfl) T.n_len (by decide +kernel) (ja_cons (jv 0) ja_nil)) (tC_of (fun _ _ => int_rep) (pe_glob (v := .int 2) rfl c_PAIR ⟨_, rfl⟩)) (nomark _)) (jw_or1 (jt_not (jt_val (j_call G_is_integer (hr.mono (by decide)) rfl m_is_integer F_is_integer.kp b_is_integer .nil (fun _ _ => Reps.nil) pass0 (ja_cons (j_ix (ji_ix hK (hu_of hr)) (jv 0) j_int (fun _ _ => rfl)) (ja_cons j_int (ja_cons (tC_of (fun _ _ => int_rep) (pe_glob (v := .int 100) rfl c_GREATEST_SIZE ⟨_, rfl⟩)) ja_nil))))))))))
(jb_one (js_ret j_bl))
jb_nil)
(jb_one (js_ret (j_call G_are_lengths (hr.mono (by decide)) rfl m_are_lengths F_are_lengths.kp b_are_lengths .nil (fun _ _ => Reps.nil) pass0 (ja_cons (j_ix (ji_ix hK (hu_of hr)) (jv 0) j_int (fun _ _ => rfl)) (ja_cons (j_ix (ji_ix hK (hu_of hr)) (jv 0) j_int (fun _ _ => rfl)) ja_nil))))))
theorem ok_number_in {f : Addr} {fd : FuncData} (T : Txt K mg) (F : Fun K "number_in" "number_in" s_number_in f fd) : FnOk P w K mg base CX0 1 f fd ["word"] (spM (wd K mg) 1 mf_number_in) := by
  have nd := sc_number_in.nd
  obtain ⟨tk_DIGITS, c_DIGITS⟩ := T.c_DIGITS
  obtain ⟨tk_MOST_DIGITS, c_MOST_DIGITS⟩ := T.c_MOST_DIGITS
  refine jd (W := wd K mg) F sc_number_in (fun cdv A out s H E hr => ?_)
  have hK : K = (wd K mg).K := rfl
  unfold mb_number_in
  exact (jb_cons (js_if (PW.pt (jw_or (jt_not (jt_chain jo_le jo_le j_int (j_callB (jc_len hK) (by rfl) T.n_len (by decide +kernel) (ja_cons (jv 0) ja_nil)) (tC_of (fun _ _ => int_rep) (pe_glob (v := .int 19) rfl c_MOST_DIGITS ⟨_, rfl⟩)))) (jw_or1 (jt_not (jt_val (j_callB (jc_all hK rfl) (by rfl) T.n_all (by decide +kernel) (ja_cons (j_lc (own := [("digit", 1)]) rfl nd (ji_str (jv 0)) (blkOk_by (own := [("digit", 1)]) (N := N_number_in) (sc := defScope s_number_in) (by decide +kernel)) (fun _ _ _ _ _ => (jg_name (i := 1) (vs := [1]) nd rfl (Or.inl rfl))) (fun _ _ _ _ _ => jts_nil) (fun _ _ _ _ _ => (j_cmp (jo_in hK (hu_of hr)) (jv 1) (tC_of (fun _ _ => str_rep) (pe_glob (v := .str "0123456789") rfl c_DIGITS ⟨_, rfl⟩)) (by rfl)))) ja_nil)))))))
(jb_one (js_ret j_non))
jb_nil)
(jb_one (js_ret (j_if (PW.pt (jw_and (jt_cmp (jo_eq hK hr.units) (j_ix (ji_ix hK (hu_of hr)) (jv 0) j_int (fun _ _ => rfl)) j_str (nomark _)) (jw_and1 (jt_cmp (jo_ne hK hr.units) (jv 0) j_str (nomark _))))) j_non (j_callTy jc_intS (by rfl) T.n_int (by decide +kernel) (ja_cons (jv 0) ja_nil))))))
theorem ok_rules_in {f : Addr} {fd : FuncData} (T : Txt K mg) (F : Fun K "rules_in" "rules_in" s_rules_in f fd) : FnOk P w K mg base CX0 4 f fd ["text"] (spM (wd K mg) 1 mf_rules_in) := by
  have nd := sc_rules_in.nd
  obtain ⟨f_is_rules, fd_is_rules, F_is_rules, m_is_rules, b_is_rules⟩ := T.d_is_rules.ex
  have G_is_rules := ok_is_rules (P := P) (w := w) (mg := mg) (base := base) T F_is_rules
  obtain ⟨f_number_in, fd_number_in, F_number_in, m_number_in, b_number_in⟩ := T.d_number_in.ex
  have G_number_in := ok_number_in (P := P) (w := w) (mg := mg) (base := base) T F_number_in
  obtain ⟨tk_PARTS, c_PARTS⟩ := T.c_PARTS
  obtain ⟨tk_BLANK, c_BLANK⟩ := T.c_BLANK
  obtain ⟨tk_COLON, c_COLON⟩ := T.c_COLON
  refine jd (W := wd K mg) F sc_rules_in (fun cdv A out s H E hr => ?_)
  have hK : K = (wd K mg).K := rfl
  unfold mb_rules_in
  exact (jb_cons (js_starL (i := 1) (j := 2) hK rfl nd rfl rfl (by first | exact .inl rfl | exact .inr rfl) (by first | exact .inl rfl | exact .inr rfl) (by first | exact .inl rfl | exact .inr rfl) (by first | exact .inl rfl | exact .inr rfl) (j_split (jv 0) (tC_of (fun _ _ => str_rep) (pe_glob (v := .str ": ") rfl c_COLON ⟨_, rfl⟩))))
(jb_cons (js_set (i := 3) nd rfl (Or.inl rfl) (j_if (jt_cmp (jo_eq hK hr.units) (j_callB (jc_len hK) (by rfl) T.n_len (by decide +kernel) (ja_cons (jv 2) ja_nil)) (j_op jo_sub (tC_of (fun _ _ => int_rep) (pe_glob (v := .int 2) rfl c_PARTS ⟨_, rfl⟩)) j_int) (nomark _)) (j_split (j_ix (ji_ix hK (hu_of hr)) (jv 2) j_int (fun _ _ => rfl)) (tC_of (fun _ _ => str_rep) (pe_glob (v := .str " ") rfl c_BLANK ⟨_, rfl⟩))) (j_lst ja_nil)))
(jb_cons (js_set (i := 4) nd rfl (Or.inl rfl) (j_tup (ja_cons (j_call G_number_in (hr.mono (by decide)) rfl m_number_in F_number_in.kp b_number_in .nil (fun _ _ => Reps.nil) pass0 (ja_cons (jv 1) ja_nil)) (ja_cons (j_callTy (jc_tuple hK) (by rfl) T.n_tuple (by decide +kernel) (ja_cons (j_lc (own := [("word", 5)]) rfl nd (ji_seq hK (jv 3)) (blkOk_by (own := [("word", 5)]) (N := N_rules_in) (sc := defScope s_rules_in) (by decide +kernel)) (fun _ _ _ _ _ => (jg_name (i := 5) (vs := [5]) nd rfl (Or.inl rfl))) (fun _ _ _ _ _ => jts_nil) (fun _ _ _ _ _ => (j_call G_number_in (hr.mono (by decide)) rfl m_number_in F_number_in.kp b_number_in .nil (fun _ _ => Reps.nil) pass0 (ja_cons (jv 5) ja_nil)))) ja_nil)) ja_nil))))
(jb_one (js_ret (j_if (jt_val (j_call G_is_rules (hr.mono (by decide)) rfl m_is_rules F_is_rules.kp b_is_rules .nil (fun _ _ => Reps.nil) pass0 (ja_cons (jv 4) ja_nil))) (jv 4) j_non))))))
theorem ok_read_rules {f : Addr} {fd : FuncData} (T : Txt K mg) (F : Fun K "read_rules" "read_rules" s_read_rules f fd) : FnOk P w K mg base CX0 5 f fd ["text"] (spM (wd K mg) 1 mf_read_rules) := by
  have nd := sc_read_rules.nd
  obtain ⟨f_rules_in, fd_rules_in, F_rules_in, m_rules_in, b_rules_in⟩ := T.d_rules_in.ex
  have G_rules_in := ok_rules_in (P := P) (w := w) (mg := mg) (base := base) T F_rules_in
  refine jd (W := wd K mg) F sc_read_rules (fun cdv A out s H E hr => ?_)
  have hK : K = (wd K mg).K := rfl
  unfold mb_read_rules
  exact (jb_cons (js_ifW (jw_or2 (jt_not (jt_val (j_callB (jc_isi hK) (by rfl) T.n_isinstance (by decide +kernel) (ja_cons (jv 0) (ja_cons (tC_of (fun _ _ => ty_rep) (pe_bltn (v := .ty "str") (by rfl) T.n_str (by decide +kernel) rfl)) ja_nil))))) (jw_cmp (i := 1) nd rfl (Or.inl rfl) jo_is (j_call G_rules_in (hr.mono (by decide)) rfl m_rules_in F_rules_in.kp b_rules_in .nil (fun _ _ => Reps.nil) pass0 (ja_cons (jv 0) ja_nil)) j_non (nomark _)))
(jb_one js_stuck)
jb_nil)
(jb_one (js_ret (jv 1))))
theorem ok_show_rules {f : Addr} {fd : FuncData} (T : Txt K mg) (F : Fun K "show_rules" "show_rules" s_show_rules f fd) : FnOk P w K mg base CX0 1 f fd ["rules"] (spM (wd K mg) 1 mf_show_rules) := by
  have nd := sc_show_rules.nd
  obtain ⟨tk_COLON, c_COLON⟩ := T.c_COLON
  obtain ⟨tk_BLANK, c_BLANK⟩ := T.c_BLANK
  refine jd (W := wd K mg) F sc_show_rules (fun cdv A out s H E hr => ?_)
  have hK : K = (wd K mg).K := rfl
  unfold mb_show_rules
  exact (jb_cons (js_asg (jv 0) (jg_tup hK (by rfl) (jgs_cons (jg_name (i := 1) (vs := [1, 2]) nd rfl (Or.inl rfl)) (jgs_cons (jg_name (i := 2) (vs := [1, 2]) nd rfl (Or.inl rfl)) jgs_nil))))
(jb_one (js_ret (j_op (jo_add hK) (j_fs (PJs.cons (j_fmt (jv 1)) (PJs.cons (j_fmt (tC_of (fun _ _ => str_rep) (pe_glob (v := .str ": ") rfl c_COLON ⟨_, rfl⟩))) PJs.nil))) (j_join hK (tC_of (fun _ _ => str_rep) (pe_glob (v := .str " ") rfl c_BLANK ⟨_, rfl⟩)) (j_lc (own := [("length", 3)]) rfl nd (ji_seq hK (jv 2)) (blkOk_by (own := [("length", 3)]) (N := N_show_rules) (sc := defScope s_show_rules) (by decide +kernel)) (fun _ _ _ _ _ => (jg_name (i := 3) (vs := [3]) nd rfl (Or.inl rfl))) (fun _ _ _ _ _ => jts_nil) (fun _ _ _ _ _ => (j_callTy jc_str (by rfl) T.n_str (by decide +kernel) (ja_cons (jv 3) ja_nil)))))))))
theorem ok_Lright {f : Addr} {fd : FuncData} (T : Txt K mg) (F : Fun K "_law_right" "_law_right" s_Lright f fd) : FnG P w K mg base 6 f fd ["_law_box_here"] (spM (wd K mg) 1 mf_Lright) := by
  have nd := sc_Lright.nd
  obtain ⟨f_read_rules, fd_read_rules, F_read_rules, m_read_rules, b_read_rules⟩ := T.d_read_rules.ex
  have G_read_rules := ok_read_rules (P := P) (w := w) (mg := mg) (base := base) T F_read_rules
  obtain ⟨f_show_rules, fd_show_rules, F_show_rules, m_show_rules, b_show_rules⟩ := T.d_show_rules.ex
  have G_show_rules := ok_show_rules (P := P) (w := w) (mg := mg) (base := base) T F_show_rules
  obtain ⟨f_Lbook, fd_Lbook, F_Lbook, m_Lbook, b_Lbook⟩ := T.d_Lbook.ex
  have G_Lbook := ok_Lbook (P := P) (w := w) (mg := mg) (base := base) T F_Lbook
  refine jdG (W := wd K mg) F sc_Lright (fun cdv A out s H hg hr => ?_)
  have hK : K = (wd K mg).K := rfl
  unfold mb_Lright
  exact (jb_cons (js_set (i := 1) nd rfl (Or.inl rfl) (j_call G_Lbook (hr.mono (by decide)) rfl m_Lbook F_Lbook.kp b_Lbook .nil (fun _ _ => Reps.nil) pass0 (ja_cons (jv 0) (ja_cons j_int ja_nil))))
(jb_cons (js_par (i := 2) (j := 3) rfl nd rfl rfl (by decide) rfl rfl (ja_cons (j_op (jo_add hK) (j_op (jo_add hK) (j_callTy jc_str (by rfl) T.n_str (by decide +kernel) (ja_cons (j_ix (ji_ix hK (hu_of hr)) (jv 1) j_int (fun _ _ => rfl)) ja_nil)) j_str) (j_join hK j_str (j_lc (own := [("_law_one", 4)]) rfl nd (ji_seq hK (j_ix (ji_ix hK (hu_of hr)) (jv 1) j_int (fun _ _ => rfl))) (blkOk_by (own := [("_law_one", 4)]) (N := N_Lright) (sc := defScope s_Lright) (by decide +kernel)) (fun _ _ _ _ _ => (jg_name (i := 4) (vs := [4]) nd rfl (Or.inl rfl))) (fun _ _ _ _ _ => jts_nil) (fun _ _ _ _ _ => (j_op (jo_add hK) j_str (j_callTy jc_str (by rfl) T.n_str (by decide +kernel) (ja_cons (jv 4) ja_nil))))))) (ja_cons (j_callB (jc_repr hK hg hr) (by rfl) T.n_repr (by decide +kernel) (ja_cons (jv 1) ja_nil)) ja_nil)) (by rfl))
(jb_one (js_ret (j_and (j_cmp (jo_eq hK hr.units) (j_call G_show_rules (hr.mono (by decide)) rfl m_show_rules F_show_rules.kp b_show_rules .nil (fun _ _ => Reps.nil) pass0 (ja_cons (jv 1) ja_nil)) (jv 2) (nomark _)) (j_and (j_cmp (jo_eq hK hr.units) (j_callB (jc_repr hK hg hr) (by rfl) T.n_repr (by decide +kernel) (ja_cons (j_call G_read_rules (hr.mono (by decide)) rfl m_read_rules F_read_rules.kp b_read_rules .nil (fun _ _ => Reps.nil) pass0 (ja_cons (jv 2) ja_nil)) ja_nil)) (jv 3) (nomark _)) (j_one (j_cmp (jo_eq hK hr.units) (j_callB (jc_repr hK hg hr) (by rfl) T.n_repr (by decide +kernel) (ja_cons (jv 1) ja_nil)) (jv 3) (nomark _)))))))))
theorem ok_law {f : Addr} {fd : FuncData} (T : Txt K mg) (F : Fun K "law" "law" s_law f fd) : FnG P w K mg base 7 f fd ["_law_script"] (spM (wd K mg) 1 mf_law) := by
  have nd := sc_law.nd
  obtain ⟨f_show_rules, fd_show_rules, F_show_rules, m_show_rules, b_show_rules⟩ := T.d_show_rules.ex
  have G_show_rules := ok_show_rules (P := P) (w := w) (mg := mg) (base := base) T F_show_rules
  obtain ⟨f_Lright, fd_Lright, F_Lright, m_Lright, b_Lright⟩ := T.d_Lright.ex
  have G_Lright := ok_Lright (P := P) (w := w) (mg := mg) (base := base) T F_Lright
  obtain ⟨f_Lbox, fd_Lbox, F_Lbox, m_Lbox, b_Lbox⟩ := T.d_Lbox.ex
  have G_Lbox := ok_Lbox (P := P) (w := w) (mg := mg) (base := base) T F_Lbox
  refine jdG (W := wd K mg) F sc_law (fun cdv A out s H hg hr => ?_)
  have hK : K = (wd K mg).K := rfl
  unfold mb_law
  exact (jb_cons (js_for PassesOwn.never rfl (ji_range1 (by rfl) T.n_range (j_callB (jc_max hK rfl) (by rfl) T.n_max (by decide +kernel) (ja_cons j_int (ja_cons (j_callB (jc_min hK rfl) (by rfl) T.n_min (by decide +kernel) (ja_cons j_int (ja_cons (j_callB (jc_len hK) (by rfl) T.n_len (by decide +kernel) (ja_cons (jv 0) ja_nil)) ja_nil))) ja_nil)))) (jg_name (i := 1) (vs := [1]) nd rfl (Or.inl rfl))
(jb_cons (js_set (i := 2) nd rfl (Or.inr rfl) (j_call G_Lbox (hr.mono (by decide)) rfl m_Lbox F_Lbox.kp b_Lbox .nil (fun _ _ => Reps.nil) pass0 (ja_cons (jv 0) (ja_cons (jv 1) ja_nil))))
(jb_one (js_if (jt_not (jt_val (j_callB (jc_all hK rfl) (by rfl) T.n_all (by decide +kernel) (ja_cons (j_lc (own := [("_law_turn", 3)]) rfl nd (ji_range1 (by rfl) T.n_range j_int) (blkOk_by (own := [("_law_turn", 3)]) (N := N_law) (sc := defScope s_law) (by decide +kernel)) (fun _ _ _ _ _ => (jg_name (i := 3) (vs := [3]) nd rfl (Or.inl rfl))) (fun _ _ _ _ _ => jts_nil) (fun _ _ _ _ _ => (j_callG hg G_Lright (hr.mono (by decide)) rfl m_Lright F_Lright.kp b_Lright (ja_cons (jv 2) ja_nil)))) ja_nil))))
(jb_one (js_ret j_bl))
jb_nil))))
(jb_one (js_ret (j_cmp (jo_eq hK hr.units) (j_call G_show_rules (hr.mono (by decide)) rfl m_show_rules F_show_rules.kp b_show_rules .nil (fun _ _ => Reps.nil) pass0 (ja_cons (j_tup (ja_cons j_int (ja_cons (j_tup (ja_cons j_int (ja_cons j_int (ja_cons j_int (ja_cons j_int (ja_cons j_int (ja_cons j_int ja_nil))))))) ja_nil))) ja_nil)) j_str (nomark _)))))
end
theorem all_mk {l : PySem.W.OpenLaw} {w : World} {K : PySem.W.Frag} {h : Heap} {mg : Str → Option Value} {fa f1 f2 f3 f4 f5 f6 f7 f8 f9 f10 f11 f12 f13 : Addr} (X : K.In h) (G : h.Ns mainGlobals mg) (hfa : mg "law" = some (.ref fa))
    {od1 an1 od2 an2 od3 an3 od4 an4 od5 an5 od6 an6 od7 an7 od8 an8 od9 an9 od10 an10 od11 an11 od12 an12 od13 an13 : Option Addr} {sl1 sl2 sl3 sl4 sl5 sl6 sl7 sl8 sl9 sl10 sl11 sl12 sl13 : Array (Option Value)} {oc1 kV1 dc1 pm1 cd1 ct1 oc2 kV2 dc2 pm2 cd2 ct2 oc3 kV3 dc3 pm3 cd3 ct3 oc4 kV4 dc4 pm4 cd4 ct4 oc5 kV5 dc5 pm5 cd5 ct5 oc6 kV6 dc6 pm6 cd6 ct6 oc7 kV7 dc7 pm7 cd7 ct7 oc8 kV8 dc8 pm8 cd8 ct8 oc9 kV9 dc9 pm9 cd9 ct9 oc10 kV10 dc10 pm10 cd10 ct10 oc11 kV11 dc11 pm11 cd11 ct11 oc12 kV12 dc12 pm12 cd12 ct12 oc13 kV13 dc13 pm13 cd13 ct13 : Value}
    (a1 : PySem.W.nsIn K mainGlobals "_law_box" = some (some (.ref f1)))
    (l1 : K.lookup f1 = some ⟨oc1, od1, .func (PySem.W.fnOf "_law_box" "_law_box" (defArgs s_Lbox) (defBody s_Lbox) (defScope s_Lbox) .none kV1 dc1 pm1 an1 cd1 ct1), sl1⟩) (c1 : PySem.W.codeIn K cd1 "_law_box" = true) (k1 : PySem.W.keepIn K (.ref f1) = true)
    (a2 : PySem.W.nsIn K mainGlobals "_law_take" = some (some (.ref f2)))
    (l2 : K.lookup f2 = some ⟨oc2, od2, .func (PySem.W.fnOf "_law_take" "_law_take" (defArgs s_Ltake) (defBody s_Ltake) (defScope s_Ltake) .none kV2 dc2 pm2 an2 cd2 ct2), sl2⟩) (c2 : PySem.W.codeIn K cd2 "_law_take" = true) (k2 : PySem.W.keepIn K (.ref f2) = true)
    (a3 : PySem.W.nsIn K mainGlobals "_law_of" = some (some (.ref f3)))
    (l3 : K.lookup f3 = some ⟨oc3, od3, .func (PySem.W.fnOf "_law_of" "_law_of" (defArgs s_Lof) (defBody s_Lof) (defScope s_Lof) .none kV3 dc3 pm3 an3 cd3 ct3), sl3⟩) (c3 : PySem.W.codeIn K cd3 "_law_of" = true) (k3 : PySem.W.keepIn K (.ref f3) = true)
    (a4 : PySem.W.nsIn K mainGlobals "_law_book" = some (some (.ref f4)))
    (l4 : K.lookup f4 = some ⟨oc4, od4, .func (PySem.W.fnOf "_law_book" "_law_book" (defArgs s_Lbook) (defBody s_Lbook) (defScope s_Lbook) .none kV4 dc4 pm4 an4 cd4 ct4), sl4⟩) (c4 : PySem.W.codeIn K cd4 "_law_book" = true) (k4 : PySem.W.keepIn K (.ref f4) = true)
    (a5 : PySem.W.nsIn K mainGlobals "is_integer" = some (some (.ref f5)))
    (l5 : K.lookup f5 = some ⟨oc5, od5, .func (PySem.W.fnOf "is_integer" "is_integer" (defArgs s_is_integer) (defBody s_is_integer) (defScope s_is_integer) .none kV5 dc5 pm5 an5 cd5 ct5), sl5⟩) (c5 : PySem.W.codeIn K cd5 "is_integer" = true) (k5 : PySem.W.keepIn K (.ref f5) = true)
    (a6 : PySem.W.nsIn K mainGlobals "are_lengths" = some (some (.ref f6)))
    (l6 : K.lookup f6 = some ⟨oc6, od6, .func (PySem.W.fnOf "are_lengths" "are_lengths" (defArgs s_are_lengths) (defBody s_are_lengths) (defScope s_are_lengths) .none kV6 dc6 pm6 an6 cd6 ct6), sl6⟩) (c6 : PySem.W.codeIn K cd6 "are_lengths" = true) (k6 : PySem.W.keepIn K (.ref f6) = true)
    (a7 : PySem.W.nsIn K mainGlobals "is_rules" = some (some (.ref f7)))
    (l7 : K.lookup f7 = some ⟨oc7, od7, .func (PySem.W.fnOf "is_rules" "is_rules" (defArgs s_is_rules) (defBody s_is_rules) (defScope s_is_rules) .none kV7 dc7 pm7 an7 cd7 ct7), sl7⟩) (c7 : PySem.W.codeIn K cd7 "is_rules" = true) (k7 : PySem.W.keepIn K (.ref f7) = true)
    (a8 : PySem.W.nsIn K mainGlobals "number_in" = some (some (.ref f8)))
    (l8 : K.lookup f8 = some ⟨oc8, od8, .func (PySem.W.fnOf "number_in" "number_in" (defArgs s_number_in) (defBody s_number_in) (defScope s_number_in) .none kV8 dc8 pm8 an8 cd8 ct8), sl8⟩) (c8 : PySem.W.codeIn K cd8 "number_in" = true) (k8 : PySem.W.keepIn K (.ref f8) = true)
    (a9 : PySem.W.nsIn K mainGlobals "rules_in" = some (some (.ref f9)))
    (l9 : K.lookup f9 = some ⟨oc9, od9, .func (PySem.W.fnOf "rules_in" "rules_in" (defArgs s_rules_in) (defBody s_rules_in) (defScope s_rules_in) .none kV9 dc9 pm9 an9 cd9 ct9), sl9⟩) (c9 : PySem.W.codeIn K cd9 "rules_in" = true) (k9 : PySem.W.keepIn K (.ref f9) = true)
    (a10 : PySem.W.nsIn K mainGlobals "read_rules" = some (some (.ref f10)))
    (l10 : K.lookup f10 = some ⟨oc10, od10, .func (PySem.W.fnOf "read_rules" "read_rules" (defArgs s_read_rules) (defBody s_read_rules) (defScope s_read_rules) .none kV10 dc10 pm10 an10 cd10 ct10), sl10⟩) (c10 : PySem.W.codeIn K cd10 "read_rules" = true) (k10 : PySem.W.keepIn K (.ref f10) = true)
    (a11 : PySem.W.nsIn K mainGlobals "show_rules" = some (some (.ref f11)))
    (l11 : K.lookup f11 = some ⟨oc11, od11, .func (PySem.W.fnOf "show_rules" "show_rules" (defArgs s_show_rules) (defBody s_show_rules) (defScope s_show_rules) .none kV11 dc11 pm11 an11 cd11 ct11), sl11⟩) (c11 : PySem.W.codeIn K cd11 "show_rules" = true) (k11 : PySem.W.keepIn K (.ref f11) = true)
    (a12 : PySem.W.nsIn K mainGlobals "_law_right" = some (some (.ref f12)))
    (l12 : K.lookup f12 = some ⟨oc12, od12, .func (PySem.W.fnOf "_law_right" "_law_right" (defArgs s_Lright) (defBody s_Lright) (defScope s_Lright) .none kV12 dc12 pm12 an12 cd12 ct12), sl12⟩) (c12 : PySem.W.codeIn K cd12 "_law_right" = true) (k12 : PySem.W.keepIn K (.ref f12) = true)
    (a13 : PySem.W.nsIn K mainGlobals "law" = some (some (.ref f13)))
    (l13 : K.lookup f13 = some ⟨oc13, od13, .func (PySem.W.fnOf "law" "law" (defArgs s_law) (defBody s_law) (defScope s_law) .none kV13 dc13 pm13 an13 cd13 ct13), sl13⟩) (c13 : PySem.W.codeIn K cd13 "law" = true) (k13 : PySem.W.keepIn K (.ref f13) = true)
    (z_abs : PySem.W.nsIn K mainGlobals "abs" = some none)
    (z_int : PySem.W.nsIn K mainGlobals "int" = some none)
    (z_len : PySem.W.nsIn K mainGlobals "len" = some none)
    (z_tuple : PySem.W.nsIn K mainGlobals "tuple" = some none)
    (z_sorted : PySem.W.nsIn K mainGlobals "sorted" = some none)
    (z_range : PySem.W.nsIn K mainGlobals "range" = some none)
    (z_max : PySem.W.nsIn K mainGlobals "max" = some none)
    (z_isinstance : PySem.W.nsIn K mainGlobals "isinstance" = some none)
    (z_bool : PySem.W.nsIn K mainGlobals "bool" = some none)
    (z_all : PySem.W.nsIn K mainGlobals "all" = some none)
    (z_zip : PySem.W.nsIn K mainGlobals "zip" = some none)
    (z_str : PySem.W.nsIn K mainGlobals "str" = some none)
    (z_repr : PySem.W.nsIn K mainGlobals "repr" = some none)
    (z_min : PySem.W.nsIn K mainGlobals "min" = some none)
    {t_MOST_LENGTHS : Tok} (v_MOST_LENGTHS : PySem.W.nsIn K mainGlobals "MOST_LENGTHS" = some (some (Value.int (6) t_MOST_LENGTHS)))
    {t_GREATEST_SIZE : Tok} (v_GREATEST_SIZE : PySem.W.nsIn K mainGlobals "GREATEST_SIZE" = some (some (Value.int (100) t_GREATEST_SIZE)))
    {t_PAIR : Tok} (v_PAIR : PySem.W.nsIn K mainGlobals "PAIR" = some (some (Value.int (2) t_PAIR)))
    {t_DIGITS : Tok} (v_DIGITS : PySem.W.nsIn K mainGlobals "DIGITS" = some (some (Value.str "0123456789" t_DIGITS)))
    {t_MOST_DIGITS : Tok} (v_MOST_DIGITS : PySem.W.nsIn K mainGlobals "MOST_DIGITS" = some (some (Value.int (19) t_MOST_DIGITS)))
    {t_PARTS : Tok} (v_PARTS : PySem.W.nsIn K mainGlobals "PARTS" = some (some (Value.int (2) t_PARTS)))
    {t_BLANK : Tok} (v_BLANK : PySem.W.nsIn K mainGlobals "BLANK" = some (some (Value.str " " t_BLANK)))
    {t_COLON : Tok} (v_COLON : PySem.W.nsIn K mainGlobals "COLON" = some (some (Value.str ": " t_COLON)))
    : ∃ fd : FuncData, (∀ (s : Shared) (v : Value), BindsTo s fd ⟨[v], []⟩ [("_law_script", v)]) ∧ ∀ base : Heap, K.In base → base.Ns mainGlobals mg → FnG l.prog w K mg base 7 fa fd ["_law_script"] (spLaw K) := by
  have e := hfa.symm.trans (PySem.W.mg_of X G a13)
  cases e
  have F1 := fun_mk (st := s_Lbox) l1 c1 k1
  have b1 := F1.binds (ps := ["_law_script", "_law_k"]) fun _ _ _ _ _ _ us hl => match us, hl with | [_, _], _ => rfl
  have F2 := fun_mk (st := s_Ltake) l2 c2 k2
  have b2 := F2.binds (ps := ["_law_box_here", "_law_many"]) fun _ _ _ _ _ _ us hl => match us, hl with | [_, _], _ => rfl
  have F3 := fun_mk (st := s_Lof) l3 c3 k3
  have b3 := F3.binds (ps := ["_law_box_here", "_law_some"]) fun _ _ _ _ _ _ us hl => match us, hl with | [_, _], _ => rfl
  have F4 := fun_mk (st := s_Lbook) l4 c4 k4
  have b4 := F4.binds (ps := ["_law_box_here", "_law_top"]) fun _ _ _ _ _ _ us hl => match us, hl with | [_, _], _ => rfl
  have F5 := fun_mk (st := s_is_integer) l5 c5 k5
  have b5 := F5.binds (ps := ["value", "least", "most"]) fun _ _ _ _ _ _ us hl => match us, hl with | [_, _, _], _ => rfl
  have F6 := fun_mk (st := s_are_lengths) l6 c6 k6
  have b6 := F6.binds (ps := ["value", "size"]) fun _ _ _ _ _ _ us hl => match us, hl with | [_, _], _ => rfl
  have F7 := fun_mk (st := s_is_rules) l7 c7 k7
  have b7 := F7.binds (ps := ["value"]) fun _ _ _ _ _ _ us hl => match us, hl with | [_], _ => rfl
  have F8 := fun_mk (st := s_number_in) l8 c8 k8
  have b8 := F8.binds (ps := ["word"]) fun _ _ _ _ _ _ us hl => match us, hl with | [_], _ => rfl
  have F9 := fun_mk (st := s_rules_in) l9 c9 k9
  have b9 := F9.binds (ps := ["text"]) fun _ _ _ _ _ _ us hl => match us, hl with | [_], _ => rfl
  have F10 := fun_mk (st := s_read_rules) l10 c10 k10
  have b10 := F10.binds (ps := ["text"]) fun _ _ _ _ _ _ us hl => match us, hl with | [_], _ => rfl
  have F11 := fun_mk (st := s_show_rules) l11 c11 k11
  have b11 := F11.binds (ps := ["rules"]) fun _ _ _ _ _ _ us hl => match us, hl with | [_], _ => rfl
  have F12 := fun_mk (st := s_Lright) l12 c12 k12
  have b12 := F12.binds (ps := ["_law_box_here"]) fun _ _ _ _ _ _ us hl => match us, hl with | [_], _ => rfl
  have F13 := fun_mk (st := s_law) l13 c13 k13
  have T : Txt K mg := ⟨⟨⟨_, _, F1, PySem.W.mg_of X G a1, b1⟩⟩,
    ⟨⟨_, _, F2, PySem.W.mg_of X G a2, b2⟩⟩,
    ⟨⟨_, _, F3, PySem.W.mg_of X G a3, b3⟩⟩,
    ⟨⟨_, _, F4, PySem.W.mg_of X G a4, b4⟩⟩,
    ⟨⟨_, _, F5, PySem.W.mg_of X G a5, b5⟩⟩,
    ⟨⟨_, _, F6, PySem.W.mg_of X G a6, b6⟩⟩,
    ⟨⟨_, _, F7, PySem.W.mg_of X G a7, b7⟩⟩,
    ⟨⟨_, _, F8, PySem.W.mg_of X G a8, b8⟩⟩,
    ⟨⟨_, _, F9, PySem.W.mg_of X G a9, b9⟩⟩,
    ⟨⟨_, _, F10, PySem.W.mg_of X G a10, b10⟩⟩,
    ⟨⟨_, _, F11, PySem.W.mg_of X G a11, b11⟩⟩,
    ⟨⟨_, _, F12, PySem.W.mg_of X G a12, b12⟩⟩,
    PySem.W.mg_none_of X G z_abs,
    PySem.W.mg_none_of X G z_int,
    PySem.W.mg_none_of X G z_len,
    PySem.W.mg_none_of X G z_tuple,
    PySem.W.mg_none_of X G z_sorted,
    PySem.W.mg_none_of X G z_range,
    PySem.W.mg_none_of X G z_max,
    PySem.W.mg_none_of X G z_isinstance,
    PySem.W.mg_none_of X G z_bool,
    PySem.W.mg_none_of X G z_all,
    PySem.W.mg_none_of X G z_zip,
    PySem.W.mg_none_of X G z_str,
    PySem.W.mg_none_of X G z_repr,
    PySem.W.mg_none_of X G z_min,
    ⟨_, PySem.W.mg_of X G v_MOST_LENGTHS⟩,
    ⟨_, PySem.W.mg_of X G v_GREATEST_SIZE⟩,
    ⟨_, PySem.W.mg_of X G v_PAIR⟩,
    ⟨_, PySem.W.mg_of X G v_DIGITS⟩,
    ⟨_, PySem.W.mg_of X G v_MOST_DIGITS⟩,
    ⟨_, PySem.W.mg_of X G v_PARTS⟩,
    ⟨_, PySem.W.mg_of X G v_BLANK⟩,
    ⟨_, PySem.W.mg_of X G v_COLON⟩⟩
  exact ⟨PySem.W.fnOf "law" "law" (defArgs s_law) (defBody s_law) (defScope s_law) .none kV13 dc13 pm13 an13 cd13 ct13, fun s v => .of_eq rfl, fun base _ _ => (ok_law T F13).law law_due⟩
end My
open PySem PySem.W PyProof.Rows in
set_option maxRecDepth 100000 in
set_option maxHeartbeats 0 in
theorem PySem.Challenge.cw_rotatedlogs_k63_texts_of_rules_holds : PySem.Challenge.rw_rotatedlogs_k63_texts_of_rules.Holds := by
  w_on; o_law; k_head; (case hw => w_witness2)
  k_fill
  refine My.walk_g (l := PySem.Challenge.rw_rotatedlogs_k63_texts_of_rules) (k := 7) (x := "_law_script") (sp := My.spLaw) rfl rfl ⟨rfl, by decide, by decide⟩ (fun w h Y => PySem.W.kIn_of Y) ?F (fun K H a ns hl hO hS => ⟨a, ns, rfl, hO, hS, hl, fun _ => rfl⟩)
  case F =>
    intro w mg fa h KX G hmg
    refine' My.all_mk KX G hmg ?a1 ?l1 ?c1 ?k1 ?a2 ?l2 ?c2 ?k2 ?a3 ?l3 ?c3 ?k3 ?a4 ?l4 ?c4 ?k4 ?a5 ?l5 ?c5 ?k5 ?a6 ?l6 ?c6 ?k6 ?a7 ?l7 ?c7 ?k7 ?a8 ?l8 ?c8 ?k8 ?a9 ?l9 ?c9 ?k9 ?a10 ?l10 ?c10 ?k10 ?a11 ?l11 ?c11 ?k11 ?a12 ?l12 ?c12 ?k12 ?a13 ?l13 ?c13 ?k13 ?z_abs ?z_int ?z_len ?z_tuple ?z_sorted ?z_range ?z_max ?z_isinstance ?z_bool ?z_all ?z_zip ?z_str ?z_repr ?z_min ?v_MOST_LENGTHS ?v_GREATEST_SIZE ?v_PAIR ?v_DIGITS ?v_MOST_DIGITS ?v_PARTS ?v_BLANK ?v_COLON
    (case a1 => k_is)
    (case l1 => k_is)
    (case c1 => k_is)
    (case k1 => k_is)
    (case a2 => k_is)
    (case l2 => k_is)
    (case c2 => k_is)
    (case k2 => k_is)
    (case a3 => k_is)
    (case l3 => k_is)
    (case c3 => k_is)
    (case k3 => k_is)
    (case a4 => k_is)
    (case l4 => k_is)
    (case c4 => k_is)
    (case k4 => k_is)
    (case a5 => k_is)
    (case l5 => k_is)
    (case c5 => k_is)
    (case k5 => k_is)
    (case a6 => k_is)
    (case l6 => k_is)
    (case c6 => k_is)
    (case k6 => k_is)
    (case a7 => k_is)
    (case l7 => k_is)
    (case c7 => k_is)
    (case k7 => k_is)
    (case a8 => k_is)
    (case l8 => k_is)
    (case c8 => k_is)
    (case k8 => k_is)
    (case a9 => k_is)
    (case l9 => k_is)
    (case c9 => k_is)
    (case k9 => k_is)
    (case a10 => k_is)
    (case l10 => k_is)
    (case c10 => k_is)
    (case k10 => k_is)
    (case a11 => k_is)
    (case l11 => k_is)
    (case c11 => k_is)
    (case k11 => k_is)
    (case a12 => k_is)
    (case l12 => k_is)
    (case c12 => k_is)
    (case k12 => k_is)
    (case a13 => k_is)
    (case l13 => k_is)
    (case c13 => k_is)
    (case k13 => k_is)
    (case z_abs => k_is)
    (case z_int => k_is)
    (case z_len => k_is)
    (case z_tuple => k_is)
    (case z_sorted => k_is)
    (case z_range => k_is)
    (case z_max => k_is)
    (case z_isinstance => k_is)
    (case z_bool => k_is)
    (case z_all => k_is)
    (case z_zip => k_is)
    (case z_str => k_is)
    (case z_repr => k_is)
    (case z_min => k_is)
    (case v_MOST_LENGTHS => k_is)
    (case v_GREATEST_SIZE => k_is)
    (case v_PAIR => k_is)
    (case v_DIGITS => k_is)
    (case v_MOST_DIGITS => k_is)
    (case v_PARTS => k_is)
    (case v_BLANK => k_is)
    (case v_COLON => k_is)
#print axioms PySem.Challenge.cw_rotatedlogs_k63_texts_of_rules_holds

