import PyProof.Rows.All
import Wide.All
import OpenK.AllK
import Wide.FinOn
import PyProof.InstStoreFacts
import PyProof.ExcInit
import PySem.Challenge.RW_nz0469_01
set_option Elab.async false
-- part NzTop
noncomputable section
open PySem PySem.W PyProof.Rows
namespace Mine
section
/- the written part of the top's state is laid apart (top.heap_1): the head's line stops ahead of its run -/
local macro_rules | `(tactic| o_head $_) => `(tactic| k_extra "o_head")
set_option maxRecDepth 100000 in
set_option maxHeartbeats 8000000 in
theorem top (h : PySem.Challenge.rw_nz0469_01.row.Holds) : PySem.Challenge.rw_nz0469_01.row.Holds := by
  k_with_none
  k_with "o_head" => assumption
  k_with "k_head" => o_head (kHook top.heap_1 tops (fun _ => by kernel_rfl))
  k_head
end
noncomputable def tops : List Addr := [2, 3, 15, 17, 18, 20, 21, 22, 29, 30, 31, 32, 35, 42, 44, 45, 47, 48, 49, 50, 51, 61, 63, 64, 66, 67, 68, 69, 70, 71, 72, 82, 83, 85, 86, 88, 89, 90, 92, 93, 95, 96, 97, 98, 99, 100, 101, 104, 106, 107, 109, 110, 111, 113, 114, 116, 117, 118, 120, 121, 123, 124, 125, 127, 128, 130, 131, 132, 134, 135, 137, 138, 139, 141, 142, 144, 145, 146, 148, 149, 151, 152, 153, 155, 156, 158, 159, 160, 162, 163, 165, 166, 167, 169, 170, 172, 173, 174, 176, 177, 179, 180, 181, 184, 185, 186, 189, 190, 191, 193, 194, 196, 197, 198, 200, 201, 203, 204, 205, 207, 208, 210, 211, 212, 214, 215, 217, 218]
/- the head's speed twins of two large rows (a copy for each text they name) are of no use here: their places are taken, so they are not made -/
noncomputable def seen (_ : Params → Frag) (_ : Program) : Bool := true
noncomputable def off.tw11389604556438737324 : Unit := ()
noncomputable def off.tw6621529634086722591 : Unit := ()
set_option Elab.async true in
set_option maxRecDepth 100000 in
set_option maxHeartbeats 8000000 in
theorem off : seen top.heap_1 PySem.Challenge.pw_nz0469_01 = true := by
  first | k_qdec | rfl
section
local macro_rules | `(tactic| k_head) => `(tactic| k_extra "k_head")
set_option maxRecDepth 100000 in
set_option maxHeartbeats 8000000 in
open_top hd for PySem.Challenge.rw_nz0469_01
end
theorem top_off : True := by
  w_top off
  trivial
end Mine
end
-- part NzBase
noncomputable section
open PySem PySem.W PyProof.Rows
set_option maxRecDepth 100000
namespace Mine
theorem news_drop1 {h₀ h : Heap} {L : Addr} {x : Addr × Obj} {news : List (Addr × Obj)} (N : News h₀ L h (x :: news)) : News h₀ L h news := fun q hq => N q (List.mem_cons_of_mem _ hq)
theorem d_lo (x : Int) {m : Int} (h : 2 ≤ m) : 0 ≤ x.fmod m := by
  rw [Int.fmod_eq_emod_of_nonneg x (by omega)]; exact Int.emod_nonneg x (by omega)
theorem d_hi (x : Int) {m : Int} (h : 2 ≤ m) : x.fmod m < m := by
  rw [Int.fmod_eq_emod_of_nonneg x (by omega)]; exact Int.emod_lt_of_pos x (by omega)
theorem q_lo {x m : Int} (h : 2 ≤ m) (hx : 0 ≤ x) : 0 ≤ x.fdiv m := by
  rw [Int.fdiv_eq_ediv_of_nonneg x (by omega)]; exact Int.ediv_nonneg hx (by omega)
theorem q_hi {x m B : Int} (h : 2 ≤ m) (hx : 0 ≤ x) (hB : x < B) : x.fdiv m < B := by
  rw [Int.fdiv_eq_ediv_of_nonneg x (by omega)]
  exact Int.lt_of_le_of_lt (Int.ediv_le_self m hx) hB
end Mine
end
-- part NzEnter
noncomputable section
open PySem PySem.W PyProof.Rows PySem.Calls
set_option maxRecDepth 100000
namespace Mine
abbrev Kept (h h' : Heap) : Prop := ∀ b o, h.get? b = some o → h'.get? b = some o
theorem kept_sub {h g : Heap} (k : GSub h g []) : Kept h g := fun b o e => k b o e (fun q => nomatch q)
theorem kept_list {h g : Heap} {l : Addr} {its : Array Value} (k : Kept h g) (x : h.IsList l its) : g.IsList l its := let ⟨o, ho, r⟩ := x; ⟨o, k l o ho, r⟩
theorem kept_trans {h₁ h₂ h₃ : Heap} (x : Kept h₁ h₂) (y : Kept h₂ h₃) : Kept h₁ h₃ := fun b o e => y b o (x b o e)
section
variable {prog : Program} {w : World} {A₀ A : Around} {E : Value → Shared → Prop} {s : Shared} {base h₀ : Heap} {outer : List Env} {L : Addr} {m : Str → Option Value} {env : Env}
/-- the entry of a def with captured names, what stood before kept in sight -/
theorem enterC {K : Frag} {p : Program} {loose : List Str} {mean : ExcName → Option Value} {mg mb : Str → Option Value} {R : Result → Shared → Prop} {name qual : Str} {params : Arguments} {body : List Stmt} {scope : Scope} {dV kV doc pm cdv ct oc : Value} {an od : Option Addr} {osl : Array (Option Value)} {f : Addr} {args : Args} {binds : List (Str × Value)}
    (B : Below A₀ base outer h₀) (F : Fr h₀ L s.heap m) (X₀ : K.In h₀) (T : Top p loose mean mg mb h₀) (hA : A.frames = some (env :: outer)) (hf : env.frame = some L) (hke : env.scope.kind = .function)
    (ho : K.lookup f = some ⟨oc, od, .func (fnOf name qual params body scope dV kV doc pm an cdv ct), osl⟩) (hcd : codeIn K cdv qual = true) (hroom : A.depth < recursionLimit)
    (hbind : BindsTo s (fnOf name qual params body scope dV kV doc pm an cdv ct) args binds) (hkind : (binds.all fun y => scope.names.lookup y.1 == some .local || scope.names.lookup y.1 == some .cell) = true)
    (hnd : ((cellsFrom 0 scope.names []).map (·.1)).Nodup)
    (h : ∀ g L' h₁ tk cells, Fr h₀ L g m → Fr g L' h₁ (bindL (envOfC qual scope L' f cdv).kindOf binds fun _ => none) → News g L' h₁ cells →
      CellsAre (bindC (envOfC qual scope L' f cdv).kindOf binds fun _ => none) (cellsFrom (L' + 1) scope.names []) cells → Below A base (env :: outer) g → K.In g → Top p loose mean mg mb g → Kept s.heap g →
      wpAny (model prog w) (A.deeper (envOfC qual scope L' f cdv)) (execs body (envOfC qual scope L' f cdv))
        (fun fl s' => LeaveK h₀ L m g R (match fl with | .ret v => v | _ => .none) s')
        (fun e s' => wpAny (model prog w) (A.deeper (envOfC qual scope L' f cdv)) (leaving (envOfC qual scope L' f cdv) e) (fun _ s'' => R (.error e) s'') (fun e' s'' => R (.error e') s'') s')
        { s with heap := h₁, toks := tk })
    (hco : scope.isCoroutine = false) (hgen : scope.isGenerator = false) (hk : scope.kind = .function) : codeAny (model prog w) A (.call (.ref f) args) R s := by
  have N : News h₀ L s.heap [] := News.nil
  obtain ⟨FG, BG, st, lv⟩ := groundX (R := R) B F N hA hf hke
  refine codeAny_call_function hroom ((X₀.keeps F.keep) _ _ ho) rfl hco hgen rfl (codeRec_of (X₀.keeps F.keep) hcd) (hbind _ _ _ _ ?_)
  refine wpAny_newFunctionEnv_cells hk (kindsX hkind _) fun env' he s' x => ?_
  subst he
  refine ⟨(T.nolimit.keeps F.keep).keeps x.toInCall.keep, codeAny_func ?_⟩
  obtain ⟨h₁, tk, rfl, _⟩ := x.done
  have hk₁ := x.toInCall.keep
  obtain ⟨cells, NC, Y⟩ := Cl.news (h₀ := s.heap) (Nat.le_refl _) fun n c hm => ⟨x.cell n c (lookup_of_mem_nodup (cellsFrom_names scope.names 0 (s.heap.objs.size + 1) [] [] rfl ▸ hnd) hm), x.above n c hm⟩
  exact wpAny_mono (h _ s.heap.objs.size h₁ tk cells FG ⟨x.toInCall.ns, fun b o e => hk₁ b o e, Nat.le_refl _⟩ (fun p hp => NC p hp) Y BG (X₀.keeps st) (T.keeps st) (fun b o e => e)) (fun fl s' hl => lv _ _ hl) fun _ _ y => y
/-- the entry of a plain def, what stood before kept in sight -/
theorem enterG {K : Frag} {p : Program} {loose : List Str} {mean : ExcName → Option Value} {mg mb : Str → Option Value} {R : Result → Shared → Prop} {name qual : Str} {params : Arguments} {body : List Stmt} {scope : Scope} {dV kV doc pm cdv ct oc : Value} {an od : Option Addr} {osl : Array (Option Value)} {f : Addr} {args : Args} {binds : List (Str × Value)}
    (B : Below A₀ base outer h₀) (F : Fr h₀ L s.heap m) (X₀ : K.In h₀) (T : Top p loose mean mg mb h₀) (hA : A.frames = some (env :: outer)) (hf : env.frame = some L) (hke : env.scope.kind = .function)
    (ho : K.lookup f = some ⟨oc, od, .func (fnOf name qual params body scope dV kV doc pm an cdv ct), osl⟩) (hcd : codeIn K cdv qual = true) (hroom : A.depth < recursionLimit)
    (hbind : BindsTo s (fnOf name qual params body scope dV kV doc pm an cdv ct) args binds) (hloc : ∀ y ∈ binds, scope.names.lookup y.1 = some .local)
    (h : ∀ g L' h₁, Fr h₀ L g m → Fr g L' h₁ (fun y => binds.reverse.lookup y) → News g L' h₁ [] → Below A base (env :: outer) g → K.In g → Top p loose mean mg mb g → Kept s.heap g →
      wpAny (model prog w) (A.deeper (envOf qual scope L' f cdv)) (execs body (envOf qual scope L' f cdv))
        (fun fl s' => LeaveK h₀ L m g R (match fl with | .ret v => v | _ => .none) s')
        (fun e s' => wpAny (model prog w) (A.deeper (envOf qual scope L' f cdv)) (leaving (envOf qual scope L' f cdv) e) (fun _ s'' => R (.error e) s'') (fun e' s'' => R (.error e') s'') s')
        { s with heap := h₁, toks := s.toks + binds.length })
    (hco : scope.isCoroutine = false) (hgen : scope.isGenerator = false) (hk : scope.kind = .function)
    (hcell : ∀ x ∈ scope.names, x.2 ≠ .cell) : codeAny (model prog w) A (.call (.ref f) args) R s :=
  code_defG B F X₀ News.nil T hA hf hke ho hcd hroom hbind hloc (fun g L' h₁ FG F' N' B' X' T' kG => h g L' h₁ FG F' N' B' X' T' (kept_sub kG)) hco hgen hk hcell
end
end Mine
end
-- part NzRules
noncomputable section
open PySem PySem.W PyProof.Rows PySem.Calls
set_option maxRecDepth 100000
namespace Mine
theorem str_at (k : Str) : ∀ {vs : List Value} {ys : List Str}, StrsAre vs ys → ∀ (j : Nat) (h1 : j < vs.length) (h2 : j < ys.length), isStrOf k vs[j] = (ys[j] == k)
  | _, _, .cons n t _, 0, _, _ => rfl
  | _, _, .cons n t r, j + 1, h1, h2 => str_at k r j (Nat.lt_of_succ_lt_succ h1) (Nat.lt_of_succ_lt_succ h2)
theorem before_idx (k : Str) (ys : List Str) (j : Nat) (hj : j < ys.findIdx (· == k)) (h2 : j < ys.length) : (ys[j] == k) = false := by
  have := List.not_of_lt_findIdx hj
  simpa using this
section
variable {prog : Program} {w : World} {A : Around} {E : Value → Shared → Prop} {s : Shared}
theorem index_strs {l : Addr} {vs : List Value} {ys : List Str} {k : Str} {t : Tok} {Q : Value → Shared → Prop} (hl : s.heap.IsList l vs.toArray) (hi : StrsAre vs ys) (hlen : ys.length ≤ 40)
    (hk : ys.any (· == k) = true) (h : Q (.int (ys.findIdx (· == k) : Nat) s.toks) { s with toks := s.toks + 1 }) :
    wpAny (model prog w) A (call (.builtin "list.index") [.ref l, .str k t]) Q E s := by
  obtain ⟨⟨cls, dd, data, sl⟩, ho, hc, n, hd⟩ := id hl
  simp only at hc hd
  subst hc hd
  have hn := hi.len_eq
  have hj : ys.findIdx (· == k) < ys.length := List.findIdx_lt_length.mpr (by simpa using hk)
  refine call_meets PySem.F.slot_list_index ⟨_, ho, rfl⟩ PySem.F.entry_list_index (PySem.F.args_list_index_2 _ _)
    (SeqAt.list_indexAt l vs.toArray n dd sl (.str k t) (isStrOf k) (ys.findIdx (· == k)) (by simpa [hn] using hj) (by omega) ?_ ?_) ⟨ho, fun y hy => (eq_isStrOf k t hi y (by simpa using hy)).at _ _, h⟩
  · show isStrOf k vs[ys.findIdx (· == k)] = true
    rw [str_at k hi _ (by omega) hj]
    exact List.findIdx_getElem (w := hj)
  · intro j hjs hlt
    show isStrOf k vs[j] = false
    have h2 : j < ys.length := by simpa [hn] using hjs
    rw [str_at k hi j (by omega) h2]
    exact before_idx k ys j hlt h2
end
end Mine
end
-- part NzPure
noncomputable section
open PySem PySem.W PyProof.Rows
set_option maxRecDepth 100000
namespace Mine
/-- the places whose choice begins with x -/
def begunF (ch : List Str) (x : Str) : List Int :=
  List.foldl (fun l' (k' : Int) => if Txt.startswith (ch.getD k'.toNat Str.empty) x = true then l' ++ [k'] else if Txt.startswith (ch.getD k'.toNat Str.empty) x = false then l' else l') [] (rangeKs 0 ((ch.length : Int) - 0).toNat)
/-- what partial_place gives -/
def place (ch : List Str) (x : Str) : Int :=
  if (x == Str.ofString "") = true then -1 else if ch.any (· == x) = true then (ch.findIdx (· == x) : Nat) else if ((begunF ch x).length : Int) = 1 then (begunF ch x).getD (Int.toNat 0) 0 else -1
theorem place_e1 {ch : List Str} {x : Str} (h : (x == Str.ofString "") = true) : -1 = place ch x := by unfold place; rw [if_pos h]
theorem place_e2 {ch : List Str} {x : Str} (h : (x == Str.ofString "") = false) (h2 : ch.any (· == x) = true) : ((ch.findIdx (· == x) : Nat) : Int) = place ch x := by
  unfold place; rw [if_neg (by rw [h]; decide), if_pos h2]
theorem place_e3 {ch : List Str} {x : Str} (h : (x == Str.ofString "") = false) (h2 : ch.any (· == x) = false) (h3 : ((begunF ch x).length : Int) = 1) : (begunF ch x).getD (Int.toNat 0) 0 = place ch x := by
  unfold place; rw [if_neg (by rw [h]; decide), if_neg (by rw [h2]; decide), if_pos h3]
theorem place_e4 {ch : List Str} {x : Str} (h : (x == Str.ofString "") = false) (h2 : ch.any (· == x) = false) (h3 : ¬ ((begunF ch x).length : Int) = 1) : -1 = place ch x := by
  unfold place; rw [if_neg (by rw [h]; decide), if_neg (by rw [h2]; decide), if_neg h3]
theorem place_end {ch : List Str} {x : Str} {s : Shared} {Q : Value → Shared → Prop} {h' g : Heap} {tk' : Nat} {t : Tok} {d : Int} {L' : Addr} {m' : Str → Option Value}
    (ret : ∀ (t : Tok) (h' : Heap) (tk' : Nat), Kept s.heap h' → Q (.int (place ch x) t) { s with heap := h', toks := tk' }) (kG : Kept s.heap g) (F : Fr g L' h' m') (e : d = place ch x) : Q (.int d t) { s with heap := h', toks := tk' } := by
  subst e; exact ret t h' tk' (kept_trans kG F.keep)
/-- what a turn of the law's second loop appends -/
def growM (x : Str) : Option Str → List Str := fun o => match o with | none => [] | some c => if (x != Str.ofString "") = true ∧ (Txt.slice c none (some (x.length : Int)) == x) = true then [c] else []
theorem growM_hit {x c : Str} (h1 : (x != Str.ofString "") = true) (h2 : (Txt.slice c none (some (x.length : Int)) == x) = true) : growM x (some c) = [c] := if_pos ⟨h1, h2⟩
theorem growM_miss1 {x c : Str} (h1 : (x != Str.ofString "") = false) : growM x (some c) = [] := if_neg fun q => Bool.noConfusion (q.1.symm.trans h1)
theorem growM_miss2 {x c : Str} (h2 : (Txt.slice c none (some (x.length : Int)) == x) = false) : growM x (some c) = [] := if_neg fun q => Bool.noConfusion (q.2.symm.trans h2)
theorem growM_short (x : Str) (o : Option Str) : (growM x o).length ≤ 1 := by
  cases o with
  | none => simp [growM]
  | some c => simp only [growM]; split <;> simp
def meansS (ch : List Str) (x : Str) : List Str :=
  if (x != Str.ofString "") = true ∧ ch.any (· == x) = true then [x] else if ((ch.map some).flatMap (growM x)).length = 1 then (ch.map some).flatMap (growM x) else []
/-- what _law_means gives -/
def meansF (ch : List Str) : Option Str → List Str
  | none => []
  | some x => meansS ch x
theorem flat_nil : ∀ os : List (Option Str), os.flatMap (fun _ => ([] : List Str)) = []
  | [] => rfl
  | _ :: r => by rw [List.flatMap_cons, flat_nil r]; rfl
theorem means_e1 {ch : List Str} {x c : Str} (h1 : (x != Str.ofString "") = true) (h2 : (c == x) = true) (hc : c ∈ ch) : [c] = meansF ch (some x) := by
  have e : c = x := by simpa using h2
  subst e
  show _ = meansS _ _
  unfold meansS
  rw [if_pos ⟨h1, List.any_eq_true.mpr ⟨c, hc, by simp⟩⟩]
theorem means_not {ch : List Str} {x : Str} (hno : ∀ c ∈ ch, ¬ ((x != Str.ofString "") = true ∧ (c == x) = true)) : ¬ ((x != Str.ofString "") = true ∧ ch.any (· == x) = true) := by
  rintro ⟨h1, h2⟩
  obtain ⟨c, hc, q⟩ := List.any_eq_true.mp h2
  exact hno c hc ⟨h1, q⟩
theorem means_e2 {ch acc : List Str} {x : Str} (hno : ∀ c ∈ ch, ¬ ((x != Str.ofString "") = true ∧ (c == x) = true)) (ha : acc = [] ++ (ch.map some).flatMap (growM x)) (h : (acc.length : Int) = 1) : acc = meansF ch (some x) := by
  rw [List.nil_append] at ha
  subst ha
  show _ = meansS _ _
  unfold meansS
  rw [if_neg (means_not hno), if_pos (by omega)]
theorem means_e3 {ch acc : List Str} {x : Str} (hno : ∀ c ∈ ch, ¬ ((x != Str.ofString "") = true ∧ (c == x) = true)) (ha : acc = [] ++ (ch.map some).flatMap (growM x)) (h : ¬ (acc.length : Int) = 1) : [] = meansF ch (some x) := by
  rw [List.nil_append] at ha
  subst ha
  show _ = meansS _ _
  unfold meansS
  rw [if_neg (means_not hno), if_neg (by omega)]
theorem means_n2 {ch acc : List Str} {os : List (Option Str)} (ha : acc = [] ++ os.flatMap (fun _ => [])) (h : (acc.length : Int) = 1) : acc = meansF ch none := by
  rw [flat_nil] at ha; subst ha; simp at h
theorem means_end {ch ms : List Str} {o : Option Str} {s : Shared} {Q : Value → Shared → Prop} {h' g : Heap} {tk' n' : Nat} {L' l' : Addr} {m' : Str → Option Value} {us : List Value} {news : List (Addr × Obj)}
    (ret : ∀ (l' : Addr) (us : List Value) (n' : Nat) (h' : Heap) (tk' : Nat), Kept s.heap h' → h'.get? l' = some (listOf us.toArray n') → s.heap.get? l' = none → StrsAre us (meansF ch o) → Q (.ref l') { s with heap := h', toks := tk' })
    (kG : Kept s.heap g) (F : Fr g L' h' m') (N : News g L' h' news) (hm : (l', listOf us.toArray n') ∈ news) (hs : StrsAre us ms) (e : ms = meansF ch o) : Q (.ref l') { s with heap := h', toks := tk' } := by
  subst e
  have h1 := N _ hm
  refine ret l' us n' h' tk' (kept_trans kG F.keep) h1.1 ?_ hs
  cases q : s.heap.get? l' with
  | none => rfl
  | some ob => have h2 := kG _ _ q; rw [h1.2.2] at h2; cases h2
end Mine
end
-- part NzExcSet
noncomputable section
open PySem PySem.W PyProof.Rows PySem.Calls Builtin Builtin.ObjectAttr
set_option maxRecDepth 100000
namespace Mine
section
variable {prog : Program} {w : World} {A : Around} {E : Value → Shared → Prop} {K : Frag} {C C2 e : Addr} {oe : Obj} {cd : ClassData} {name : Str} {v : Value}
theorem inst_exc {h : Heap} (he : h.get? e = some oe) (hcls : oe.cls = .ref C) (hno : notCls oe = true) (hdn : oe.dict = none) : InstAt h e oe C none :=
  ⟨he, hcls, hno, by rw [hdn]; trivial⟩
theorem refuse_exc (self : Value) (C C2 : Addr) : refuseLoop self "__setattr__" [.ref C, .ref C2, .type "Exception", .type "BaseException", .type "object"] = pure () := by
  rw [refuseLoop_ref, refuseLoop_ref]; exact PySem.F.store_Exception.passes self

theorem osa_exc {hh : Heap} {g : Array GenState} {d : Drawn} {t : Nat} {os : OsState} {tk : Tok} {R : Result → Shared → Prop}
    (X : K.In hh) (he : hh.get? e = some oe) (hcls : oe.cls = .ref C) (hno : notCls oe = true) (hdn : oe.dict = none)
    (hc : clsIn K C = some cd) (hd : cd.hasDict = true) (hmro : cd.mro = [.ref C, .ref C2, .type "Exception", .type "BaseException", .type "object"])
    (ht : findIn K (.ref C) name = some none)
    (h : ∀ h' tk' dx od, hh.get? dx = none → dx ≠ e → h'.get? e = some { oe with dict := some dx } → h'.get? dx = some od → LCg.NsObj od (fun y => if y = name then some v else none) →
      (∀ b o, b ≠ e → hh.get? b = some o → h'.get? b = some o) → R (.ok (.ret .none)) ⟨h', g, d, tk', os⟩) :
    codeAny (model prog w) A (.call (.builtin "object.__setattr__") ⟨[.ref e, .str name tk, v], []⟩) R ⟨hh, g, d, t, os⟩ := by
  have SF := PySem.F.store_object
  have I := inst_exc he hcls hno hdn
  have ne : cd.mro.isEmpty = false := by rw [hmro]; rfl
  have sub : Looks (model prog w) hh (isInstance (.ref e) (.type "object")) true := I.type.andThen (looks_mroIn X (by unfold mroIn; rw [hc, Option.bind_some, if_neg (by rw [ne]; decide), hmro]; simp))
  refine codeAny_call_builtin SF.slot.plain SF.entry (@check_slot (model prog w) _ _ ⟨hh, g, d, t, os⟩ "object.__setattr__" "object" "__setattr__" (.ref e) [.str name tk, v] [] _ SF.kind SF.split sub (SF.args (.ref e) (.str name tk) v) ?_)
  have hm : Looks (model prog w) hh (mroOf (.ref C)) cd.mro := (looks_clsIn X hc).andThen .now
  have L3 : Looks (model prog w) hh (storeTaker? (none : Option Value)) none := .now
  rw [osa_eq, refuse_eq]
  refine wpAny_bind (wpAny_bind (I.type.at (wpAny_bind (hm.at ?_))))
  rw [hmro, refuse_exc]
  refine wpAny_pure (wpAny_bind (I.type.at (wpAny_bind ((looks_findIn X ht).at (wpAny_bind (L3.at ?_))))))
  show wpAny _ _ (storeInOwnDict (.ref e) (.ref C) (.str name tk) name v _) _ _ _
  obtain ⟨oc, od, oda, osl⟩ := oe
  dsimp only at hcls hdn
  subst hcls hdn
  refine wpAny_bind (wpAny_pure (wpAny_bind (wpAny_bind (wpAny_loadPart he (wpAny_bind ((looks_clsIn X hc).here ?_))))))
  rw [hd]
  have hes : e ≠ hh.objs.size := Nat.ne_of_lt (Heap.lt_size he)
  have he₁ : (hh.push { cls := .type "dict", data := .dict #[] }).get? e = some _ := Heap.get?_push_of_some _ he
  have fr : (⟨.ref C, none, oda, osl⟩ : Obj).isFreed = false := (Heap.get?_some_iff.mp he).2
  rw [if_neg (by decide)]
  dsimp only
  rw [if_neg (by simp [typeHasDict])]
  have go : wpAny (model prog w) A.in1 (do
      let d ← alloc { cls := .type "dict", data := .dict #[] }
      update e fun o => { cls := o.cls, dict := some d, data := o.data, slots := o.slots }
      dictMade (.ref C) e d)
      (fun x s' => ∃ d', x = some d' ∧ wpAny (model prog w) A.in1 (storeInDict d' (.str name tk) name v)
        (fun fin s' => match fin with | .done f => R (.ok f) s' | .again c' => c'.quiet = true ∧ codeAny (model prog w) A c' R s') (fun e s' => R (.error e) s') s') (fun e s' => R (.error e) s') ⟨hh, g, d, t, os⟩ := by
    refine wpAny_bind (wpAny_alloc ?_)
    refine wpAny_bind (wpAny_update he₁ ?_)
    refine wpAny_pure ⟨_, rfl, ?_⟩
    have hgd : ((hh.push { cls := .type "dict", data := .dict #[] }).update e fun o => { cls := o.cls, dict := some hh.objs.size, data := o.data, slots := o.slots }).get? hh.objs.size
        = some { cls := .type "dict", data := .dict #[] } :=
      (Heap.get?_update_ne _ _ _ _ hes.symm).trans (Heap.get?_push_at rfl rfl)
    have hnd : ((hh.push { cls := .type "dict", data := .dict #[] }).update e fun o => { cls := o.cls, dict := some hh.objs.size, data := o.data, slots := o.slots }).Ns hh.objs.size (fun _ => none) :=
      ⟨_, #[], _, hgd, rfl, fun e he => absurd he (by simp), fun _ => rfl⟩
    unfold storeInDict newKeyGuard
    refine wpAny_bind (wpAny_pure (wpAny_bind (wpAny_nsSet1 (Heap.Ns1.of_empty hnd) fun h' hn' hs => ?_)))
    obtain ⟨oD, esD, epD, hoD, hdD, hcD⟩ := hn'.count (Within.cons name v Within.nil)
    refine wpAny_bind (wpAny_lookBehind hoD (by rw [hdD]; exact pastItsLine_dict (Nat.le_trans hcD (by rw [List.length_cons, List.length_nil, sizeLine_eq]; omega))) ?_)
    refine wpAny_pure ?_
    show R (.ok (.ret .none)) _
    obtain ⟨o', es, ep, e1, e2, e3, eu, e4⟩ := hn'
    refine h h' _ hh.objs.size o' ?_ hes.symm ((hs.2 e hes).trans (Heap.get?_update_self _ he₁ ?_)) e1 ⟨es, ep, e2, e3, fun y => e4 y⟩ (fun b ob hbe hb => ?_)
    · exact Heap.get?_none_of_le (Nat.le_refl _)
    · cases oda <;> first | rfl | exact fr
    · exact (hs.2 b (Nat.ne_of_lt (Heap.lt_size hb))).trans ((Heap.get?_update_ne _ _ _ _ hbe).trans (Heap.get?_push_of_some _ hb))
  cases oda with
  | cls c => cases hno
  | _ => exact wpAny_mono go (fun x s' hx => by obtain ⟨d', rfl, hx⟩ := hx; exact hx) (fun _ _ z => z)
end
end Mine
end
-- part NzExcInit
noncomputable section
open PySem PySem.W PyProof.Rows PySem.Calls
set_option maxRecDepth 100000
namespace Mine
local macro_rules | `(tactic| walk_at $s:str) => `(tactic| k_extra $s)
theorem said_NzExcInit : True := by
  k_with_none
  k_with "setAttr ref" => (k_here; k_dflt (refine' set_exc ?zqk1 ?zqk2 ?zqk3 ?zqk4 ?zqk5 ?zqk6 ?zqk7 ?zqk8 ?zqk9 ?zqk10 ?zqk11 ?_; (case zqk1 => k_asm); (case zqk2 => k_asm); (case zqk3 => k_asm); (case zqk4 => assumption); (case zqk5 => assumption); (case zqk6 => assumption); (case zqk7 => k_is); (case zqk8 => exact rfl); (case zqk9 => exact rfl); (case zqk10 => k_is); (case zqk11 => k_is); k_whole; intro h' tk' dx' od' F' N' O' n'; (try k_sweep)))
  trivial
section
variable {prog : Program} {w : World} {A : Around} {E : Value → Shared → Prop} {K : Frag} {C C2 e : Addr} {oe : Obj} {cd : ClassData} {name : Str} {v : Value} {s : Shared} {g : Heap} {L : Addr} {m : Str → Option Value}
theorem init_end {h' : Heap} {L' : Addr} {m' : Str → Option Value} {od : Obj} {dx : Addr} {s : Shared} {P : Prop} (G : GSub s.heap g [e]) (F' : Fr g L' h' m') (N' : News g L' h' [(dx, od), (e, { oe with dict := some dx })]) (hne : dx ≠ e)
    (k : (∀ b o, b ≠ e → s.heap.get? b = some o → h'.get? b = some o) → h'.get? e = some { oe with dict := some dx } → h'.get? dx = some od → s.heap.get? dx = none → P) : P := by
  have h1 := N' _ (.head _)
  have h2 := N' _ (.tail _ (.head _))
  refine k (fun b o hb q => F'.keep b o (G b o q (by simpa using hb))) h2.1 h1.1 ?_
  cases q : s.heap.get? dx with
  | none => rfl
  | some o =>
    have := G dx o q (by simpa using hne)
    have h3 : g.get? dx = none := h1.2.2
    rw [h3] at this; cases this
theorem set_exc {Q : Unit → Shared → Prop} (F : Fr g L s.heap m) (N : News g L s.heap [(e, oe)]) (X₀ : K.In g) (hcls : oe.cls = .ref C) (hno : notCls oe = true) (hdn : oe.dict = none)
    (hc : clsIn K C = some cd) (hd : cd.hasDict = true) (hmro : cd.mro = [.ref C, .ref C2, .type "Exception", .type "BaseException", .type "object"])
    (hs : findIn K (.ref C) "__setattr__" = some (some (.builtin "object.__setattr__"))) (ht : findIn K (.ref C) name = some none)
    (h : ∀ h' tk' dx od, Fr g L h' m → News g L h' [(dx, od), (e, { oe with dict := some dx })] → LCg.NsObj od (fun y => if y = name then some v else none) → dx ≠ e → Q () { s with heap := h', toks := tk' }) :
    wpAny (model prog w) A (setAttr (.ref e) name v) Q E s := by
  have he := N (e, oe) (.head _)
  have X := X₀.keeps F.keep
  refine set_plain X (inst_exc he.1 hcls hno hdn) hs ?_
  refine osa_exc X he.1 hcls hno hdn hc hd hmro ht fun h' tk' dx od hdx hne h1 h2 hO hk => ?_
  have kL : L ≠ e := fun q => he.2.1 q.symm
  have k0 : ∀ b o, g.get? b = some o → h'.get? b = some o := fun b o q => hk b o (fun z => by rw [z, he.2.2] at q; cases q) (F.keep b o q)
  obtain ⟨oL, a1, a2, hL, a3⟩ := F.ns
  refine h h' tk' dx od ⟨⟨oL, a1, a2, hk _ _ kL hL, a3⟩, k0, F.above⟩ (fun p hp => ?_) hO hne
  rcases List.mem_cons.mp hp with rfl | hp
  · refine ⟨h2, fun q => ?_, ?_⟩
    · have q' : dx = L := q
      rw [q'] at hdx; rw [hL] at hdx; cases hdx
    · show g.get? dx = none
      cases q : g.get? dx with
      | none => rfl
      | some o => rw [F.keep _ _ q] at hdx; cases hdx
  · rcases List.mem_cons.mp hp with rfl | hp
    · exact ⟨h1, he.2⟩
    · cases hp
end
section
variable {w : World} {A : Around} {outer : List Env} {A₀ : Around} {base h₀ : Heap} {L : Addr} {m : Str → Option Value} {s : Shared} {Q E : Value → Shared → Prop} {env : Env}
  {mean : ExcName → Option Value} {mg mb : Str → Option Value} {loose : List Str}
set_option maxHeartbeats 8000000 in
theorem init_call {e : Addr} {oe : Obj} {msg : Str} {tm : Tok}
    (hK : ∀ h : Heap, (top.heap_1 w.params).In h → True)
    (B : Below A₀ base outer h₀) (F : Fr h₀ L s.heap m) (X : (top.heap_1 w.params).In h₀)
    (T : Top hd.view_39 loose mean mg mb h₀) (hA : A.frames = some (env :: outer)) (hf : env.frame = some L) (hke : env.scope.kind = .function) (hroom : A.depth < recursionLimit)
    (he : s.heap.get? e = some oe) (hen : h₀.get? e = none) (heL : e ≠ L) (hcls : oe.cls = .ref 51) (hno : notCls oe = true) (hdn : oe.dict = none)
    (ret : ∀ h' tk' dx od, (∀ b o, b ≠ e → s.heap.get? b = some o → h'.get? b = some o) → h'.get? e = some { oe with dict := some dx } → h'.get? dx = some od →
      LCg.NsObj od (fun y => if y = (Str.ofString "message") then some (.str msg tm) else none) → s.heap.get? dx = none → dx ≠ e → Q .none { s with heap := h', toks := tk' }) :
    wpAny (model PySem.Challenge.rw_nz0469_01.row.prog w) A (call (.ref 48) [.ref e, .str msg tm]) Q E s := by
  revert hK; k_fill; intro hK; clear hK
  have N : News h₀ L s.heap [(e, oe)] := fun p hp => by
    rcases List.mem_cons.mp hp with rfl | hp
    · exact ⟨he, heL, hen⟩
    · cases hp
  refine wpAny_call ?_
  k_dflt (refine' code_defG ?k1 ?k2 ?k3 ?k4 ?k5 ?kA ?kF ?kK ?k6 ?k7 ?k8 ?k9 ?kB ?_ ?c2 ?c3 ?c4 ?c5; (case kA => assumption); (case kF => assumption); (case kK => assumption); (case k1 => k_asm); (case k2 => k_asm); (case k3 => k_asm); (case k4 => k_asm); (case k5 => k_asm); (case k6 => k_is); (case k7 => k_is); (case k8 => assumption); (case k9 => exact BindsTo.of_eq rfl); (case c5 => decide); (case kB => exact locs rfl); (case c2 => exact rfl); (case c3 => exact rfl); (case c4 => exact rfl); k_whole; intro g' L' h' FG' F' N' B' X' T' G'; (try dsimp only); (try k_lift B'); (try k_fold))
  rename GSub _ _ _ => kG
  k_steps
  exact init_end (by assumption) (by assumption) (by assumption) (by assumption) fun k1 k2 k3 k4 => ret _ _ _ _ k1 k2 k3 (by assumption) k4 (by assumption)
end
end Mine
end
-- part NzExcMake
noncomputable section
open PySem PySem.W PyProof.Rows PySem.Calls
set_option maxRecDepth 100000
namespace Mine
section
variable {prog : Program} {w : World} {A : Around} {E : Value → Shared → Prop} {h : Heap} {g : Array GenState} {d : Drawn} {t : Nat} {os : OsState}
variable {nm q : Str} {C N : Addr} {bs bm bmB : List Value} {hdct : Bool} {sn : List Str} {sub : List Value} {ab : Bool} {col : Option Bool} {dd : Option Addr} {k0 k1 k2 k3 k5 : Option Value} {B newId initId : String}

/-- a class of the text's own below another of its own, with an __init__ of its own: the call of it -/
theorem type_call_tail (F : ExcBaseFacts B newId initId bmB) (T : OwnTail h bmB bm) {mN : Str → Option Value} {rest : List Value} {fI : Addr} {oI : Obj} {Q : Fin → Shared → Prop}
    (hC : h.get? C = some (excClassObj nm q C N bs bm hdct sn sub ab col dd k0 k1 k2 k3 k5 newId)) (hn : h.Ns N mN) (hi : mN "__init__" = some (.ref fI))
    (hfI : h.get? fI = some oI) (hfc : oI.cls = .type "function")
    (hq : ∀ h' e, Heap.MadeExcOf h h' e (.ref C) rest →
      wpAny (model prog w) A (call (.ref fI) (.ref e :: rest)) (fun r s' => r = .none ∧ Q (.done (.ret (.ref e))) s') E ⟨h', g, d, t, os⟩) (hrest : rest.length ≤ sizeLine) :
    wpAny (model prog w) A (Builtin.«type.__call__» ⟨.ref C :: rest, []⟩) Q E ⟨h, g, d, t, os⟩ := by
  repeat (first | with_reducible refine wpAny_loadPart_at hC ?_ | with_reducible refine wpAny_madeBy_exc hC ?_ | wp_step)
  refine codeAny_call_builtin_code (Code.quiet_builtin _ F.quiet) (wpAny_check_new_subT F T hC ?_)
  refine codeAny_exc_new_subT F T hC ?_ hrest
  show wpAny _ _ _ _ _ _
  have hC₁ := Heap.get?_push_of_some { cls := .ref C, data := .fields #[.ref h.objs.size, .none, .none, .none, .bool false, .none] }
    (Heap.get?_push_of_some { cls := .type "tuple", data := .seq rest.toArray } hC)
  have hfI₁ := Heap.get?_push_of_some { cls := .ref C, data := .fields #[.ref h.objs.size, .none, .none, .none, .bool false, .none] }
    (Heap.get?_push_of_some { cls := .type "tuple", data := .seq rest.toArray } hfI)
  have kp : ∀ b o, h.get? b = some o → ((h.push { cls := .type "tuple", data := .seq rest.toArray }).push { cls := .ref C, data := .fields #[.ref h.objs.size, .none, .none, .none, .bool false, .none] }).get? b = some o :=
    fun b o hb => Heap.get?_push_of_some _ (Heap.get?_push_of_some _ hb)
  have hn₁ := hn.keeps kp
  have T₁ := T.keeps kp
  have hget : ((h.push { cls := .type "tuple", data := .seq rest.toArray }).push
      { cls := .ref C, data := .fields #[.ref h.objs.size, .none, .none, .none, .bool false, .none] }).get? (h.objs.size + 1) = some
      { cls := .ref C, data := .fields #[.ref h.objs.size, .none, .none, .none, .bool false, .none] } := by heap_get
  have hcC : (Value.ref C :: bm).contains (.ref C) = true := by simp
  unfold isInstance
  repeat (first | with_reducible refine wpAny_loadPart_at hget ?_ | (with_reducible refine wpAny_isSubtype_exc hC₁ ?_; rw [hcC]) | wp_step)
  show wpAny _ _ (typeLookup (.ref C) _) _ _ _
  refine wpAny_typeLookup_tail hC₁ hn₁ T₁ F.mroIs F.init.lookup ?_
  rw [hi]
  refine wpAny_holding (wpAny_bind ?_)
  unfold bindSpecial
  refine wpAny_bind (wpAny_typeOf (T := "function") ⟨_, hfI₁, hfc⟩ ?_)
  rw [if_pos (by decide)]
  refine wpAny_pure (wpAny_bind (wpAny_mono (hq _ (h.objs.size + 1) ⟨kp, Heap.get?_none_of_le (Nat.le_succ _), h.objs.size, hget, Heap.get?_none_of_le (Nat.le_refl _), ?_⟩) (fun r s' hr => ?_) fun _ _ x => x))
  · exact Heap.get?_push_of_some _ (Heap.get?_push_at rfl rfl)
  · obtain ⟨rfl, hQ⟩ := hr
    wp_walk
    exact hQ

theorem call_exc_tail (F : ExcBaseFacts B newId initId bmB) (T : OwnTail h bmB bm) {mN : Str → Option Value} {rest : List Value} {fI : Addr} {oI : Obj} {Q : Value → Shared → Prop}
    (hC : h.get? C = some (excClassObj nm q C N bs bm hdct sn sub ab col dd k0 k1 k2 k3 k5 newId)) (hn : h.Ns N mN) (hi : mN "__init__" = some (.ref fI))
    (hfI : h.get? fI = some oI) (hfc : oI.cls = .type "function")
    (hq : ∀ h' e, Heap.MadeExcOf h h' e (.ref C) rest →
      wpAny (model prog w) (A.under (.builtin "type.__call__" ⟨.ref C :: rest, []⟩)) (call (.ref fI) (.ref e :: rest)) (fun r s' => r = .none ∧ Q (.ref e) s') E ⟨h', g, d, t, os⟩) (hrest : rest.length ≤ sizeLine) :
    wpAny (model prog w) A (call (.ref C) rest) Q E ⟨h, g, d, t, os⟩ := by
  have f1 := tc_lookup
  have f2 := tc_bind (.ref C)
  have hT : (⟨h, g, d, t, os⟩ : Shared).TypeIs (.ref C) "type" := ⟨_, hC, rfl⟩
  refine wpAny_call (codeAny_of_tree ?_)
  show wpAny _ _ (callAny (.ref C) _) _ _ _
  repeat (any_goals (first | assumption | with_reducible refine wpAny_loadPart_at hC ?_ | wp_step))
  refine ⟨rfl, ?_⟩
  exact codeAny_call_builtin_at (Code.quiet_builtin _ (by decide +kernel)) entry_typeCall (wpAny_check_type_call_sub hC (type_call_tail F T (hrest := hrest) hC hn hi hfI hfc fun h' e hm => hq h' e hm))
end

/-- what a class of the written part with an __init__ of its own is -/
def excInI (K : Frag) (C fI : Addr) (bmB : List Value) (newId : String) : Bool := match K.lookup C with
  | some ⟨.type "type", _, .cls cd, sl⟩ => (match cd.mro, sl.toList with
    | .ref C' :: bm, [_, _, _, _, some (.builtin n), _] => C' == C && n == newId && !cd.hasDel && tailIn K bmB bm && nsOkIn K cd.ns && nsIn K cd.ns "__init__" == some (some (.ref fI)) && typeIn K (.ref fI) == some (.type "function")
    | _, _ => false)
  | _ => false

structure OwnI (C fI : Addr) (bmB : List Value) (newId : String) (h : Heap) : Prop where
  obj : ∃ (bm : List Value) (N : Addr) (nm qn : Str) (bs : List Value) (hdct : Bool) (sn : List Str) (sub : List Value) (ab : Bool) (col : Option Bool) (dd : Option Addr) (k0 k1 k2 k3 k5 : Option Value) (mN : Str → Option Value) (oI : Obj),
    h.get? C = some (excClassObj nm qn C N bs bm hdct sn sub ab col dd k0 k1 k2 k3 k5 newId) ∧ h.Ns N mN ∧ mN "__init__" = some (.ref fI) ∧ OwnTail h bmB bm ∧ h.get? fI = some oI ∧ oI.cls = .type "function"

theorem ns_some_of {K : Frag} {h : Heap} {N : Addr} {mg : Str → Option Value} {n : Str} {v : Value} (X : K.In h) (G : h.Ns N mg) (e : nsIn K N n = some (some v)) : mg n = some v := by
  have ⟨o, es, ep, ho, hd, _, hf⟩ := G
  have lk : K.lookup N = some o := by
    cases hl : K.lookup N with
    | none => simp [nsIn, hl] at e
    | some o' => rw [← ho, X N o' hl]
  obtain ⟨c, d, dat, sl⟩ := o
  subst hd
  rw [nsIn, lk] at e
  rw [← hf n, nsFind, findBy, ← Array.find?_toList]
  cases hx : es.toList.find? (·.key.isStr n) with
  | some x => simpa [hx] using e
  | none => simp [hx] at e

theorem own_of_inI {K : Frag} {h : Heap} {C fI : Addr} {bmB : List Value} {newId : String} (X : K.In h) (q : excInI K C fI bmB newId = true) : OwnI C fI bmB newId h := by
  unfold excInI at q
  split at q
  · rename_i dd cd sl ho
    split at q
    · rename_i C' bm k0 k1 k2 k3 n k5 hm hs
      simp only [Bool.and_eq_true, beq_iff_eq, Bool.not_eq_true'] at q
      obtain ⟨⟨⟨⟨⟨⟨rfl, rfl⟩, hdel⟩, ht⟩, hok⟩, hni⟩, hty⟩ := q
      obtain ⟨nm, bs, mro, ns, qn, hd, sn, sub, ab, col, del⟩ := cd
      dsimp only at hm hdel hok hni
      subst hm hdel
      have hsl : sl = #[k0, k1, k2, k3, some (.builtin n), k5] := by
        obtain ⟨l⟩ := sl
        simp only at hs
        rw [hs]
      subst hsl
      have hN : h.Ns ns (h.nsMap ns) := .of_isNs (isNs_of_in X hok)
      have hf : ∃ oI, h.get? fI = some oI ∧ oI.cls = .type "function" := by
        obtain ⟨o, ho', hc'⟩ := Option.map_eq_some_iff.mp (show (K.lookup fI).map (·.cls) = some (.type "function") from hty)
        exact ⟨o, X _ _ ho', hc'⟩
      obtain ⟨oI, hfI, hfc⟩ := hf
      exact ⟨bm, ns, nm, qn, bs, hd, sn, sub, ab, col, dd, k0, k1, k2, k3, k5, _, oI, X _ _ ho, hN, ns_some_of X hN hni, tail_of_in X ht, hfI, hfc⟩
    · cases q
  · cases q

/-- a Refusal made: where it lies, what it bears -/
structure MadeRef (h h' : Heap) (e dx t : Addr) (od : Obj) (msg : Str) (tm : Tok) : Prop where
  kept : Kept h h'
  exc : h'.get? e = some ⟨.ref 51, some dx, .fields #[.ref t, .none, .none, .none, .bool false, .none], #[]⟩
  dict : h'.get? dx = some od
  own : LCg.NsObj od (fun y => if y = (Str.ofString "message") then some (.str msg tm) else none)
  newE : h.get? e = none
  newD : h.get? dx = none
  ne : dx ≠ e

section
variable {w : World} {A : Around} {outer : List Env} {A₀ : Around} {base h₀ : Heap} {L : Addr} {m : Str → Option Value} {s : Shared} {Q E : Value → Shared → Prop} {env : Env}
  {mean : ExcName → Option Value} {mg mb : Str → Option Value} {loose : List Str}
theorem refusal_is (w : World) : excInI (top.heap_1 w.params) 51 48 [.type "Exception", .type "BaseException", .type "object"] "Exception.__new__" = true := by kernel_rfl
theorem refusal_make {msg : Str} {tm : Tok}
    (B : Below A₀ base outer h₀) (F : Fr h₀ L s.heap m) (X : (top.heap_1 w.params).In h₀)
    (T : Top hd.view_39 loose mean mg mb h₀) (hA : A.frames = some (env :: outer)) (hf : env.frame = some L) (hke : env.scope.kind = .function) (hroom : A.depth + 1 < recursionLimit)
    (ret : ∀ h' tk' e dx t od, MadeRef s.heap h' e dx t od msg tm → Q (.ref e) { s with heap := h', toks := tk' }) :
    wpAny (model PySem.Challenge.rw_nz0469_01.row.prog w) A (call (.ref 51) [.str msg tm]) Q E s := by
  obtain ⟨bm, N, nm, qn, bs, hdct, sn, sub, ab, col, dd, k0, k1, k2, k3, k5, mN, oI, hC, hN, hi, TL, hfI, hfc⟩ := (own_of_inI (X.keeps F.keep) (refusal_is w)).obj
  obtain ⟨hp, g, d, t, os⟩ := s
  refine call_exc_tail PySem.F.excBase_Exception TL hC hN hi hfI hfc (fun h' e hm => ?_) (by size_fits)
  obtain ⟨tt, he, htn, htt⟩ := hm.there
  have hne : h₀.get? e = none := by
    cases q : h₀.get? e with
    | none => rfl
    | some o => have := F.keep _ _ q; dsimp only at this; rw [hm.new] at this; cases this
  have heL : e ≠ L := fun q => by
    obtain ⟨oL, _, _, hL, _⟩ := F.ns
    dsimp only at hL
    rw [← q, hm.new] at hL; cases hL
  refine init_call (s := ⟨h', g, d, t, os⟩) (fun _ _ => trivial) B (F.keeps hm.keeps) X T hA hf hke (by rw [depth_under_make]; exact hroom) he hne heL rfl rfl rfl ?_
  intro h₂ tk' dx od kp hx hd hO hdn hde
  refine ⟨rfl, ret h₂ tk' e dx tt od ⟨fun b o q => kp b o (fun z => by rw [z] at q; dsimp only at q; rw [hm.new] at q; cases q) (hm.keeps _ _ q), hx, hd, hO, hm.new, ?_, hde⟩⟩
  show hp.get? dx = none
  cases q : hp.get? dx with
  | none => rfl
  | some o => have := hm.keeps _ _ q; dsimp only at hdn; rw [hdn] at this; cases this
end
end Mine
end
-- part NzFlight
noncomputable section
open PySem PySem.W PyProof.Rows PySem.Calls
open Sem (wp)
set_option maxRecDepth 100000
namespace Mine
/-- an exception that flies, its own dict kept in sight -/
def TraceD (h B : Heap) (e dx : Addr) (cls fl : Value) : Prop :=
  ∃ oe vs T oT ts, h.get? e = some oe ∧ (oe.cls = cls ∧ oe.dict = some dx) ∧ oe.data = .fields vs ∧ vs[1]? = some (.ref T) ∧ B.get? T = none ∧ T ≠ e ∧ h.get? T = some oT ∧ oT.data = .fields ts ∧ ts[3]? = some fl
def SlotsUp (h h' : Heap) : Prop := ∀ b o, h.get? b = some o → (∀ vs, o.data ≠ .fields vs) → ∃ sl, h'.get? b = some { o with slots := sl }
def FlyD (B : Heap) (l : List Env) (e dx : Addr) (cls fl : Value) (h : Heap) : Prop := B.StaysIn h ∧ B.get? e = none ∧ h.FunFrames B l ∧ TraceD h B e dx cls fl

section
variable {M : Model} {A : Around} {E : Value → Shared → Prop} {s : Shared}
theorem entryD {B : Heap} {env : Env} {outer : List Env} {L e dx : Addr} {oe : Obj} {vs : Array Value} {head : Value} {hadNext : Bool} {Q : Unit → Shared → Prop}
    (hfr : A.frames = some (env :: outer)) (hl : s.heap.FunFrames B (env :: outer)) (hf : env.frame = some L)
    (he : s.heap.get? e = some oe) (hkb : B.StaysIn s.heap) (hen : B.get? e = none) (hd : oe.data = .fields vs) (hdx : oe.dict = some dx) (hsz : 1 < vs.size)
    (h : ∀ h', FlyD B (env :: outer) e dx oe.cls (rawInt L) h' → SlotsUp s.heap h' → Q () { s with heap := h' }) :
    wpAny M A (do let a ← frameOf env; let pl ← entryPlaceOf L hadNext; let b ← EntryCells.newEntry head a .none (rawInt L) .none pl; setField (.ref e) 1 b) Q E s := by
  have hene : e ∉ (env :: outer).filterMap (·.frame) := fun hm => by
    obtain ⟨_, o, ho, hnf⟩ := hl.mem hm
    rw [he] at ho; injection ho with ho; subst ho; exact hnf vs hd
  refine wpAny_bind (wpAny_frameOf_fun hfr hl hf fun h₁ hs₁ => ?_)
  refine wpAny_bind (wpAny_entryPlaceOf fun pl hpl => ?_)
  unfold EntryCells.newEntry newFields
  refine wpAny_bind (wpAny_newObj_type ?_ (hpl.sizeOk5 _ _ _ _ _))
  have he₁ : h₁.get? e = some oe := (hs₁.2.1 e hene).trans he
  have kb₁ : B.StaysIn h₁ := fun b o hbo => (hs₁.2.1 b fun hm => by rw [(hl.mem hm).1] at hbo; cases hbo).trans (hkb b o hbo)
  generalize hT : ({ cls := .type "traceback", dict := none, data := .fields ([head, .ref L, .none, rawInt L, .none] ++ (if pl.isEmpty then List.replicate 6 Value.none else pl)).toArray } : Obj) = oT
  have hTd : ∃ ts, oT.data = .fields ts ∧ ts[3]? = some (rawInt L) := ⟨_, by rw [← hT], by first | (simp; done) | (rcases hpl with rfl | ⟨_, _, _, _, _, _, _, rfl⟩ <;> simp)⟩
  have hTf : oT.isFreed = false := by obtain ⟨ts, q, _⟩ := hTd; exact Obj.isFreed_of_fields q
  have he₂ := Heap.get?_push_of_some (h := h₁) oT he₁
  refine wpAny_setField he₂ hd hsz (h _ ?_ ?_)
  all_goals
    have hTe : h₁.objs.size ≠ e := Nat.ne_of_gt (Heap.lt_size he₁)
    have hd₃ := Obj.data_mapFields hd (·.setIfInBounds 1 (Value.ref h₁.objs.size))
    have he₃ := Heap.get?_update_self (Obj.mapFields (·.setIfInBounds 1 (Value.ref h₁.objs.size))) he₂ (Obj.isFreed_of_fields hd₃)
    have hT₃ := (Heap.get?_update_other (h₁.push oT) (Obj.mapFields (·.setIfInBounds 1 (Value.ref h₁.objs.size))) (Ne.symm hTe)).trans (Heap.get?_push_size h₁ hTf)
    have keep : ∀ b o, b ≠ e → h₁.get? b = some o → ((h₁.push oT).update e (Obj.mapFields (·.setIfInBounds 1 (Value.ref h₁.objs.size)))).get? b = some o :=
      fun b o hbe hb => by
        rw [Heap.get?_update_other _ _ (Ne.symm hbe)]
        exact Heap.get?_push_of_some _ hb
    have noRecord : ∀ b o, s.heap.get? b = some o → (∀ vs, o.data ≠ .fields vs) → b ≠ e := fun b o hb hnf q => by
      rw [q, he] at hb; injection hb with hb; subst hb; exact hnf vs hd
  · refine ⟨fun b o hbo => keep b o (fun q => by rw [q, hen] at hbo; cases hbo) (kb₁ b o hbo), hen, hl.of_keeps fun b o hb hnf => ?_, ?_⟩
    · obtain ⟨sl, hs⟩ := hs₁.2.2 b o hb
      exact ⟨_, keep b _ (noRecord b o hb hnf) hs, rfl⟩
    · obtain ⟨ts, q1, q2⟩ := hTd
      refine ⟨_, _, h₁.objs.size, _, ts, he₃, ⟨Obj.cls_mapFields _ _, ?_⟩, hd₃, by simp [hsz], kb₁.fresh, hTe, hT₃, q1, q2⟩
      obtain ⟨oc, od, oda, osl⟩ := oe
      dsimp only at hd hdx
      subst hd hdx
      rfl
  · intro b o hb hnf
    obtain ⟨sl, hs⟩ := hs₁.2.2 b o hb
    exact ⟨sl, keep b _ (noRecord b o hb hnf) hs⟩

theorem flightD {B : Heap} {l : List Env} {e dx : Addr} {cls fl : Value} {Q : Unit → Shared → Prop} (hfl : FlyD B l e dx cls fl s.heap)
    (h : ∀ h', FlyD B l e dx cls .none h' → SlotsUp s.heap h' → Q () { s with heap := h' }) :
    wpAny M A (setFlight (.ref e) none) Q E s := by
  obtain ⟨hkb, hen, hl, oe, vs, T, oT, ts, he, hcls, hd, h1, hnT, hTe, hT, hdT, h3⟩ := hfl
  have hsz3 : 3 < ts.size := (Array.getElem?_eq_some_iff.mp h3).1
  have other : ∀ b, b ≠ T → (s.heap.update T (Obj.mapFields (·.setIfInBounds 3 ((none : Option Addr).elim Value.none fun f => rawInt f)))).get? b = s.heap.get? b :=
    fun b hb => Heap.get?_update_other _ _ (Ne.symm hb)
  have noRecord : ∀ b o, s.heap.get? b = some o → (∀ vs, o.data ≠ .fields vs) → b ≠ T := fun b o hb hnf q => by
    rw [q, hT] at hb; injection hb with hb; subst hb; exact hnf ts hdT
  unfold setFlight
  refine wpAny_bind (wpAny_field he hd h1 ?_)
  rw [if_pos (show (Value.ref T != Value.none) = true from by simp)]
  refine wpAny_setField hT hdT hsz3 (h _ ⟨fun b o hbo => (other b fun q => by rw [q, hnT] at hbo; cases hbo).trans (hkb b o hbo), hen,
    hl.of_keeps fun b o hb hnf => ⟨o, (other b (noRecord b o hb hnf)).trans hb, rfl⟩, ?_⟩ fun b o hb hnf => ⟨o.slots, (other b (noRecord b o hb hnf)).trans hb⟩)
  exact ⟨oe, vs, T, _, _, (other e (Ne.symm hTe)).trans he, hcls, hd, h1, hnT, hTe, Heap.get?_update_self _ hT (Obj.isFreed_of_fields (Obj.data_mapFields hdT _)), Obj.data_mapFields hdT _, by simp [hsz3]⟩

theorem slots_trans {h₁ h₂ h₃ : Heap} (x : SlotsUp h₁ h₂) (y : SlotsUp h₂ h₃) : SlotsUp h₁ h₃ := Heap.UpToSlots.trans x y

/-- an exception just made leaves its frame -/
theorem leaving_firstD {B : Heap} {env : Env} {outer : List Env} {L e dx : Addr} {oe : Obj} {vs : Array Value} {Q : Unit → Shared → Prop}
    (hfr : A.frames = some (env :: outer)) (hl : s.heap.FunFrames B (env :: outer)) (hf : env.frame = some L)
    (he : s.heap.get? e = some oe) (hkb : B.StaysIn s.heap) (hen : B.get? e = none) (hd : oe.data = .fields vs) (hdx : oe.dict = some dx) (h1 : vs[1]? = some .none)
    (h : ∀ h', FlyD B outer e dx oe.cls .none h' → SlotsUp s.heap h' → Q () { s with heap := h' }) : wpAny M A (leaving env (.ref e)) Q E s := by
  unfold leaving noteFrame
  simp only [hf]
  refine wpAny_bind (wpAny_bind (wpAny_field he hd h1 ?_))
  rw [if_neg (by decide)]
  refine entryD hfr hl hf he hkb hen hd hdx (Array.getElem?_eq_some_iff.mp h1).1 fun h₁ f₁ u₁ => ?_
  refine flightD f₁ fun h₂ f₂ u₂ => ?_
  obtain ⟨k1, k2, ⟨_, _, k3⟩, k4⟩ := f₂
  exact h h₂ ⟨k1, k2, k3, k4⟩ (slots_trans u₁ u₂)

/-- a flying exception is looked at by a handler's frame -/
theorem noteFrame_onD {B : Heap} {env : Env} {outer : List Env} {L e dx : Addr} {cls : Value} {Q : Unit → Shared → Prop}
    (hfr : A.frames = some (env :: outer)) (hf : env.frame = some L) (hfl : FlyD B (env :: outer) e dx cls .none s.heap)
    (h : ∀ h', FlyD B (env :: outer) e dx cls (rawInt L) h' → SlotsUp s.heap h' → Q () { s with heap := h' }) : wpAny M A (noteFrame (.ref e) env) Q E s := by
  obtain ⟨hkb, hen, hl, oe, vs, T, oT, ts, he, ⟨hcls, hdx⟩, hd, h1, hnT, hTe, hT, hdT, h3⟩ := hfl
  subst hcls
  unfold noteFrame
  simp only [hf]
  refine wpAny_bind (wpAny_field he hd h1 ?_)
  rw [if_pos (show (Value.ref T != Value.none) = true from by simp)]
  refine wpAny_bind (wpAny_field hT hdT h3 ?_)
  rw [if_neg (show ¬ ((Value.none == rawInt L) = true) from by simp [rawInt])]
  refine wpAny_bind (wpAny_setField hT hdT (Array.getElem?_eq_some_iff.mp h3).1 ?_)
  have other : ∀ b, b ≠ T → (s.heap.update T (Obj.mapFields (·.setIfInBounds 3 Value.none))).get? b = s.heap.get? b := fun b hb => Heap.get?_update_other _ _ (Ne.symm hb)
  have noRecord : ∀ b o, s.heap.get? b = some o → (∀ vs, o.data ≠ .fields vs) → b ≠ T := fun b o hb hnf q => by
    rw [q, hT] at hb; injection hb with hb; subst hb; exact hnf ts hdT
  refine entryD hfr (hl.of_keeps fun b o hb hnf => ⟨o, (other b (noRecord b o hb hnf)).trans hb, rfl⟩) hf ((other e (Ne.symm hTe)).trans he)
    (fun b o hbo => (other b fun q => by rw [q, hnT] at hbo; cases hbo).trans (hkb b o hbo)) hen hd hdx (Array.getElem?_eq_some_iff.mp h1).1
    fun h' f u => h h' f fun b o hb hnf => u b o ((other b (noRecord b o hb hnf)).trans hb) hnf

theorem noteFrame_againD {B : Heap} {l : List Env} {env : Env} {L e dx : Addr} {cls : Value} {Q : Unit → Shared → Prop} (hf : env.frame = some L) (ht : FlyD B l e dx cls (rawInt L) s.heap) (h : Q () s) :
    wpAny M A (noteFrame (.ref e) env) Q E s := by
  obtain ⟨_, _, _, oe, vs, T, oT, ts, he, hcls, hd, h1, hnT, hTe, hT, hdT, h3⟩ := ht
  unfold noteFrame
  simp only [hf]
  refine wpAny_bind (wpAny_field he hd h1 ?_)
  rw [if_pos (show (Value.ref T != Value.none) = true from by simp)]
  refine wpAny_bind (wpAny_field hT hdT h3 ?_)
  rw [if_pos (show (rawInt L == rawInt L) = true from by simp)]
  exact wpAny_pure h
end
end Mine
end
-- part NzRaise
noncomputable section
open PySem PySem.W PyProof.Rows PySem.Calls
open Sem (wp)
set_option maxRecDepth 100000
namespace Mine
section
variable {M : Model} {A : Around} {E : Value → Shared → Prop} {env : Env}
variable {nm q : Str} {C N : Addr} {bs bm : List Value} {hdct : Bool} {sn : List Str} {sub : List Value} {ab : Bool} {col : Option Bool} {dd : Option Addr} {k0 k1 k2 k3 k5 : Option Value} {newId : String}
theorem raiseStmt_D {s : Shared} {x : Sem Value} {Q : Flow → Shared → Prop} (hbase : bm.contains (.type "BaseException") = true) (hh : A.handled = none)
    (h : wpAny M A x (fun v s₁ => ∃ e dx t, v = .ref e ∧ s₁.heap.get? C = some (excClassObj nm q C N bs bm hdct sn sub ab col dd k0 k1 k2 k3 k5 newId) ∧
      s₁.heap.get? e = some { cls := .ref C, dict := some dx, data := .fields #[.ref t, .none, .none, .none, .bool false, .none] } ∧ E (.ref e) s₁) E s) :
    wpAny M A (raiseStmt env (some x) none) Q E s := by
  have hcB : (Value.ref C :: bm).contains (.type "BaseException") = true := by rw [List.contains_cons, hbase, Bool.or_true]
  unfold raiseStmt
  refine wpAny_bind (wpAny_mono h (fun v s₁ h₁ => ?_) fun _ _ x => x)
  obtain ⟨e, dx, t, rfl, hC, he, hE⟩ := h₁
  obtain ⟨hp, g, d, tk, os⟩ := s₁
  repeat (first | with_reducible refine wpAny_loadPart_at he ?_ | with_reducible refine wpAny_loadPart_at hC ?_ | (with_reducible refine wpAny_isSubtype_exc hC ?_; rw [hcB]) | wp_step)
  exact wpAny_raiseNew_none hh hE
end

/-- the end of a raise's message: what flies -/
def RefEnd (h₀ : Heap) (L : Addr) (m : Str → Option Value) (E : Value → Shared → Prop) (vs : List Value) (s₂ : Shared) : Prop :=
  ∃ msg tm, vs = [.str msg tm] ∧ Fr h₀ L s₂.heap m ∧ ∀ h' tk' e dx t od, MadeRef s₂.heap h' e dx t od msg tm → E (.ref e) { s₂ with heap := h', toks := tk' }
theorem RefEnd.intro {h₀ : Heap} {L : Addr} {m : Str → Option Value} {E : Value → Shared → Prop} {s₂ : Shared} {msg : Str} {tm : Tok} (F : Fr h₀ L s₂.heap m)
    (h : ∀ h' tk' e dx t od, MadeRef s₂.heap h' e dx t od msg tm → E (.ref e) { s₂ with heap := h', toks := tk' }) : RefEnd h₀ L m E [.str msg tm] s₂ := ⟨msg, tm, rfl, F, h⟩

section
variable {w : World} {A : Around} {outer : List Env} {A₀ : Around} {base h₀ : Heap} {L a : Addr} {m : Str → Option Value} {s : Shared} {E : Value → Shared → Prop} {name : Str} {scope : Scope} {cd : Value}
  {mean : ExcName → Option Value} {mg mb : Str → Option Value} {loose : List Str}
theorem raise_refusal {e₀ : Expr} {np cpos pos : Pos} {Q : Flow → Shared → Prop}
    (B : Below A₀ base outer h₀) (F : Fr h₀ L s.heap m) (X : (top.heap_1 w.params).In h₀) (T : Top hd.view_39 loose mean mg mb h₀)
    (ex : nsIn (top.heap_1 w.params) mainGlobals "Refusal" = some (some (.ref 51)))
    (hA : A.frames = some (envOf name scope L a cd :: outer)) (hh : A.handled = none) (hroom : A.depth + 1 < recursionLimit)
    (h : wpAny (model PySem.Challenge.rw_nz0469_01.row.prog w) A (spliced (backTo cpos (starEach [e₀] (envOf name scope L a cd)))) (RefEnd h₀ L m E) E s)
    (he : starEach [e₀] (envOf name scope L a cd) = (false, eval e₀ (envOf name scope L a cd)) :: starEach [] (envOf name scope L a cd))
    (hplain : (backTo cpos (starEach [] (envOf name scope L a cd))).any (·.1) = false)
    (hk : scope.kind = .function) (hx : (envOf name scope L a cd).kindOf "Refusal" = some .globalImplicit) :
    wpAny (model PySem.Challenge.rw_nz0469_01.row.prog w) A (exec (.Raise (some (.Call (.Name "Refusal" np) [e₀] [] cpos)) none pos) (envOf name scope L a cd)) Q E s := by
  obtain ⟨bm, N, nm, qn, bs, hdct, sn, sub, ab, col, dd, k0, k1, k2, k3, k5, mN, oI, hC, hN, hi, TL, hfI, hfc⟩ := (own_of_inI X (refusal_is w)).obj
  have hbase := TL.hasType PySem.F.excBase_Exception.hasBase
  rw [arm_exec_Raise]
  refine wpAny_bind (wpAny_standAt (raiseStmt_D (C := 51) (nm := nm) (q := qn) (N := N) (bs := bs) (bm := bm) (hdct := hdct) (sn := sn) (sub := sub) (ab := ab) (col := col) (dd := dd) (k0 := k0) (k1 := k1) (k2 := k2) (k3 := k3) (k5 := k5) (newId := "Exception.__new__") hbase hh ?_))
  refine wpAny_bind (wpAny_mono (wpAny_Call_ofName (name_K F X (topRead_of T) ex ?_ hk hx (by decide))) (fun v s₃ h₃ => wpAny_bind (wpAny_standAt (wpAny_pure h₃))) fun _ _ x => x)
  unfold callWith
  rw [he] at h ⊢
  refine wpAny_bind (wpAny_holding (wpAny_mono (Calls.evalArgs_plain (Q := fun a s₂ => a.kw = [] ∧ RefEnd h₀ L m E a.pos s₂) (wpAny_mono h (fun vs s₂ h₂ => ⟨rfl, h₂⟩) fun _ _ y => y)) (fun a s₂ h₂ => wpAny_bind (wpAny_standAt ?_)) fun _ _ x => x))
  obtain ⟨apos, akw⟩ := a
  obtain ⟨hkw, msg, tm, hv, F₂, hE⟩ := h₂
  dsimp only at hkw hv
  subst hkw hv
  obtain ⟨hp, g, d, tk, os⟩ := s₂
  refine wpAny_bind (wpAny_keeperOf_exc (F₂.keep _ _ hC) ?_)
  refine wpAny_bind (refusal_make (s := ⟨hp, g, d, tk, os⟩) B F₂ X T hA rfl hk hroom fun h' tk' e dx t od MR => ?_)
  refine wpAny_bind (wpAny_holding (wpAny_point (wpAny_pure ?_)))
  exact ⟨e, dx, t, rfl, MR.kept _ _ (F₂.keep _ _ hC), MR.exc, hE h' tk' e dx t od MR⟩
end
end Mine
end
-- part NzCaught
noncomputable section
open PySem PySem.W PyProof.Rows PySem.Calls PySem.Spec Builtin Builtin.ObjectAttr
open Sem (wp)
set_option maxRecDepth 100000
namespace Mine
theorem lookIn_of {od : Obj} {m : Str → Option Value} {name : Str} {v : Value} (O : LCg.NsObj od m) (hv : m name = some v) : lookIn name od = some (some v) := by
  obtain ⟨es, ep, hd, _, hf⟩ := O
  have := hf name
  rw [hv] at this
  unfold nsFind findBy at this
  rw [← Array.find?_toList] at this
  unfold lookIn
  rw [hd]
  dsimp only
  cases q : es.toList.find? (·.key.isStr name) with
  | none => rw [q] at this; cases this
  | some en => rw [q] at this; simp only [Option.map_some] at this; dsimp only; rw [Option.some.inj this]
section
variable {prog : Program} {w : World} {A : Around} {E : Value → Shared → Prop} {s : Shared} {K : Frag} {x C : Addr} {ox : Obj} {od : Option Obj} {name : Str} {expr : Bool} {Q : Value → Shared → Prop} {v : Value}
theorem ga_check {M : Model} {hh : Heap} {g : Array GenState} {d : Drawn} {t : Nat} {os : OsState} {nameV : Value} {Q : Unit → Shared → Prop} (X : K.In hh) (I : InstAt hh x ox C od) (hsub : subIn K (.ref C) (.type "BaseException") = some true) (q : Q () ⟨hh, g, d, t, os⟩) :
    wpAny M A (checkBuiltinCall "BaseException.__getattribute__" ⟨[.ref x, nameV], []⟩) Q E ⟨hh, g, d, t, os⟩ :=
  check_slot (i := "BaseException.__getattribute__") (owner := "BaseException") (n := "__getattribute__") (by decide +kernel) (by decide +kernel) (I.type.andThen (looks_subIn X hsub)) (PySem.F.args_bexc_ga (.ref x) nameV) q

theorem get_exc (X : K.In s.heap) (I : InstAt s.heap x ox C od) (hsub : subIn K (.ref C) (.type "BaseException") = some true)
    (hga : findIn K (.ref C) "__getattribute__" = some (some (.builtin "BaseException.__getattribute__"))) (hgt : findIn K (.ref C) "__getattr__" = some none)
    (hf : findObj K C od name = some (.value v)) (hh : handedIn v = true) (h : Q v { s with toks := s.toks + 1 }) : wpAny (model prog w) A (getAttr (.ref x) name expr) Q E s := by
  obtain ⟨hp, g, d, t, os⟩ := s
  have L0 := I.type (M := model prog w)
  have L1 := looks_findIn (M := model prog w) X hga
  have L2 := looks_findIn (M := model prog w) X hgt
  have L3 := looks_find (M := model prog w) X I hf
  have hx2 : (Value.builtin "BaseException.__getattribute__" == Value.builtin "object.__getattribute__") = false := by decide +kernel
  have hx0 : (expr && onTheHeap (Value.builtin "BaseException.__getattribute__")) = false := by cases expr <;> rfl
  unfold getAttr getAttrBy
  refine wpAny_bind (wpAny_mkText (wpAny_holding (wpAny_bind (L0.at (wpAny_bind (L1.at ?_))))))
  dsimp only
  rw [hx2, Bool.and_false, if_neg (by decide)]
  unfold getAttrByItsOwn hookBefore callGetattribute
  rw [hx0]
  refine wpAny_bind (L2.at (wpAny_bind (wpAny_attempt (wpAny_holding ?_))))
  rw [if_neg (by decide)]
  unfold boundAndCalled
  rw [PySem.F.attr_Exception.ga.bind]
  refine wpAny_bind (wpAny_pure ?_)
  refine wpAny_call (codeAny_call_builtin PySem.F.attr_Exception.ga.plain PySem.F.entry_bexc_ga (ga_check X I hsub ?_))
  refine wpAny_bind (wpAny_pure (wpAny_bind (wpAny_pure (wpAny_bind (L0.at (wpAny_bind (L3.at ?_)))))))
  refine wpAny_pure ?_
  show wpAny _ _ (handedOut v) _ _ _
  rw [handedOut_of hh]
  exact wpAny_pure h
end

/-- a Refusal in flight: what lies below it, its own dict, the message -/
structure Flown (s₀ h' : Heap) (l : List Env) (e dx : Addr) (od : Obj) (msg : Str) (tm : Tok) (B : Heap) : Prop where
  below : ∀ b o, s₀.get? b = some o → b ∉ l.filterMap (·.frame) → B.get? b = some o
  fly : FlyD B l e dx (.ref 51) .none h'
  dict : B.get? dx = some od
  own : LCg.NsObj od (fun y => if y = (Str.ofString "message") then some (.str msg tm) else none)
  up : SlotsUp s₀ h'
  newE : s₀.get? e = none
  newD : s₀.get? dx = none

section
variable {w : World} {A₀ : Around} {E : Value → Shared → Prop} {s' : Shared} {h₀ h : Heap} {outer : List Env} {L a e dx : Addr} {m : Str → Option Value} {name : Str} {scope : Scope} {cd : Value}
  {n : Str} {b₀ : Stmt} {suite : List Stmt} {pos np : Pos} {rest : List ExceptHandler} {Q : Flow → Shared → Prop} {news : List (Addr × Obj)}
  {mean : ExcName → Option Value} {mg mb : Str → Option Value} {loose : List Str} {od : Obj} {msg : Str} {tm : Tok} {B : Heap}
theorem caught_D (K : Below A₀ h₀ outer h₀) (F : Fr h₀ L h m) (N : News h₀ L h news) (R : Flown h s'.heap (envOf name scope L a cd :: outer) e dx od msg tm B)
    (X : (top.heap_1 w.params).In h₀) (T : Top hd.view_39 loose mean mg mb h₀) (ex : nsIn (top.heap_1 w.params) mainGlobals "Refusal" = some (some (.ref 51)))
    (k : ∀ h' oe tk, Fr h₀ L h' (fun y => if y = n then some (.ref e) else m y) → News h₀ L h' ((e, oe) :: (dx, od) :: news) → oe.cls = .ref 51 → oe.dict = some dx → notCls oe = true →
      wpAny (model PySem.Challenge.rw_nz0469_01.row.prog w) ((A₀.deeper (envOf name scope L a cd)).mark (some (.ref e))) (execs (b₀ :: suite) (envOf name scope L a cd))
        (fun f s₄ => wpAny (model PySem.Challenge.rw_nz0469_01.row.prog w) (A₀.deeper (envOf name scope L a cd)) (do bindName (envOf name scope L a cd) n .none; unbindBehindTheSuite (envOf name scope L a cd) n pos) (fun _ s₅ => Q f s₅) E s₄)
        (AsSuiteRaised (model PySem.Challenge.rw_nz0469_01.row.prog w) ((A₀.deeper (envOf name scope L a cd)).mark (some (.ref e))) (envOf name scope L a cd) n pos (notedBy (model PySem.Challenge.rw_nz0469_01.row.prog w) ((A₀.deeper (envOf name scope L a cd)).mark (some (.ref e))) (envOf name scope L a cd) (cameBackBy (model PySem.Challenge.rw_nz0469_01.row.prog w) (A₀.deeper (envOf name scope L a cd)) (envOf name scope L a cd) E)))
        { s' with heap := h', toks := tk })
    (hk : scope.kind = .function) (hlo : (envOf name scope L a cd).kindOf n = some .local) (hx : (envOf name scope L a cd).kindOf "Refusal" = some .globalImplicit) :
    wpAny (model PySem.Challenge.rw_nz0469_01.row.prog w) (A₀.deeper (envOf name scope L a cd)) (noteFrame (.ref e) (envOf name scope L a cd))
      (fun _ s₂ => wpAny (model PySem.Challenge.rw_nz0469_01.row.prog w) (A₀.deeper (envOf name scope L a cd)) (setFlight (.ref e) none) (fun _ s₃ =>
        wpAny (model PySem.Challenge.rw_nz0469_01.row.prog w) (A₀.deeper (envOf name scope L a cd)) (handleBy (.ref e) (envOf name scope L a cd) (.ExceptHandler (some (.Name "Refusal" np)) (some n) (b₀ :: suite) pos :: rest)) Q E s₃) E s₂) E s' := by
  obtain ⟨bm, N', nm, qn, bs, hdct, sn, sub, ab, col, dd, k0, k1, k2, k3, k5, mN, oI, hC, hN, hi, TL, hfI, hfc⟩ := (own_of_inI X (refusal_is w)).obj
  obtain ⟨hbel, hfl, hdict, hown, hup, hnE, hnD⟩ := R
  have lv : ∀ b o, h₀.get? b = some o → b ∉ (envOf name scope L a cd :: outer).filterMap (·.frame) := fun b o q hm => by
    have KP := K.push (name := name) (a := a) (cd := cd) F hk
    rw [(KP.frames.mem hm).1] at q; cases q
  have hB : h₀.StaysIn B := fun b o q => hbel b o (F.keep b o q) (lv b o q)
  have hNB : ∀ q ∈ news, B.get? q.1 = some q.2 := fun q hq => hbel _ _ (N q hq).1 fun hm => by
    obtain ⟨env, he, hf⟩ := List.mem_filterMap.mp hm
    rcases List.mem_cons.mp he with rfl | he
    · exact (N q hq).2.1 (Option.some.inj hf).symm
    · obtain ⟨o, ho, _⟩ := (K.frames.mem (List.mem_filterMap.mpr ⟨env, he, hf⟩)).2
      rw [(N q hq).2.2] at ho; cases ho
  have hL : B.get? L = none := by
    obtain ⟨_, ⟨L', _, hf, hn', _⟩, _⟩ := hfl.2.2.1
    obtain rfl : L = L' := Option.some.inj hf
    exact hn'
  have hE₀ : h₀.get? e = none := by
    cases q : h₀.get? e with
    | none => rfl
    | some o => rw [F.keep _ _ q] at hnE; cases hnE
  have hD₀ : h₀.get? dx = none := by
    cases q : h₀.get? dx with
    | none => rfl
    | some o => rw [F.keep _ _ q] at hnD; cases hnD
  have heL : e ≠ L := fun q => by
    obtain ⟨oL, _, _, hL', _⟩ := F.ns
    rw [q, hL'] at hnE; cases hnE
  refine noteFrame_onD (Around.frames_deeper K.stack) rfl hfl fun h₄ f₄ u₄ => ?_
  refine flightD f₄ fun h₅ f₅ u₅ => ?_
  have F₅ : Fr h₀ L h₅ m := F.of_stays (fun b o q => f₅.1 b o (hB b o q)) (slots_trans hup (slots_trans u₄ u₅))
  obtain ⟨oe₅, _, _, _, _, he₅, hc₅, _⟩ := id f₅.2.2.2
  refine wpAny_handleBy_cons (codeAny_handlers_test (name_K F₅ X (topRead_of T) ex ?_ hk hx (by decide))) (by intro q; cases q)
  refine wpAny_excMatches_sub_self (F₅.keep _ _ hC) he₅ hc₅.1 (TL.hasType PySem.F.excBase_Exception.hasBase) (codeAny_handlers_suite_as ?_)
  refine flightD f₅ fun h₆ f₆ u₆ => ?_
  have F₆ : Fr h₀ L h₆ m := F.of_stays (fun b o q => f₆.1 b o (hB b o q)) (slots_trans hup (slots_trans u₄ (slots_trans u₅ u₆)))
  obtain ⟨oe, vs, _, _, _, he, ⟨hc, hdx⟩, hdat, _⟩ := id f₆.2.2.2
  have N₆ : News h₀ L h₆ ((e, oe) :: (dx, od) :: news) := fun q hq => by
    rcases List.mem_cons.mp hq with rfl | hq
    · exact ⟨he, heL, hE₀⟩
    · rcases List.mem_cons.mp hq with rfl | hq
      · refine ⟨f₆.1 _ _ hdict, fun z => ?_, hD₀⟩
        have z' : dx = L := z
        rw [z', hL] at hdict; cases hdict
      · exact ⟨f₆.1 _ _ (hNB q hq), (N q hq).2⟩
  refine stN F₆ N₆ (fun h₇ F₇ N₇ => ?_) hk hlo
  exact k h₇ oe _ F₇ N₇ hc hdx (by unfold notCls; rw [hdat])
end

section
variable {M : Model} {A : Around} {E : Value → Shared → Prop} {s' : Shared} {s₀ base g h₁ : Heap} {outer : List Env} {L a e dx t : Addr} {m : Str → Option Value} {name : Str} {scope : Scope} {cd : Value} {Q : Unit → Shared → Prop}
  {od : Obj} {msg : Str} {tm : Tok}
theorem leave_D (K : Below A base outer g) (kG : Kept s₀ g) (F : Fr g L h₁ m) (MR : MadeRef h₁ s'.heap e dx t od msg tm) (hk : scope.kind = .function)
    (hQ : ∀ h' B, Flown s₀ h' outer e dx od msg tm B → Q () { s' with heap := h' }) :
    wpAny M (A.deeper (envOf name scope L a cd)) (leaving (envOf name scope L a cd) (.ref e)) Q E s' := by
  have F' : Fr g L s'.heap m := F.keeps MR.kept
  have K' := K.push (name := name) (a := a) (cd := cd) F' hk
  have k1 : Kept s₀ h₁ := kept_trans kG F.keep
  have k2 : Kept s₀ s'.heap := kept_trans k1 MR.kept
  have hin : ∀ env ∈ (envOf name scope L a cd :: outer), ∀ b, env.frame = some b → b ∈ e :: (envOf name scope L a cd :: outer).filterMap (·.frame) :=
    fun env he b hb => .tail _ (List.mem_filterMap.mpr ⟨env, he, hb⟩)
  have inH : ∀ b, b ∈ (envOf name scope L a cd :: outer).filterMap (·.frame) → ∃ o, h₁.get? b = some o := fun b hb => by
    obtain ⟨env, he, hf⟩ := List.mem_filterMap.mp hb
    rcases List.mem_cons.mp he with rfl | he
    · obtain ⟨oL, _, _, hL, _⟩ := F.ns
      exact ⟨oL, (Option.some.inj hf : L = b) ▸ hL⟩
    · obtain ⟨o, ho, _⟩ := (K.frames.mem (List.mem_filterMap.mpr ⟨env, he, hf⟩)).2
      exact ⟨o, F.keep _ _ ho⟩
  refine leaving_firstD (B := hideAll s'.heap (e :: (envOf name scope L a cd :: outer).filterMap (·.frame))) K'.stack (funFrames_hide K'.frames hin) rfl MR.exc
    (fun b o q => of_hideAll _ q) (hideAll_none _ (.head _)) rfl rfl rfl fun h' f u => hQ h' (hideAll s'.heap (e :: (envOf name scope L a cd :: outer).filterMap (·.frame))) ?_
  refine ⟨fun b o q hb => hideAll_get _ (k2 b o q) fun hm => ?_, f, hideAll_get _ MR.dict fun hm => ?_, MR.own, slots_trans (Heap.UpToSlots.of_keeps k2) u, ?_, ?_⟩
  · rcases List.mem_cons.mp hm with rfl | hm
    · have := k1 _ _ q; rw [MR.newE] at this; cases this
    · obtain ⟨env, he, hf⟩ := List.mem_filterMap.mp hm
      rcases List.mem_cons.mp he with rfl | he
      · have hbL : L = b := Option.some.inj hf
        have := Heap.lt_size (kG b o q)
        have h2 := F.above
        rw [hbL] at h2
        exact absurd (Nat.lt_of_lt_of_le this h2) (Nat.lt_irrefl _)
      · exact hb (List.mem_filterMap.mpr ⟨env, he, hf⟩)
  · rcases List.mem_cons.mp hm with q | hm
    · exact MR.ne q
    · obtain ⟨o, ho⟩ := inH dx hm
      rw [MR.newD] at ho; cases ho
  · cases q : s₀.get? e with
    | none => rfl
    | some o => have := k1 _ _ q; rw [MR.newE] at this; cases this
  · cases q : s₀.get? dx with
    | none => rfl
    | some o => have := k1 _ _ q; rw [MR.newD] at this; cases this
end
end Mine
end
-- part NzVec
noncomputable section
open PySem PySem.W PyProof.Rows
set_option maxRecDepth 100000
namespace Mine
abbrev vecD (w : World) (ks : Str) (l : Addr) (a1 a2 b1 c1 d1 e1 : Tok) : List DictEntry :=
  [⟨PyData.keyHash w.params (Str.ofString "kind"), .str (Str.ofString "kind") a1, .str ks a2⟩, ⟨PyData.keyHash w.params (Str.ofString "items"), .str (Str.ofString "items") b1, .ref l⟩,
   ⟨PyData.keyHash w.params (Str.ofString "attrs"), .str (Str.ofString "attrs") c1, .none⟩, ⟨PyData.keyHash w.params (Str.ofString "shared"), .str (Str.ofString "shared") d1, .bool false⟩,
   ⟨PyData.keyHash w.params (Str.ofString "loose"), .str (Str.ofString "loose") e1, .bool false⟩]
theorem new_of {h g : Heap} {x : Addr} (k : Kept h g) (e : g.get? x = none) : h.get? x = none := by
  cases q : h.get? x with
  | none => rfl
  | some o => rw [k _ _ q] at e; cases e
/-- a Vector made: its kind, its items' list -/
structure MadeVec (w : World) (h h' : Heap) (x : Addr) (ks : Str) (l : Addr) : Prop where
  kept : Kept h h'
  own : ∃ dx a1 a2 b1 c1 d1 e1 n, h'.get? x = some (instObj 99 dx) ∧ h'.get? dx = some (dictOf (vecD w ks l a1 a2 b1 c1 d1 e1) n) ∧ h.get? x = none ∧ h.get? dx = none
/-- a list made -/
structure MadeList (h h' : Heap) (l : Addr) (its : Array Value) : Prop where
  own : ∃ c, h'.get? l = some (listOf its c)
  new : h.get? l = none
section
variable {w : World} {h₀ g h' : Heap} {L' x dx l : Addr} {m' : Str → Option Value} {news : List (Addr × Obj)} {ks : Str} {a1 a2 b1 c1 d1 e1 : Tok} {n : Nat}
theorem vec_end (kG : Kept h₀ g) (F : Fr g L' h' m') (N : News g L' h' ((x, instObj 99 dx) :: (dx, dictOf (vecD w ks l a1 a2 b1 c1 d1 e1) n) :: news)) : MadeVec w h₀ h' x ks l :=
  have h1 := N _ (.head _)
  have h2 := N _ (.tail _ (.head _))
  ⟨kept_trans kG F.keep, dx, a1, a2, b1, c1, d1, e1, n, h1.1, h2.1, new_of kG h1.2.2, new_of kG h2.2.2⟩
theorem list_end {p q : Addr × Obj} {its : Array Value} {c : Nat} (kG : Kept h₀ g) (N : News g L' h' (p :: q :: (l, listOf its c) :: news)) : MadeList h₀ h' l its :=
  have h1 := N _ (.tail _ (.tail _ (.head _)))
  ⟨⟨c, h1.1⟩, new_of kG h1.2.2⟩
end
theorem inst_keep {g h : Heap} {L x C dx : Addr} {m : Str → Option Value} {sl : Array (Option Value)} {od : Obj} (F : Fr g L h m) (h1 : g.get? x = some ⟨.ref C, some dx, .plain, sl⟩) (h2 : g.get? dx = some od) :
    InstAt h x ⟨.ref C, some dx, .plain, sl⟩ C (some od) := ⟨F.keep _ _ h1, rfl, rfl, F.keep _ _ h2⟩
theorem news_kept {g h h' : Heap} {L : Addr} {news : List (Addr × Obj)} (N : News g L h news) (k : Kept h h') : News g L h' news := fun p hp => ⟨k _ _ (N p hp).1, (N p hp).2⟩
theorem ident_end {b : Bool} {s : Shared} {Q : Value → Shared → Prop} {h' : Heap} {tk' : Nat} (ret : ∀ (h' : Heap) (tk' : Nat), Kept s.heap h' → Q (.bool b) { s with heap := h', toks := tk' }) (hz : b = true) (k : Kept s.heap h') :
    Q (.bool true) { s with heap := h', toks := tk' } := by subst hz; exact ret h' tk' k
end Mine
end
-- part NzEq
noncomputable section
open PySem PySem.W PyProof.Rows PySem.SeqAt PySem.Spec
set_option maxRecDepth 100000
namespace Mine
/-- values that are texts or None -/
inductive OptsAre : List Value → List (Option Str) → Prop
  | nil : OptsAre [] []
  | none {vs os} : OptsAre vs os → OptsAre (.none :: vs) (none :: os)
  | some {vs os} (x : Str) (t : Tok) : OptsAre vs os → OptsAre (.str x t :: vs) (some x :: os)
theorem OptsAre.length : ∀ {vs : List Value} {os : List (Option Str)}, OptsAre vs os → vs.length = os.length
  | _, _, .nil => rfl
  | _, _, .none h => by simp [h.length]
  | _, _, .some _ _ h => by simp [h.length]
theorem opts_of_strs : ∀ {vs : List Value} {ss : List Str}, StrsAre vs ss → OptsAre vs (ss.map some)
  | _, _, .nil => .nil
  | _, _, .cons x t h => .some x t (opts_of_strs h)
theorem OptsAre.snoc : ∀ {vs : List Value} {os : List (Option Str)} {v : Value} {o : Option Str}, OptsAre vs os → OptsAre [v] [o] → OptsAre (vs ++ [v]) (os ++ [o])
  | _, _, _, _, .nil, h => h
  | _, _, _, _, .none r, h => .none (r.snoc h)
  | _, _, _, _, .some x t r, h => .some x t (r.snoc h)
theorem OptsAre.at : ∀ {vs : List Value} {os : List (Option Str)}, OptsAre vs os → ∀ (j : Nat) (h1 : j < vs.length) (h2 : j < os.length),
    (vs[j] = .none ∧ os[j] = Option.none) ∨ ∃ x t, vs[j] = .str x t ∧ os[j] = Option.some x
  | _, _, .none h, 0, _, _ => .inl ⟨rfl, rfl⟩
  | _, _, .some x t h, 0, _, _ => .inr ⟨x, t, rfl, rfl⟩
  | _, _, .none h, j + 1, h1, h2 => h.at j (Nat.lt_of_succ_lt_succ h1) (Nat.lt_of_succ_lt_succ h2)
  | _, _, .some x t h, j + 1, h1, h2 => h.at j (Nat.lt_of_succ_lt_succ h1) (Nat.lt_of_succ_lt_succ h2)
theorem all_range_eq {os ps : List (Option Str)} (h : os.length = ps.length) : (List.range os.length).all (fun j => decide (os[j]? = ps[j]?)) = decide (os = ps) := by
  rw [Bool.eq_iff_iff, List.all_eq_true, decide_eq_true_eq]
  constructor
  · intro q
    refine List.ext_getElem? fun j => ?_
    by_cases hj : j < os.length
    · exact of_decide_eq_true (q j (List.mem_range.mpr hj))
    · rw [List.getElem?_eq_none (by omega), List.getElem?_eq_none (by omega)]
  · intro q j _; rw [q]; exact decide_eq_true rfl
section
variable {prog : Program} {w : World} {A : Around} {E : Value → Shared → Prop} {s : Shared}
theorem eqAt_opt {A : Around} {v u : Value} {o p : Option Str} (h : (v = .none ∧ o = none) ∨ ∃ x t, v = .str x t ∧ o = some x) (h' : (u = .none ∧ p = none) ∨ ∃ x t, u = .str x t ∧ p = some x) :
    EqAt A s v u (decide ((some o : Option (Option Str)) = some p)) := by
  rcases h with ⟨rfl, rfl⟩ | ⟨x, t, rfl, rfl⟩ <;> rcases h' with ⟨rfl, rfl⟩ | ⟨y, t', rfl, rfl⟩
  · exact EqAt.same _
  · exact EqAt.none_str _ _
  · exact EqAt.str_none _ _
  · have e : decide ((some (some x) : Option (Option Str)) = some (some y)) = (x == y) := by
      by_cases q : x = y <;> simp [q]
    rw [e]; exact EqAt.str_str _ _ _ _
theorem eq_opts {a b : Addr} {us vs : List Value} {os ps : List (Option Str)} {Q : Value → Shared → Prop} (hl : s.heap.IsList a us.toArray) (hi : OptsAre us os) (hl' : s.heap.IsList b vs.toArray) (hi' : OptsAre vs ps) (hu : A.units < cLine)
    (h : Q (.bool (decide (os = ps))) s) : wpAny (model prog w) A (compareOp .Eq (.ref a) (.ref b)) Q E s := by
  have l1 := hi.length
  have l2 := hi'.length
  by_cases hn : os.length = ps.length
  · refine eq_listAt (e := fun j => decide (os[j]? = ps[j]?)) hl hl' (by simp; omega) hu (fun j h1 h2 => ?_) ?_
    · have j1 : j < us.length := by simpa using h1
      have j2 : j < vs.length := by simpa using h2
      have := eqAt_opt (s := s) (A := A.in1) (hi.at j j1 (by omega)) (hi'.at j j2 (by omega))
      have e1 : os[j]? = some (os[j]'(by omega)) := List.getElem?_eq_getElem (by omega)
      have e2 : ps[j]? = some (ps[j]'(by omega)) := List.getElem?_eq_getElem (by omega)
      rw [e1, e2]
      exact this
    · rw [show us.toArray.size = os.length from by simp [l1], all_range_eq hn]; exact h
  · refine eq_list_lengthsAt hl hl' (by simp; omega) hu ?_
    have : decide (os = ps) = false := decide_eq_false fun q => hn (by rw [q])
    rw [this] at h; exact h

theorem ne_opts {a b : Addr} {us vs : List Value} {os ps : List (Option Str)} {Q : Value → Shared → Prop} (hl : s.heap.IsList a us.toArray) (hi : OptsAre us os) (hl' : s.heap.IsList b vs.toArray) (hi' : OptsAre vs ps) (hu : A.units < cLine)
    (h : Q (.bool (!decide (os = ps))) s) : wpAny (model prog w) A (compareOp .NotEq (.ref a) (.ref b)) Q E s := by
  have l1 := hi.length
  have l2 := hi'.length
  by_cases hn : os.length = ps.length
  · refine RcNeAt.lists (e := fun j => decide (os[j]? = ps[j]?)) hl hl' (by simp; omega) hu (fun j h1 h2 => ?_) prog w E Q ?_
    · have j1 : j < us.length := by simpa using h1
      have j2 : j < vs.length := by simpa using h2
      have := eqAt_opt (s := s) (A := A.in1) (hi.at j j1 (by omega)) (hi'.at j j2 (by omega))
      have e1 : os[j]? = some (os[j]'(by omega)) := List.getElem?_eq_getElem (by omega)
      have e2 : ps[j]? = some (ps[j]'(by omega)) := List.getElem?_eq_getElem (by omega)
      rw [e1, e2]
      exact this
    · rw [show us.toArray.size = os.length from by simp [l1], all_range_eq hn]; exact h
  · refine RcNeAt.lists_lengths hl hl' (by simp; omega) hu prog w E Q ?_
    have : decide (os = ps) = false := decide_eq_false fun q => hn (by rw [q])
    rw [this] at h; exact h
end
end Mine
end
-- part NzIter
noncomputable section
open PySem PySem.W PyProof.Rows PySem.Calls PyProof.V PySem.Spec
set_option maxRecDepth 100000
namespace Mine
section
variable {prog : Program} {w : World} {A : Around} {E : Value → Shared → Prop} {s : Shared} {env : Env} {h₀ : Heap} {x : Str} {body : List Stmt} {Q : Flow → Shared → Prop}
/-- a turn's end: the iterator as it was, the word of the frame and of the ledger -/
def GenEnd (h₀ : Heap) (L : Addr) (J : (Str → Option Value) → List (Addr × Obj) → Prop) (I : Addr) (oI : Obj) (s₁ s₂ : Shared) : Prop :=
  ∃ h' tk m' news', s₂ = { s₁ with heap := h', toks := tk } ∧ Fr h₀ L h' m' ∧ News h₀ L h' ((I, oI) :: news') ∧ (∀ p ∈ news', p.1 ≠ I) ∧ J m' news'
def GenPost (h₀ : Heap) (L : Addr) (J : (Str → Option Value) → List (Addr × Obj) → Prop) (I : Addr) (oI : Obj) (s₁ : Shared) (Q : Flow → Shared → Prop) (f : Flow) (s₂ : Shared) : Prop :=
  match f with
  | .ret v => Q (.ret v) s₂
  | .brk => Q .next s₂
  | _ => GenEnd h₀ L J I oI s₁ s₂
theorem GenEnd.intro {L I : Addr} {oI : Obj} {J : (Str → Option Value) → List (Addr × Obj) → Prop} {m' : Str → Option Value} {news' : List (Addr × Obj)} {s₁ : Shared} {h' : Heap} {tk : Nat} (F : Fr h₀ L h' m') (N : News h₀ L h' ((I, oI) :: news'))
    (hn : ∀ p ∈ news', p.1 ≠ I) (hj : J m' news') : GenEnd h₀ L J I oI s₁ { s₁ with heap := h', toks := tk } := ⟨h', tk, m', news', rfl, F, N, hn, hj⟩

theorem iter_gen {l : Addr} {vs : List Value} {m₀ : Str → Option Value} {news : List (Addr × Obj)} (J : Nat → (Str → Option Value) → List (Addr × Obj) → Prop)
    (hh : A.handled = none) (hl : h₀.IsList l vs.toArray) (F : Fr h₀ env.locals s.heap m₀) (N : News h₀ env.locals s.heap news) (hj : J 0 m₀ news)
    (turn : ∀ i v m₁ news₁ h tk I oI, vs[i]? = some v → (∀ p ∈ news₁, p.1 ≠ I) → J i m₁ news₁ → Fr h₀ env.locals h (fun y => if y = x then some v else m₁ y) → News h₀ env.locals h ((I, oI) :: news₁) →
      wpAny (model prog w) A (execs body env) (GenPost h₀ env.locals (J (i + 1)) I oI { s with heap := h, toks := tk } Q) E { s with heap := h, toks := tk })
    (done : ∀ m₁ news₁ h tk, J vs.length m₁ news₁ → Fr h₀ env.locals h m₁ → News h₀ env.locals h news₁ → Q .next { s with heap := h, toks := tk }) :
    wpAny (model prog w) A (pyIter (.ref l)) (fun it s₂ => LoopAtV prog w A h₀ env x body Q E it s₂) E s := by
  have hls : s.heap.IsList l vs.toArray := hl.at fun o e => F.keep l o e
  obtain ⟨ol, hol, _⟩ := id hl
  have hlt : l < h₀.objs.size := Heap.lt_size hol
  have hne : l ≠ s.heap.objs.size := Nat.ne_of_lt (Nat.lt_trans (Nat.lt_of_lt_of_le hlt F.above) F.ns.lt)
  refine wpAny_pyIter_list hls ?_
  have W := Walks.list (prog := prog) (w := w) hh s.heap.objs.size l hne vs.toArray
  have hlen : vs.toArray.size = vs.length := by simp
  rw [hlen] at W
  refine ⟨_, _, _, vs.length, _, _, m₀, news, J, rfl, W, ?_, ?_, ?_, ⟨⟨_, Heap.get?_push_size _ rfl, rfl, rfl⟩, hls.at fun o e => Heap.get?_push_of_some _ e⟩, F.push _, (fun p hp => ⟨Heap.get?_push_of_some _ (N p hp).1, (N p hp).2⟩), hj, ?_, ?_⟩
  · intro hm
    rcases List.mem_cons.mp hm with e | hm
    · exact absurd F.ns.lt (e ▸ Nat.lt_irrefl _)
    · exact absurd (Nat.lt_of_lt_of_le hlt F.above) ((List.mem_singleton.mp hm) ▸ Nat.lt_irrefl _)
  · intro b hb
    rw [List.mem_singleton.mp hb]
    exact next_is_new F
  · intro p hp hI
    exact absurd (Heap.lt_size (N p hp).1) ((List.mem_singleton.mp hI) ▸ Nat.lt_irrefl _)
  · rintro i v m₁ news₁ s₁ own ⟨hh', tk', rfl⟩ hin hP hJ hoff hown hownat hlive hSt F₁ N₁
    obtain ⟨⟨oI, hoI, _⟩, _⟩ := hSt
    have hIn : (s.heap.objs.size, oI) ∈ own := hlive _ (.head _) (next_is_new F) oI hoI
    have offI : ∀ p ∈ news₁, p.1 ≠ s.heap.objs.size := fun p hp q => hoff p hp (List.mem_singleton.mpr q)
    have N₂ : News h₀ env.locals hh' ((s.heap.objs.size, oI) :: news₁) := fun p hp => by
      rcases List.mem_cons.mp hp with rfl | hp
      · exact N₁ _ (List.mem_append_left _ hIn)
      · exact N₁ _ (List.mem_append_right _ hp)
    have hv : vs[i]? = some v := by simpa using hP
    refine wpAny_mono (turn i v m₁ news₁ hh' tk' _ oI hv offI hJ F₁ N₂) (fun f s₂ p => ?_) fun _ _ e => e
    have fin : GenEnd h₀ env.locals (J (i + 1)) s.heap.objs.size oI { s with heap := hh', toks := tk' } s₂ → LoopStepU h₀ env.locals [s.heap.objs.size] own (J (i + 1)) { s with heap := hh', toks := tk' } .next s₂ := by
      rintro ⟨h', tk, m', news', e, F', N', hn, hm⟩
      refine ⟨rfl, h', tk, m', news', e, F', fun p hp => ?_, fun p hp q => hn p hp (List.mem_singleton.mp q), hm⟩
      rcases List.mem_append.mp hp with hp | hp
      · have hfp := hown p hp
        rcases List.mem_cons.mp hfp with e1 | e1
        · have e2 := hownat p hp
          rw [e1] at e2
          have e3 : p = (s.heap.objs.size, oI) := by
            have : some p.2 = some oI := e2.symm.trans hoI
            cases p; simp only at e1; cases this; rw [e1]
          rw [e3]; exact N' _ (.head _)
        · have h2 := List.mem_singleton.mp e1
          have h3 := (N₁ p (List.mem_append_left _ hp)).2.2
          rw [h2, hol] at h3; cases h3
      · exact N' _ (.tail _ hp)
    cases f with
    | ret v => exact .ret p
    | brk => exact .brk p
    | next => exact .next (fin p)
    | cont => exact .cont (fin p)
  · rintro h' tk m' news' F' N' _ hJ
    exact done m' news' h' tk hJ F' N'
end
end Mine
end
-- part NzIter2
noncomputable section
open PySem PySem.W PyProof.Rows PySem.Calls PyProof.V PySem.Spec
set_option maxRecDepth 100000
namespace Mine
theorem opts_item {vs : List Value} {os : List (Option Str)} (h : OptsAre vs os) {i : Nat} {v : Value} (hv : vs[i]? = some v) :
    ∃ o, os[i]? = some o ∧ OptsAre [v] [o] := by
  obtain ⟨h1, rfl⟩ := List.getElem?_eq_some_iff.mp hv
  have h2 : i < os.length := by rw [← h.length]; exact h1
  refine ⟨os[i], List.getElem?_eq_getElem h2, ?_⟩
  rcases h.at i h1 h2 with ⟨e1, e2⟩ | ⟨x, t, e1, e2⟩
  · rw [e1, e2]; exact .none .nil
  · rw [e1, e2]; exact .some x t .nil
section
variable {prog : Program} {w : World} {A : Around} {E : Value → Shared → Prop} {s : Shared} {env : Env} {h₀ : Heap} {x y₁ : Str} {body : List Stmt} {Q : Flow → Shared → Prop}
/-- the frame, less the names that a loop stores -/
def SameBut2 (x y₁ : Str) (m₀ m : Str → Option Value) : Prop := ∀ z, z ≠ x → z ≠ y₁ → m z = m₀ z
theorem same_turn {m₀ m : Str → Option Value} {v : Option Value} (h : SameBut2 x y₁ m₀ m) : (fun z => if z = x then v else m z) = fun z => if z = x then v else if z = y₁ then m y₁ else m₀ z := by
  funext z
  by_cases h1 : z = x
  · simp [h1]
  · simp only [if_neg h1]
    by_cases h2 : z = y₁
    · simp [h2]
    · simp only [if_neg h2]; exact h z h1 h2
theorem same_out {m₀ m : Str → Option Value} (h : SameBut2 x y₁ m₀ m) : m = fun z => if z = x then m x else if z = y₁ then m y₁ else m₀ z := by
  funext z
  by_cases h1 : z = x
  · simp [h1]
  · simp only [if_neg h1]
    by_cases h2 : z = y₁
    · simp [h2]
    · simp only [if_neg h2]; exact h z h1 h2

/-- a search: a turn hands back, or nothing has changed and the item is no hit -/
def SearchPost (hit : Prop) (h₀ : Heap) (L : Addr) (x : Str) (m₀ : Str → Option Value) (news : List (Addr × Obj)) (I : Addr) (oI : Obj) (s₁ : Shared) (Q : Flow → Shared → Prop) (f : Flow) (s₂ : Shared) : Prop :=
  match f with
  | .ret v => Q (.ret v) s₂
  | .brk => False
  | _ => ¬ hit ∧ GenEnd h₀ L (fun m' nx => nx = news ∧ SameBut2 x x m₀ m') I oI s₁ s₂
theorem iter_search {l : Addr} {vs : List Value} {os : List (Option Str)} {m₀ : Str → Option Value} {news : List (Addr × Obj)} (hit : Option Str → Prop)
    (hh : A.handled = none) (hl : h₀.IsList l vs.toArray) (hI : OptsAre vs os) (F : Fr h₀ env.locals s.heap m₀) (N : News h₀ env.locals s.heap news)
    (turn : ∀ o v h tk I oI, o ∈ os → OptsAre [v] [o] → Fr h₀ env.locals h (fun y => if y = x then some v else m₀ y) → News h₀ env.locals h ((I, oI) :: news) →
      wpAny (model prog w) A (execs body env) (SearchPost (hit o) h₀ env.locals x m₀ news I oI { s with heap := h, toks := tk } Q) E { s with heap := h, toks := tk })
    (done : ∀ u h tk, (∀ o ∈ os, ¬ hit o) → Fr h₀ env.locals h (fun y => if y = x then u else m₀ y) → News h₀ env.locals h news → Q .next { s with heap := h, toks := tk }) :
    wpAny (model prog w) A (pyIter (.ref l)) (fun it s₂ => LoopAtV prog w A h₀ env x body Q E it s₂) E s := by
  refine iter_gen (fun i m nx => (nx = news ∧ SameBut2 x x m₀ m) ∧ ∀ o ∈ os.take i, ¬ hit o) hh hl F N ⟨⟨rfl, fun _ _ _ => rfl⟩, by simp⟩ ?_ ?_
  · rintro i v m₁ nx h tk I oI hv hoff ⟨⟨rfl, hm⟩, hno⟩ F₁ N₁
    obtain ⟨o, ho, hvo⟩ := opts_item hI hv
    have e : (fun y => if y = x then some v else m₁ y) = fun y => if y = x then some v else m₀ y := by
      rw [same_turn hm]; funext z; by_cases h1 : z = x <;> simp [h1]
    rw [e] at F₁
    refine wpAny_mono (turn o v h tk I oI (List.mem_of_getElem? ho) hvo F₁ N₁) (fun f s₂ p => ?_) fun _ _ e => e
    have ht : os.take (i + 1) = os.take i ++ [o] := by rw [List.take_add_one, ho]; rfl
    have go : ¬ hit o ∧ GenEnd h₀ env.locals (fun m' nx' => nx' = nx ∧ SameBut2 x x m₀ m') I oI { s with heap := h, toks := tk } s₂ →
        GenEnd h₀ env.locals (fun m nx' => (nx' = nx ∧ SameBut2 x x m₀ m) ∧ ∀ o ∈ os.take (i + 1), ¬ hit o) I oI { s with heap := h, toks := tk } s₂ := by
      rintro ⟨h1, h', tk', m', nx', e', F', N', hn, hj⟩
      refine ⟨h', tk', m', nx', e', F', N', hn, hj, fun o' ho' => ?_⟩
      rw [ht] at ho'
      rcases List.mem_append.mp ho' with h2 | h2
      · exact hno o' h2
      · rw [List.mem_singleton.mp h2]; exact h1
    cases f with
    | ret v => exact p
    | brk => exact p.elim
    | next => exact go p
    | cont => exact go p
  · rintro m₁ nx h tk ⟨⟨rfl, hm⟩, hno⟩ F₁ N₁
    have hn : vs.length = os.length := hI.length
    rw [hn, List.take_length] at hno
    refine done (m₁ x) h tk hno ?_ N₁
    have e : m₁ = fun y => if y = x then m₁ x else m₀ y := by
      conv => lhs; rw [same_out hm]
      funext z; by_cases h1 : z = x <;> simp [h1]
    rw [e] at F₁; exact F₁

/-- a list of the ledger grows by texts -/
theorem iter_grow {l D : Addr} {vs ys₀ : List Value} {os : List (Option Str)} {acc₀ : List Str} {n₀ : Nat} {m₀ : Str → Option Value} {news : List (Addr × Obj)} (f : Option Str → List Str)
    (hh : A.handled = none) (hl : h₀.IsList l vs.toArray) (hI : OptsAre vs os) (F : Fr h₀ env.locals s.heap m₀) (N : News h₀ env.locals s.heap ((D, listOf ys₀.toArray n₀) :: news)) (hY : StrsAre ys₀ acc₀)
    (turn : ∀ o v ys acc n u h tk I oI, o ∈ os → OptsAre [v] [o] → StrsAre ys acc → D ≠ I → (∀ p ∈ news, p.1 ≠ I) → Fr h₀ env.locals h (fun y => if y = x then some v else if y = y₁ then u else m₀ y) → News h₀ env.locals h ((I, oI) :: (D, listOf ys.toArray n) :: news) → (∃ k, acc = acc₀ ++ (os.take k).flatMap f ∧ k < os.length) →
      wpAny (model prog w) A (execs body env) (GenPost h₀ env.locals (fun m' nx => (∃ ys' n', nx = (D, listOf ys'.toArray n') :: news ∧ StrsAre ys' (acc ++ f o)) ∧ SameBut2 x y₁ m₀ m') I oI { s with heap := h, toks := tk } Q) E { s with heap := h, toks := tk })
    (done : ∀ u u' ys n h tk, StrsAre ys (acc₀ ++ os.flatMap f) → Fr h₀ env.locals h (fun y => if y = x then u else if y = y₁ then u' else m₀ y) → News h₀ env.locals h ((D, listOf ys.toArray n) :: news) → Q .next { s with heap := h, toks := tk }) :
    wpAny (model prog w) A (pyIter (.ref l)) (fun it s₂ => LoopAtV prog w A h₀ env x body Q E it s₂) E s := by
  refine iter_gen (fun i m nx => (∃ ys n, nx = (D, listOf ys.toArray n) :: news ∧ StrsAre ys (acc₀ ++ (os.take i).flatMap f)) ∧ SameBut2 x y₁ m₀ m) hh hl F N ⟨⟨ys₀, n₀, rfl, by simpa using hY⟩, fun _ _ _ => rfl⟩ ?_ ?_
  · rintro i v m₁ nx h tk I oI hv hoff ⟨⟨ys, n, rfl, hY'⟩, hm⟩ F₁ N₁
    obtain ⟨o, ho, hvo⟩ := opts_item hI hv
    have hi : i < os.length := (List.getElem?_eq_some_iff.mp ho).1
    rw [same_turn hm] at F₁
    have ht : os.take (i + 1) = os.take i ++ [o] := by rw [List.take_add_one, ho]; rfl
    have hs : acc₀ ++ (os.take (i + 1)).flatMap f = (acc₀ ++ (os.take i).flatMap f) ++ f o := by rw [ht]; simp
    rw [hs]
    exact turn o v ys _ n _ h tk I oI (List.mem_of_getElem? ho) hvo hY' (hoff _ (.head _)) (fun p hp => hoff p (.tail _ hp)) F₁ N₁ ⟨i, rfl, hi⟩
  · rintro m₁ nx h tk ⟨⟨ys, n, rfl, hY'⟩, hm⟩ F₁ N₁
    have hn : vs.length = os.length := hI.length
    rw [hn, List.take_length] at hY'
    rw [same_out hm] at F₁
    exact done _ _ ys n h tk hY' F₁ N₁

/-- a name is bound anew to a longer list of texts -/
theorem iter_rebind {l D₀ : Addr} {vs ys₀ : List Value} {os : List (Option Str)} {acc₀ : List Str} {n₀ : Nat} {m₀ : Str → Option Value} {news : List (Addr × Obj)} (f : Option Str → List Str)
    (hh : A.handled = none) (hl : h₀.IsList l vs.toArray) (hI : OptsAre vs os) (F : Fr h₀ env.locals s.heap m₀) (N : News h₀ env.locals s.heap ((D₀, listOf ys₀.toArray n₀) :: news)) (hY : StrsAre ys₀ acc₀) (hm₀ : m₀ y₁ = some (.ref D₀)) (hxy : y₁ ≠ x)
    (turn : ∀ o v D ys acc n h tk I oI, o ∈ os → OptsAre [v] [o] → StrsAre ys acc → D ≠ I → (∀ p ∈ news, p.1 ≠ I) → Fr h₀ env.locals h (fun y => if y = x then some v else if y = y₁ then some (.ref D) else m₀ y) → News h₀ env.locals h ((I, oI) :: (D, listOf ys.toArray n) :: news) → (∃ k, acc = acc₀ ++ (os.take k).flatMap f ∧ k < os.length) →
      wpAny (model prog w) A (execs body env) (GenPost h₀ env.locals (fun m' nx => ∃ D' ys' n', nx = (D', listOf ys'.toArray n') :: news ∧ StrsAre ys' (acc ++ f o) ∧ m' y₁ = some (.ref D') ∧ SameBut2 x y₁ m₀ m') I oI { s with heap := h, toks := tk } Q) E { s with heap := h, toks := tk })
    (done : ∀ u D ys n h tk, StrsAre ys (acc₀ ++ os.flatMap f) → Fr h₀ env.locals h (fun y => if y = x then u else if y = y₁ then some (.ref D) else m₀ y) → News h₀ env.locals h ((D, listOf ys.toArray n) :: news) → Q .next { s with heap := h, toks := tk }) :
    wpAny (model prog w) A (pyIter (.ref l)) (fun it s₂ => LoopAtV prog w A h₀ env x body Q E it s₂) E s := by
  refine iter_gen (fun i m nx => ∃ D ys n, nx = (D, listOf ys.toArray n) :: news ∧ StrsAre ys (acc₀ ++ (os.take i).flatMap f) ∧ m y₁ = some (.ref D) ∧ SameBut2 x y₁ m₀ m) hh hl F N ⟨D₀, ys₀, n₀, rfl, by simpa using hY, hm₀, fun _ _ _ => rfl⟩ ?_ ?_
  · rintro i v m₁ nx h tk I oI hv hoff ⟨D, ys, n, rfl, hY', hD, hm⟩ F₁ N₁
    obtain ⟨o, ho, hvo⟩ := opts_item hI hv
    have hi : i < os.length := (List.getElem?_eq_some_iff.mp ho).1
    rw [same_turn hm, hD] at F₁
    have ht : os.take (i + 1) = os.take i ++ [o] := by rw [List.take_add_one, ho]; rfl
    have hs : acc₀ ++ (os.take (i + 1)).flatMap f = (acc₀ ++ (os.take i).flatMap f) ++ f o := by rw [ht]; simp
    rw [hs]
    exact turn o v D ys _ n h tk I oI (List.mem_of_getElem? ho) hvo hY' (hoff _ (.head _)) (fun p hp => hoff p (.tail _ hp)) F₁ N₁ ⟨i, rfl, hi⟩
  · rintro m₁ nx h tk ⟨D, ys, n, rfl, hY', hD, hm⟩ F₁ N₁
    have hn : vs.length = os.length := hI.length
    rw [hn, List.take_length] at hY'
    rw [same_out hm, hD] at F₁
    exact done _ D ys n h tk hY' F₁ N₁
end
end Mine
end
-- part NzIter3
noncomputable section
open PySem PySem.W PyProof.Rows PySem.Calls PyProof.V PySem.Spec
set_option maxRecDepth 100000
namespace Mine
/-- words for the walk: what a search seeks; what a turn appends, which other name it stores -/
theorem append_room {ys : List Value} (h : ys.length ≤ 4000) : ys.toArray.size ≤ sizeLine := by rw [List.size_toArray, sizeLine_eq]; omega
structure SearchW (hit : Str → Prop) : Prop where
structure GrowW (f : Option Str → List Str) (y : Str) : Prop where
  short : ∀ o, (f o).length ≤ 1
structure RebindW (f : Option Str → List Str) (y : Str) : Prop where
  short : ∀ o, (f o).length ≤ 1
theorem flat_len {f : Option Str → List Str} (h : ∀ o, (f o).length ≤ 1) : ∀ os : List (Option Str), (os.flatMap f).length ≤ os.length
  | [] => by simp
  | o :: r => by
    have h1 := h o
    have h2 := flat_len h r
    simp only [List.flatMap_cons, List.length_append, List.length_cons]; omega
theorem flat_take {f : Option Str → List Str} (h : ∀ o, (f o).length ≤ 1) {os : List (Option Str)} {acc₀ acc : List Str} (hk : ∃ k, acc = acc₀ ++ (os.take k).flatMap f ∧ k < os.length) : acc.length + 1 ≤ acc₀.length + os.length := by
  obtain ⟨k, rfl, hk⟩ := hk
  have := flat_len h (os.take k)
  rw [List.length_take] at this
  simp only [List.length_append]; omega
theorem flat_all {f : Option Str → List Str} (h : ∀ o, (f o).length ≤ 1) {os : List (Option Str)} {acc₀ : List Str} : (acc₀ ++ os.flatMap f).length ≤ acc₀.length + os.length := by
  have := flat_len h os
  simp only [List.length_append]; omega
section
variable {prog : Program} {w : World} {A : Around} {E : Value → Shared → Prop} {s : Shared} {env : Env} {h₀ : Heap} {x y₁ : Str} {body : List Stmt} {Q : Flow → Shared → Prop}
theorem iter_searchS {l : Addr} {vs : List Value} {ch : List Str} {m₀ : Str → Option Value} {news : List (Addr × Obj)} {hit : Str → Prop} (_ : SearchW hit)
    (hh : A.handled = none) (hl : h₀.IsList l vs.toArray) (hI : StrsAre vs ch) (F : Fr h₀ env.locals s.heap m₀) (N : News h₀ env.locals s.heap news)
    (turn : ∀ c t h tk I oI, c ∈ ch → Fr h₀ env.locals h (fun y => if y = x then some (.str c t) else m₀ y) → News h₀ env.locals h ((I, oI) :: news) →
      wpAny (model prog w) A (execs body env) (SearchPost (hit c) h₀ env.locals x m₀ news I oI { s with heap := h, toks := tk } Q) E { s with heap := h, toks := tk })
    (done : ∀ u h tk, (∀ c ∈ ch, ¬ hit c) → Fr h₀ env.locals h (fun y => if y = x then u else m₀ y) → News h₀ env.locals h news → Q .next { s with heap := h, toks := tk }) :
    wpAny (model prog w) A (pyIter (.ref l)) (fun it s₂ => LoopAtV prog w A h₀ env x body Q E it s₂) E s := by
  refine iter_search (fun o => ∃ c, o = some c ∧ hit c) hh hl (opts_of_strs hI) F N ?_ ?_
  · intro o v h tk I oI ho hv F₁ N₁
    obtain ⟨c, hc, rfl⟩ := List.mem_map.mp ho
    cases hv with
    | some c t _ =>
      refine wpAny_mono (turn c t h tk I oI hc F₁ N₁) (fun f s₂ p => ?_) fun _ _ e => e
      cases f with
      | ret v => exact p
      | brk => exact p
      | next => exact ⟨fun ⟨c', e, q⟩ => p.1 (by cases e; exact q), p.2⟩
      | cont => exact ⟨fun ⟨c', e, q⟩ => p.1 (by cases e; exact q), p.2⟩
  · intro u h tk hno F₁ N₁
    exact done u h tk (fun c hc q => hno (some c) (List.mem_map.mpr ⟨c, hc, rfl⟩) ⟨c, rfl, q⟩) F₁ N₁
theorem search_next {hit : Prop} {L I : Addr} {oI : Obj} {m₀ : Str → Option Value} {news : List (Addr × Obj)} {s₁ : Shared} {h' : Heap} {tk : Nat} {v : Option Value} (hn : ¬ hit)
    (F : Fr h₀ L h' (fun y => if y = x then v else m₀ y)) (N : News h₀ L h' ((I, oI) :: news)) (off : ∀ p ∈ news, p.1 ≠ I) :
    SearchPost hit h₀ L x m₀ news I oI s₁ Q .next { s₁ with heap := h', toks := tk } :=
  ⟨hn, GenEnd.intro F N off ⟨rfl, fun z h1 _ => if_neg h1⟩⟩
theorem search_ret {hit : Prop} {L I : Addr} {oI : Obj} {m₀ : Str → Option Value} {news : List (Addr × Obj)} {s₁ s₂ : Shared} {v : Value} (h : Q (.ret v) s₂) :
    SearchPost hit h₀ L x m₀ news I oI s₁ Q (.ret v) s₂ := h

theorem iter_growS {l D : Addr} {vs ys₀ : List Value} {ch : List Str} {acc₀ : List Str} {n₀ : Nat} {m₀ : Str → Option Value} {news : List (Addr × Obj)} {f : Option Str → List Str} (W : GrowW f y₁)
    (hh : A.handled = none) (hl : h₀.IsList l vs.toArray) (hI : StrsAre vs ch) (F : Fr h₀ env.locals s.heap m₀) (N : News h₀ env.locals s.heap ((D, listOf ys₀.toArray n₀) :: news)) (hY : StrsAre ys₀ acc₀)
    (turn : ∀ c t ys acc n u h tk I oI, c ∈ ch → StrsAre ys acc → D ≠ I → (∀ p ∈ news, p.1 ≠ I) → Fr h₀ env.locals h (fun y => if y = x then some (.str c t) else if y = y₁ then u else m₀ y) → News h₀ env.locals h ((I, oI) :: (D, listOf ys.toArray n) :: news) → acc.length + 1 ≤ acc₀.length + ch.length → ys.length = acc.length →
      wpAny (model prog w) A (execs body env) (GenPost h₀ env.locals (fun m' nx => (∃ ys' n', nx = (D, listOf ys'.toArray n') :: news ∧ StrsAre ys' (acc ++ f (some c))) ∧ SameBut2 x y₁ m₀ m') I oI { s with heap := h, toks := tk } Q) E { s with heap := h, toks := tk })
    (done : ∀ u u' ys n h tk acc, acc = acc₀ ++ (ch.map some).flatMap f → acc.length ≤ acc₀.length + ch.length → ys.length = acc.length → StrsAre ys acc → Fr h₀ env.locals h (fun y => if y = x then u else if y = y₁ then u' else m₀ y) → News h₀ env.locals h ((D, listOf ys.toArray n) :: news) → Q .next { s with heap := h, toks := tk }) :
    wpAny (model prog w) A (pyIter (.ref l)) (fun it s₂ => LoopAtV prog w A h₀ env x body Q E it s₂) E s := by
  refine iter_grow f hh hl (opts_of_strs hI) F N hY ?_ (fun u u' ys n h tk hY F N => done u u' ys n h tk _ rfl (by have := flat_all W.short (os := ch.map some) (acc₀ := acc₀); rwa [List.length_map] at this) hY.len_eq hY F N)
  intro o v ys acc n u h tk I oI ho hv hY' hD hp F₁ N₁ hk
  obtain ⟨c, hc, rfl⟩ := List.mem_map.mp ho
  have hk' := flat_take W.short hk
  rw [List.length_map] at hk'
  cases hv with
  | some c t _ => exact turn c t ys acc n u h tk I oI hc hY' hD hp F₁ N₁ hk' hY'.len_eq
theorem iter_growO {l D : Addr} {vs ys₀ : List Value} {os : List (Option Str)} {acc₀ : List Str} {n₀ : Nat} {m₀ : Str → Option Value} {news : List (Addr × Obj)} {f : Option Str → List Str} (W : GrowW f y₁)
    (hh : A.handled = none) (hl : h₀.IsList l vs.toArray) (hI : OptsAre vs os) (F : Fr h₀ env.locals s.heap m₀) (N : News h₀ env.locals s.heap ((D, listOf ys₀.toArray n₀) :: news)) (hY : StrsAre ys₀ acc₀)
    (turnN : ∀ ys acc n u h tk I oI, StrsAre ys acc → D ≠ I → (∀ p ∈ news, p.1 ≠ I) → Fr h₀ env.locals h (fun y => if y = x then some .none else if y = y₁ then u else m₀ y) → News h₀ env.locals h ((I, oI) :: (D, listOf ys.toArray n) :: news) → acc.length + 1 ≤ acc₀.length + os.length → ys.length = acc.length →
      wpAny (model prog w) A (execs body env) (GenPost h₀ env.locals (fun m' nx => (∃ ys' n', nx = (D, listOf ys'.toArray n') :: news ∧ StrsAre ys' (acc ++ f none)) ∧ SameBut2 x y₁ m₀ m') I oI { s with heap := h, toks := tk } Q) E { s with heap := h, toks := tk })
    (turnS : ∀ c t ys acc n u h tk I oI, some c ∈ os → StrsAre ys acc → D ≠ I → (∀ p ∈ news, p.1 ≠ I) → Fr h₀ env.locals h (fun y => if y = x then some (.str c t) else if y = y₁ then u else m₀ y) → News h₀ env.locals h ((I, oI) :: (D, listOf ys.toArray n) :: news) → acc.length + 1 ≤ acc₀.length + os.length → ys.length = acc.length →
      wpAny (model prog w) A (execs body env) (GenPost h₀ env.locals (fun m' nx => (∃ ys' n', nx = (D, listOf ys'.toArray n') :: news ∧ StrsAre ys' (acc ++ f (some c))) ∧ SameBut2 x y₁ m₀ m') I oI { s with heap := h, toks := tk } Q) E { s with heap := h, toks := tk })
    (done : ∀ u u' ys n h tk acc, acc = acc₀ ++ os.flatMap f → acc.length ≤ acc₀.length + os.length → ys.length = acc.length → StrsAre ys acc → Fr h₀ env.locals h (fun y => if y = x then u else if y = y₁ then u' else m₀ y) → News h₀ env.locals h ((D, listOf ys.toArray n) :: news) → Q .next { s with heap := h, toks := tk }) :
    wpAny (model prog w) A (pyIter (.ref l)) (fun it s₂ => LoopAtV prog w A h₀ env x body Q E it s₂) E s := by
  refine iter_grow f hh hl hI F N hY ?_ (fun u u' ys n h tk hY F N => done u u' ys n h tk _ rfl (flat_all W.short) hY.len_eq hY F N)
  intro o v ys acc n u h tk I oI ho hv hY' hD hp F₁ N₁ hk
  cases hv with
  | none _ => exact turnN ys acc n u h tk I oI hY' hD hp F₁ N₁ (flat_take W.short hk) hY'.len_eq
  | some c t _ => exact turnS c t ys acc n u h tk I oI ho hY' hD hp F₁ N₁ (flat_take W.short hk) hY'.len_eq
theorem grow_next {L I D : Addr} {oI : Obj} {m₀ m' : Str → Option Value} {news nx : List (Addr × Obj)} {s₁ : Shared} {h' : Heap} {tk : Nat} {ys' : List Value} {n' : Nat} {acc : List Str}
    (F : Fr h₀ L h' m') (N : News h₀ L h' nx) (e : nx = (I, oI) :: (D, listOf ys'.toArray n') :: news) (hY : StrsAre ys' acc) (hD : D ≠ I) (off : ∀ p ∈ news, p.1 ≠ I) (hm : SameBut2 x y₁ m₀ m') :
    GenPost h₀ L (fun m' nx => (∃ ys' n', nx = (D, listOf ys'.toArray n') :: news ∧ StrsAre ys' acc) ∧ SameBut2 x y₁ m₀ m') I oI s₁ Q .next { s₁ with heap := h', toks := tk } := by
  subst e
  exact GenEnd.intro F N (List.forall_mem_cons.mpr ⟨hD, off⟩) ⟨⟨ys', n', rfl, hY⟩, hm⟩
theorem iter_rebindO {l D₀ : Addr} {vs ys₀ : List Value} {os : List (Option Str)} {acc₀ : List Str} {n₀ : Nat} {m₀ : Str → Option Value} {news : List (Addr × Obj)} {f : Option Str → List Str} (W : RebindW f y₁)
    (hh : A.handled = none) (hl : h₀.IsList l vs.toArray) (hI : OptsAre vs os) (F : Fr h₀ env.locals s.heap m₀) (hm₀ : m₀ y₁ = some (.ref D₀)) (N : News h₀ env.locals s.heap ((D₀, listOf ys₀.toArray n₀) :: news)) (hY : StrsAre ys₀ acc₀) (hxy : y₁ ≠ x)
    (turnN : ∀ D ys acc n h tk I oI, StrsAre ys acc → D ≠ I → (∀ p ∈ news, p.1 ≠ I) → Fr h₀ env.locals h (fun y => if y = x then some .none else if y = y₁ then some (.ref D) else m₀ y) → News h₀ env.locals h ((I, oI) :: (D, listOf ys.toArray n) :: news) → acc.length + 1 ≤ acc₀.length + os.length → ys.length = acc.length →
      wpAny (model prog w) A (execs body env) (GenPost h₀ env.locals (fun m' nx => ∃ D' ys' n', nx = (D', listOf ys'.toArray n') :: news ∧ StrsAre ys' (acc ++ f none) ∧ m' y₁ = some (.ref D') ∧ SameBut2 x y₁ m₀ m') I oI { s with heap := h, toks := tk } Q) E { s with heap := h, toks := tk })
    (turnS : ∀ c t D ys acc n h tk I oI, some c ∈ os → StrsAre ys acc → D ≠ I → (∀ p ∈ news, p.1 ≠ I) → Fr h₀ env.locals h (fun y => if y = x then some (.str c t) else if y = y₁ then some (.ref D) else m₀ y) → News h₀ env.locals h ((I, oI) :: (D, listOf ys.toArray n) :: news) → acc.length + 1 ≤ acc₀.length + os.length → ys.length = acc.length →
      wpAny (model prog w) A (execs body env) (GenPost h₀ env.locals (fun m' nx => ∃ D' ys' n', nx = (D', listOf ys'.toArray n') :: news ∧ StrsAre ys' (acc ++ f (some c)) ∧ m' y₁ = some (.ref D') ∧ SameBut2 x y₁ m₀ m') I oI { s with heap := h, toks := tk } Q) E { s with heap := h, toks := tk })
    (done : ∀ u D ys n h tk acc, acc = acc₀ ++ os.flatMap f → acc.length ≤ acc₀.length + os.length → ys.length = acc.length → StrsAre ys acc → Fr h₀ env.locals h (fun y => if y = x then u else if y = y₁ then some (.ref D) else m₀ y) → News h₀ env.locals h ((D, listOf ys.toArray n) :: news) → Q .next { s with heap := h, toks := tk }) :
    wpAny (model prog w) A (pyIter (.ref l)) (fun it s₂ => LoopAtV prog w A h₀ env x body Q E it s₂) E s := by
  refine iter_rebind f hh hl hI F N hY hm₀ hxy ?_ (fun u D ys n h tk hY F N => done u D ys n h tk _ rfl (flat_all W.short) hY.len_eq hY F N)
  intro o v D ys acc n h tk I oI ho hv hY' hD hp F₁ N₁ hk
  cases hv with
  | none _ => exact turnN D ys acc n h tk I oI hY' hD hp F₁ N₁ (flat_take W.short hk) hY'.len_eq
  | some c t _ => exact turnS c t D ys acc n h tk I oI ho hY' hD hp F₁ N₁ (flat_take W.short hk) hY'.len_eq
theorem rebind_next {L I D : Addr} {oI : Obj} {m₀ m' : Str → Option Value} {news nx : List (Addr × Obj)} {s₁ : Shared} {h' : Heap} {tk : Nat} {ys' : List Value} {n' : Nat} {acc : List Str}
    (F : Fr h₀ L h' m') (hm : m' y₁ = some (.ref D)) (N : News h₀ L h' nx) (e : ∀ p ∈ ((I, oI) :: (D, listOf ys'.toArray n') :: news), p ∈ nx) (hY : StrsAre ys' acc) (hD : D ≠ I) (off : ∀ p ∈ news, p.1 ≠ I) (hs : SameBut2 x y₁ m₀ m') :
    GenPost h₀ L (fun m' nx => ∃ D' ys' n', nx = (D', listOf ys'.toArray n') :: news ∧ StrsAre ys' acc ∧ m' y₁ = some (.ref D') ∧ SameBut2 x y₁ m₀ m') I oI s₁ Q .next { s₁ with heap := h', toks := tk } :=
  GenEnd.intro F (fun p hp => N p (e p hp)) (List.forall_mem_cons.mpr ⟨hD, off⟩) ⟨D, ys', n', rfl, hY, hm, hs⟩
theorem grow_hit {L I D : Addr} {oI : Obj} {m₀ m' : Str → Option Value} {news : List (Addr × Obj)} {s₁ : Shared} {h' : Heap} {tk : Nat} {ys : List Value} {n' : Nat} {acc fo : List Str} {c : Str} {t : Tok}
    (F : Fr h₀ L h' m') (N : News h₀ L h' ((I, oI) :: (D, listOf (ys ++ [Value.str c t]).toArray n') :: news)) (hf : fo = [c]) (hY : StrsAre ys acc) (hD : D ≠ I) (off : ∀ p ∈ news, p.1 ≠ I) (hm : SameBut2 x y₁ m₀ m') :
    GenPost h₀ L (fun m' nx => (∃ ys' n', nx = (D, listOf ys'.toArray n') :: news ∧ StrsAre ys' (acc ++ fo)) ∧ SameBut2 x y₁ m₀ m') I oI s₁ Q .next { s₁ with heap := h', toks := tk } := by
  subst hf
  exact GenEnd.intro F N (List.forall_mem_cons.mpr ⟨hD, off⟩) ⟨⟨_, n', rfl, hY.append' (.cons _ _ .nil)⟩, hm⟩
theorem grow_miss {L I D : Addr} {oI : Obj} {m₀ m' : Str → Option Value} {news : List (Addr × Obj)} {s₁ : Shared} {h' : Heap} {tk : Nat} {ys : List Value} {n' : Nat} {acc fo : List Str}
    (F : Fr h₀ L h' m') (N : News h₀ L h' ((I, oI) :: (D, listOf ys.toArray n') :: news)) (hf : fo = []) (hY : StrsAre ys acc) (hD : D ≠ I) (off : ∀ p ∈ news, p.1 ≠ I) (hm : SameBut2 x y₁ m₀ m') :
    GenPost h₀ L (fun m' nx => (∃ ys' n', nx = (D, listOf ys'.toArray n') :: news ∧ StrsAre ys' (acc ++ fo)) ∧ SameBut2 x y₁ m₀ m') I oI s₁ Q .next { s₁ with heap := h', toks := tk } := by
  subst hf
  exact GenEnd.intro F N (List.forall_mem_cons.mpr ⟨hD, off⟩) ⟨⟨_, n', rfl, by simpa using hY⟩, hm⟩
end
end Mine
end
-- part NzIterR
noncomputable section
open PySem PySem.W PyProof.Rows PySem.Calls PyProof.V PySem.Spec
set_option maxRecDepth 100000
namespace Mine
/-- a text that a loop over a range grows: a turn's step, the name -/
structure TextW (g : Nat → Str → Str) (y : Str) : Prop where
  short : ∀ i acc, (g i acc).length ≤ acc.length + 1100
def textF (g : Nat → Str → Str) (acc₀ : Str) : Nat → Str
  | 0 => acc₀
  | i + 1 => g i (textF g acc₀ i)
theorem textF_len {g : Nat → Str → Str} (h : ∀ i acc, (g i acc).length ≤ acc.length + 1100) (acc₀ : Str) : ∀ i, (textF g acc₀ i).length ≤ acc₀.length + 1100 * i
  | 0 => by simp [textF]
  | i + 1 => by
    have h1 := textF_len h acc₀ i
    have h2 := h i (textF g acc₀ i)
    show (g i (textF g acc₀ i)).length ≤ _
    omega
section
variable {prog : Program} {w : World} {A : Around} {E : Value → Shared → Prop} {s : Shared} {env : Env} {h₀ : Heap} {x y₁ : Str} {body : List Stmt} {Q : Flow → Shared → Prop}
theorem iter_genR {r : Addr} {a₀ b₀ : Int} {t₀ u₀ v₀ : Tok} {n : Nat} {m₀ : Str → Option Value} {news : List (Addr × Obj)} (J : Nat → (Str → Option Value) → List (Addr × Obj) → Prop)
    (hh : A.handled = none) (hr : IsRange s.heap r a₀ b₀ 1 t₀ u₀ v₀) (hsmall : Builtin.Range.small a₀ b₀ 1 = true) (hn : Builtin.Range.rangeSize a₀ b₀ 1 = (n : Int)) (F : Fr h₀ env.locals s.heap m₀) (N : News h₀ env.locals s.heap news) (hj : J 0 m₀ news)
    (turn : ∀ i t m₁ news₁ h tk I oI, i < n → (∀ p ∈ news₁, p.1 ≠ I) → J i m₁ news₁ → Fr h₀ env.locals h (fun y => if y = x then some (.int (a₀ + (i : Nat)) t) else m₁ y) → News h₀ env.locals h ((I, oI) :: news₁) →
      wpAny (model prog w) A (execs body env) (GenPost h₀ env.locals (J (i + 1)) I oI { s with heap := h, toks := tk } Q) E { s with heap := h, toks := tk })
    (done : ∀ m₁ news₁ h tk, J n m₁ news₁ → Fr h₀ env.locals h m₁ → News h₀ env.locals h news₁ → Q .next { s with heap := h, toks := tk }) :
    wpAny (model prog w) A (pyIter (.ref r)) (fun it s₂ => LoopAtV prog w A h₀ env x body Q E it s₂) E s := by
  refine wpAny_pyIter_range hr hsmall ?_
  have W : Walks prog w A s.heap.objs.size [s.heap.objs.size] [s.heap.objs.size] n (fun i v => i < n ∧ ∃ t, v = .int (a₀ + i * 1) t)
      (fun i h => IsRangeIter h s.heap.objs.size (a₀ + (i : Nat) * 1) ((n : Int) - (i : Nat)) 1) := (Walks.range hh _ a₀ 1 n).bound
  have hnew := next_is_new F
  refine ⟨_, _, _, n, _, _, m₀, news, J, rfl, W, ?_, ?_, ?_, (by show IsRangeIter _ _ _ _ _; rw [hn]; simpa using Heap.get?_push_size _ rfl), F.push _, (fun p hp => ⟨Heap.get?_push_of_some _ (N p hp).1, (N p hp).2⟩), hj, ?_, ?_⟩
  · intro hm
    exact absurd F.ns.lt ((List.mem_singleton.mp hm) ▸ Nat.lt_irrefl _)
  · intro b hb
    rw [List.mem_singleton.mp hb]
    exact hnew
  · intro p hp hI
    exact absurd (Heap.lt_size (N p hp).1) ((List.mem_singleton.mp hI) ▸ Nat.lt_irrefl _)
  · rintro i v m₁ news₁ s₁ own ⟨hh', tk', rfl⟩ hin ⟨_, t, rfl⟩ hJ hoff hown hget hall hst F₁ N₁
    have hst' : hh'.get? s.heap.objs.size = some (itR (a₀ + ((i + 1 : Nat) : Int)) ((n : Int) - ((i + 1 : Nat) : Int))) := by
      have q : IsRangeIter hh' s.heap.objs.size (a₀ + ((i + 1 : Nat) : Int) * 1) ((n : Int) - ((i + 1 : Nat) : Int)) 1 := hst
      rw [Int.mul_one] at q
      exact q
    have hmem := hall s.heap.objs.size (List.mem_singleton.mpr rfl) hnew _ hst'
    have e1 : a₀ + (i : Int) * 1 = a₀ + (i : Int) := by rw [Int.mul_one]
    rw [e1] at F₁
    have offI : ∀ p ∈ news₁, p.1 ≠ s.heap.objs.size := fun p hp q => hoff p hp (List.mem_singleton.mpr q)
    have N₂ : News h₀ env.locals hh' ((s.heap.objs.size, itR (a₀ + ((i + 1 : Nat) : Int)) ((n : Int) - ((i + 1 : Nat) : Int))) :: news₁) := fun p hp => by
      rcases List.mem_cons.mp hp with rfl | hp
      · exact N₁ _ (List.mem_append_left _ hmem)
      · exact N₁ _ (List.mem_append_right _ hp)
    refine wpAny_mono (turn i t m₁ news₁ hh' tk' _ _ hin offI hJ F₁ N₂) (fun f s₂ p => ?_) fun _ _ e => e
    have fin : GenEnd h₀ env.locals (J (i + 1)) s.heap.objs.size (itR (a₀ + ((i + 1 : Nat) : Int)) ((n : Int) - ((i + 1 : Nat) : Int))) { s with heap := hh', toks := tk' } s₂ → LoopStepU h₀ env.locals [s.heap.objs.size] own (J (i + 1)) { s with heap := hh', toks := tk' } .next s₂ := by
      rintro ⟨h', tk, m', news', e, F', N', hn', hm⟩
      refine ⟨rfl, h', tk, m', news', e, F', fun p hp => ?_, fun p hp q => hn' p hp (List.mem_singleton.mp q), hm⟩
      rcases List.mem_append.mp hp with hp | hp
      · have e1 := List.mem_singleton.mp (hown p hp)
        have e2 := hget p hp
        rw [e1] at e2
        have e3 : p = (s.heap.objs.size, itR (a₀ + ((i + 1 : Nat) : Int)) ((n : Int) - ((i + 1 : Nat) : Int))) := Prod.ext e1 (Option.some.inj (e2.symm.trans hst'))
        rw [e3]; exact N' _ (.head _)
      · exact N' _ (.tail _ hp)
    cases f with
    | ret v => exact .ret p
    | brk => exact .brk p
    | next => exact .next (fin p)
    | cont => exact .cont (fin p)
  · rintro h' tk m' news' F' N' _ hJ
    exact done m' news' h' tk hJ F' N'

/-- a loop over range(n) that grows one text -/
theorem iter_textR {r : Addr} {b₀ : Int} {t₀ u₀ v₀ : Tok} {n : Nat} {m₀ : Str → Option Value} {news : List (Addr × Obj)} {g : Nat → Str → Str} {acc₀ : Str} {ta : Tok} (W : TextW g y₁)
    (hh : A.handled = none) (hr : IsRange s.heap r 0 b₀ 1 t₀ u₀ v₀) (hsmall : Builtin.Range.small 0 b₀ 1 = true) (hn : Builtin.Range.rangeSize 0 b₀ 1 = (n : Int)) (F : Fr h₀ env.locals s.heap m₀) (hm₀ : m₀ y₁ = some (.str acc₀ ta)) (N : News h₀ env.locals s.heap news)
    (turn : ∀ i t acc ta h tk I oI, i < n → acc.length ≤ acc₀.length + 1100 * i → (∀ p ∈ news, p.1 ≠ I) → Fr h₀ env.locals h (fun y => if y = x then some (.int (i : Nat) t) else if y = y₁ then some (.str acc ta) else m₀ y) → News h₀ env.locals h ((I, oI) :: news) →
      wpAny (model prog w) A (execs body env) (GenPost h₀ env.locals (fun m' nx => nx = news ∧ (∃ t', m' y₁ = some (.str (g i acc) t')) ∧ SameBut2 x y₁ m₀ m') I oI { s with heap := h, toks := tk } Q) E { s with heap := h, toks := tk })
    (done : ∀ u t acc h tk, acc = textF g acc₀ n → acc.length ≤ acc₀.length + 1100 * n → Fr h₀ env.locals h (fun y => if y = x then u else if y = y₁ then some (.str acc t) else m₀ y) → News h₀ env.locals h news → Q .next { s with heap := h, toks := tk }) :
    wpAny (model prog w) A (pyIter (.ref r)) (fun it s₂ => LoopAtV prog w A h₀ env x body Q E it s₂) E s := by
  refine iter_genR (fun i m nx => nx = news ∧ (∃ t', m y₁ = some (.str (textF g acc₀ i) t')) ∧ SameBut2 x y₁ m₀ m) hh hr hsmall hn F N ⟨rfl, ⟨ta, hm₀⟩, fun _ _ _ => rfl⟩ ?_ ?_
  · rintro i t m₁ nx h tk I oI hi hoff ⟨rfl, ⟨t', ht⟩, hm⟩ F₁ N₁
    rw [same_turn hm, ht, Int.zero_add] at F₁
    exact turn i t _ t' h tk I oI hi (textF_len W.short acc₀ i) hoff F₁ N₁
  · rintro m₁ nx h tk ⟨rfl, ⟨t', ht⟩, hm⟩ F₁ N₁
    rw [same_out hm, ht] at F₁
    exact done _ t' _ h tk rfl (textF_len W.short acc₀ n) F₁ N₁
theorem text_next {L I : Addr} {oI : Obj} {m₀ m' : Str → Option Value} {news : List (Addr × Obj)} {s₁ : Shared} {h' : Heap} {tk : Nat} {acc : Str} {t : Tok} {v : Str}
    (F : Fr h₀ L h' m') (hm : m' y₁ = some (.str v t)) (N : News h₀ L h' ((I, oI) :: news)) (off : ∀ p ∈ news, p.1 ≠ I) (hs : SameBut2 x y₁ m₀ m') (e : v = acc) :
    GenPost h₀ L (fun m' nx => nx = news ∧ (∃ t', m' y₁ = some (.str acc t')) ∧ SameBut2 x y₁ m₀ m') I oI s₁ Q .next { s₁ with heap := h', toks := tk } := by
  subst e
  exact GenEnd.intro F N off ⟨rfl, ⟨t, hm⟩, hs⟩
end
end Mine
end
-- part NzPure2
noncomputable section
open PySem PySem.W PyProof.Rows
set_option maxRecDepth 100000
namespace Mine
/-- what the law's own reading yields: a list of texts, or words -/
inductive Due where
  | list (ss : List Str)
  | msg (m : Str)
def saidStep (ch : List Str) (i : Nat) (acc : Str) : Str := acc ++ (if 0 < i then Str.ofString ", " else Str.ofString "") ++ Str.ofString "‘" ++ ch.getD i Str.empty ++ Str.ofString "’"
def said₀ (ch : List Str) : Str := if 1 < ch.length then Str.ofString "'arg' should be one of " else Str.ofString "'arg' should be "
def saidF (ch : List Str) : Str := textF (saidStep ch) (said₀ ch) ch.length
def dueTexts (ch : List Str) (os : List (Option Str)) (sev : Bool) : Due :=
  if sev = false ∧ os = ch.map some then .list [ch.getD 0 Str.empty]
  else if sev = false ∧ os.length ≠ 1 then .msg (Str.ofString "'arg' must be of length 1")
  else if os.flatMap (meansF ch) ≠ [] then .list (os.flatMap (meansF ch)) else .msg (saidF ch)
def dueF (ch : List Str) (sort : Int) (os : List (Option Str)) (sev : Bool) : Due :=
  if sort = 0 then .list [ch.getD 0 Str.empty] else if sort = 1 then .msg (Str.ofString "'arg' must be NULL or a character vector") else dueTexts ch os sev
theorem meansF_short (ch : List Str) (o : Option Str) : (meansF ch o).length ≤ 1 := by
  cases o with
  | none => simp [meansF]
  | some x =>
    show (meansS ch x).length ≤ 1
    unfold meansS
    split
    · simp
    · split
      · omega
      · simp
theorem means_len {us : List Value} {ch : List Str} {o : Option Str} (h : StrsAre us (meansF ch o)) : us.length ≤ 1 := by rw [h.len_eq]; exact meansF_short ch o
theorem said_pos {i : Nat} {ch : List Str} {acc : Str} (h : 0 < i) : acc ++ Str.ofString ", " ++ Str.ofString "‘" ++ ch.getD ((i : Int).toNat) Str.empty ++ Str.ofString "’" = saidStep ch i acc := by
  unfold saidStep; rw [if_pos h, Int.toNat_natCast]
theorem said_zero {i : Nat} {ch : List Str} {acc : Str} (h : ¬ 0 < i) : acc ++ Str.ofString "" ++ Str.ofString "‘" ++ ch.getD ((i : Int).toNat) Str.empty ++ Str.ofString "’" = saidStep ch i acc := by
  unfold saidStep; rw [if_neg h, Int.toNat_natCast]
structure TextsShort (os : List (Option Str)) : Prop where
  of : ∀ x, some x ∈ os → x.length ≤ 1000
theorem short_of {os : List (Option Str)} {x : Str} (h : TextsShort os) (hm : some x ∈ os) : x.length ≤ 1000 := h.of x hm
theorem getD_short {ch : List Str} (h : ∀ c ∈ ch, c.length ≤ 1000) (i : Nat) : (ch.getD i Str.empty).length ≤ 1000 := by
  rw [List.getD_eq_getElem?_getD]
  cases q : ch[i]? with
  | none => simp [Str.length, Str.empty]
  | some c => exact h c (List.mem_of_getElem? q)
theorem saidStep_short {ch : List Str} (h : ∀ c ∈ ch, c.length ≤ 1000) (i : Nat) (acc : Str) : (saidStep ch i acc).length ≤ acc.length + 1100 := by
  have h1 := getD_short h i
  have e1 : (Str.ofString ", ").length = 2 := by decide
  have e2 : (Str.ofString "").length = 0 := by decide
  have e3 : (Str.ofString "‘").length = 1 := by decide
  have e4 : (Str.ofString "’").length = 1 := by decide
  unfold saidStep
  split <;> simp only [Str.length_append] <;> omega
section
variable {prog : Program} {w : World} {A : Around} {E : Value → Shared → Prop} {s : Shared} {h₀ g : Heap} {L : Addr} {m : Str → Option Value} {news : List (Addr × Obj)}
theorem add_strs {l b : Addr} {us ws : List Value} {Q : Value → Shared → Prop} (F : Fr g L s.heap m) (N : News g L s.heap news) (hl : s.heap.IsList l us.toArray) (hb : s.heap.IsList b ws.toArray)
    (hsz : us.length + ws.length ≤ 4000) (h : ∀ D h', Fr g L h' m → News g L h' ((D, listOf (us ++ ws).toArray 0) :: news) → (∀ p ∈ news, p.1 < D) → Q (.ref D) { s with heap := h' }) :
    wpAny (model prog w) A (binaryOp .Add (.ref l) (.ref b)) Q E s :=
  add_arrays F N hl hb (fun h' F' N' => h _ h' F' (by simpa using N') fun p hp => Heap.lt_size (N p hp).1) (by simp only [List.size_toArray]; rw [sizeLine_eq]; omega)
theorem news_add {h h' : Heap} {l : Addr} {o : Obj} (F : Fr g L h m) (N : News g L h' news) (e : h'.get? l = some o) (hn : h.get? l = none) : News g L h' ((l, o) :: news) := fun p hp => by
  rcases List.mem_cons.mp hp with rfl | hp
  · refine ⟨e, fun q => ?_, ?_⟩
    · obtain ⟨oL, _, _, hL, _⟩ := F.ns
      have q' : l = L := q
      rw [q', hL] at hn; cases hn
    · show g.get? l = none
      cases q : g.get? l with
      | none => rfl
      | some ob => rw [F.keep _ _ q] at hn; cases hn
  · exact N p hp
end
end Mine
end
-- part NzRules2
noncomputable section
open PySem PySem.W PyProof.Rows PySem.Calls PyProof.V PySem.Spec
set_option maxRecDepth 100000
namespace Mine
structure ShortAll (ch : List Str) : Prop where
  of : ∀ c ∈ ch, c.length ≤ 1000
section
variable {prog : Program} {w : World} {A : Around} {E : Value → Shared → Prop} {s : Shared} {env : Env} {h₀ : Heap} {x y₁ : Str} {body : List Stmt}
theorem iter_textN {Q : Flow → Shared → Prop} {r : Addr} {t₀ u₀ v₀ : Tok} {n : Nat} {m₀ : Str → Option Value} {news : List (Addr × Obj)} {g : Nat → Str → Str} {acc₀ : Str} {ta : Tok} (W : TextW g y₁)
    (hh : A.handled = none) (hr : IsRange s.heap r 0 ((n : Nat) : Int) 1 t₀ u₀ v₀) (hk : n ≤ 4000) (F : Fr h₀ env.locals s.heap m₀) (hm₀ : m₀ y₁ = some (.str acc₀ ta)) (N : News h₀ env.locals s.heap news)
    (turn : ∀ i t acc ta h tk I oI, i < n → acc.length ≤ acc₀.length + 1100 * i → (∀ p ∈ news, p.1 ≠ I) → Fr h₀ env.locals h (fun y => if y = x then some (.int (i : Nat) t) else if y = y₁ then some (.str acc ta) else m₀ y) → News h₀ env.locals h ((I, oI) :: news) →
      wpAny (model prog w) A (execs body env) (GenPost h₀ env.locals (fun m' nx => nx = news ∧ (∃ t', m' y₁ = some (.str (g i acc) t')) ∧ SameBut2 x y₁ m₀ m') I oI { s with heap := h, toks := tk } Q) E { s with heap := h, toks := tk })
    (done : ∀ u t acc h tk, acc = textF g acc₀ n → acc.length ≤ acc₀.length + 1100 * n → Fr h₀ env.locals h (fun y => if y = x then u else if y = y₁ then some (.str acc t) else m₀ y) → News h₀ env.locals h news → Q .next { s with heap := h, toks := tk }) :
    wpAny (model prog w) A (pyIter (.ref r)) (fun it s₂ => LoopAtV prog w A h₀ env x body Q E it s₂) E s :=
  iter_textR W hh hr (small_one (by decide) (by decide) (by omega) (by omega)) (by rw [rangeSize_nat]; simp) F hm₀ N turn done
variable {Q : Value → Shared → Prop}
theorem add_strL {a b : Str} {t u : Tok} (hsz : a.length + b.length ≤ 1000000) (h : ∀ t' tk, (a ++ b).length = a.length + b.length → Q (.str (a ++ b) t') { s with toks := tk }) : wpAny (model prog w) A (binaryOp .Add (.str a t) (.str b u)) Q E s :=
  add_str (fun t' tk => h t' tk (Str.length_append _ _)) (by rw [sizeLine_eq]; omega)
theorem item_strsB {value slice : Expr} {l : Addr} {vs : List Value} {ch : List Str} {k : Int} {u : Tok} (hl : s.heap.IsList l vs.toArray) (hi : StrsAre vs ch) (hB : ShortAll ch) (h0 : 0 ≤ k) (h1 : k < ch.length) (h2 : ch.length ≤ 4000)
    (h : ∀ t', (ch.getD k.toNat Str.empty).length ≤ 1000 → Q (.str (ch.getD k.toNat Str.empty) t') s)
    (hs : subscripted slice false (.ref l) (.int k u) = operate [.ref l, .int k u] (getItem (.ref l) (.int k u)) := by with_unfolding_all rfl) :
    wpAny (model prog w) A (subscriptTail value slice (.ref l) (.int k u)) Q E s :=
  KTb.item_list hl hi h0 h1 (by omega) (fun t' _ => h t' (getD_short hB.of _)) hs
theorem len_opts {l : Addr} {vs : List Value} {os : List (Option Str)} (hl : s.heap.IsList l vs.toArray) (hi : OptsAre vs os) (h2 : os.length ≤ 4000)
    (h : Q (.int os.length (s.toks + 1)) { s with toks := s.toks + 1 + 1 }) : wpAny (model prog w) A (call (.builtin "len") [.ref l]) Q E s := by
  have e : vs.toArray.size = os.length := by rw [List.size_toArray]; exact hi.length
  refine len_list hl (by rw [e]; omega) ?_
  rw [e]
  exact h
end
end Mine
end
-- part NzPure3
noncomputable section
open PySem PySem.W PyProof.Rows
set_option maxRecDepth 100000
namespace Mine
section
variable {ch : List Str} {sort : Int} {os : List (Option Str)} {sev : Bool} {acc : List Str} {txt : Str}
theorem due_0 (h : sort = 0) : dueF ch sort os sev = .list [ch.getD (Int.toNat 0) Str.empty] := by unfold dueF; rw [if_pos h]; rfl
theorem due_1 (h0 : sort ≠ 0) (h : sort = 1) : dueF ch sort os sev = .msg (Str.ofString "'arg' must be NULL or a character vector") := by unfold dueF; rw [if_neg h0, if_pos h]
theorem due_tx (h0 : sort ≠ 0) (h : sort ≠ 1) : dueF ch sort os sev = dueTexts ch os sev := by unfold dueF; rw [if_neg h0, if_neg h]
theorem due_s (h0 : sort ≠ 0) (h : sort ≠ 1) (hs : sev = false) (he : os = ch.map some) : dueF ch sort os sev = .list [ch.getD (Int.toNat 0) Str.empty] := by
  rw [due_tx h0 h]; unfold dueTexts; rw [if_pos ⟨hs, he⟩]; rfl
theorem due_l (h0 : sort ≠ 0) (h : sort ≠ 1) (hs : sev = false) (he : ¬ os = ch.map some) (hl : (os.length : Int) ≠ 1) : dueF ch sort os sev = .msg (Str.ofString "'arg' must be of length 1") := by
  rw [due_tx h0 h]; unfold dueTexts; rw [if_neg (fun q => he q.2), if_pos ⟨hs, by omega⟩]
theorem due_t (h0 : sort ≠ 0) (h : sort ≠ 1) (hs : sev = true ∨ (sev = false ∧ ¬ os = ch.map some ∧ (os.length : Int) = 1)) :
    dueF ch sort os sev = if os.flatMap (meansF ch) ≠ [] then .list (os.flatMap (meansF ch)) else .msg (saidF ch) := by
  rw [due_tx h0 h]; unfold dueTexts
  rcases hs with rfl | ⟨rfl, he, hl⟩
  · rw [if_neg (fun q => Bool.noConfusion q.1), if_neg (fun q => Bool.noConfusion q.1)]
  · rw [if_neg (fun q => he q.2), if_neg (fun q => q.2 (by omega))]
theorem due_tf (h0 : sort ≠ 0) (h : sort ≠ 1) (hs : sev = true ∨ (sev = false ∧ ¬ os = ch.map some ∧ (os.length : Int) = 1)) (ha : acc = [] ++ os.flatMap (meansF ch)) (hf : decide (acc.map some = []) = false) :
    dueF ch sort os sev = .list acc := by
  rw [List.nil_append] at ha
  rw [due_t h0 h hs, ← ha, if_pos]
  rintro rfl
  exact Bool.noConfusion hf
theorem due_tm (h0 : sort ≠ 0) (h : sort ≠ 1) (hs : sev = true ∨ (sev = false ∧ ¬ os = ch.map some ∧ (os.length : Int) = 1)) (ha : acc = [] ++ os.flatMap (meansF ch)) (hf : decide (acc.map some = []) = true) (hx : txt = saidF ch) :
    dueF ch sort os sev = .msg txt := by
  rw [List.nil_append] at ha
  have e : acc = [] := by simpa using hf
  rw [due_t h0 h hs, ← ha, if_neg (fun q => q e), hx]
theorem said_1 (hl : 1 < (ch.length : Int)) (hb : txt = textF (saidStep ch) (Str.ofString "'arg' should be one of ") ch.length) : txt = saidF ch := by
  unfold saidF said₀; rw [if_pos (by omega)]; exact hb
theorem said_2 (hl : ¬ 1 < (ch.length : Int)) (hb : txt = textF (saidStep ch) (Str.ofString "'arg' should be ") ch.length) : txt = saidF ch := by
  unfold saidF said₀; rw [if_neg (by omega)]; exact hb
variable {s : Shared} {Q : Value → Shared → Prop} {h' g : Heap} {tk' n' : Nat} {L' l' : Addr} {m' : Str → Option Value} {us' : List Value} {news : List (Addr × Obj)} {D : Due}
theorem due_endL {ms : List Str} (retL : ∀ (l' : Addr) (us' : List Value) (n' : Nat) (ss : List Str) (h' : Heap) (tk' : Nat), D = .list ss → Kept s.heap h' → h'.get? l' = some (listOf us'.toArray n') → s.heap.get? l' = none → StrsAre us' ss → Q (.ref l') { s with heap := h', toks := tk' })
    (kG : Kept s.heap g) (F : Fr g L' h' m') (N : News g L' h' news) (hm : (l', listOf us'.toArray n') ∈ news) (hs : StrsAre us' ms) (e : D = .list ms) : Q (.ref l') { s with heap := h', toks := tk' } := by
  have h1 := N _ hm
  refine retL l' us' n' _ h' tk' e (kept_trans kG F.keep) h1.1 ?_ hs
  cases q : s.heap.get? l' with
  | none => rfl
  | some ob => have h2 := kG _ _ q; rw [h1.2.2] at h2; cases h2
theorem due_endM {msg : Str} {t : Tok} (retM : ∀ (msg : Str) (t : Tok) (h' : Heap) (tk' : Nat), D = .msg msg → Kept s.heap h' → Q (.str msg t) { s with heap := h', toks := tk' })
    (kG : Kept s.heap g) (F : Fr g L' h' m') (e : D = .msg msg) : Q (.str msg t) { s with heap := h', toks := tk' } := retM msg t h' tk' e (kept_trans kG F.keep)
end
end Mine
end
-- part NzPick
noncomputable section
open PySem PySem.W PyProof.Rows
set_option maxRecDepth 100000
namespace Mine
theorem begunF_eq (ch : List Str) (x : Str) : begunF ch x = (rangeKs 0 ch.length).filter (fun k => Txt.startswith (ch.getD k.toNat Str.empty) x) := by
  unfold begunF
  have e : ((ch.length : Int) - 0).toNat = ch.length := by omega
  rw [e]
  have go : ∀ (ks acc : List Int), List.foldl (fun l' (k' : Int) => if Txt.startswith (ch.getD k'.toNat Str.empty) x = true then l' ++ [k'] else if Txt.startswith (ch.getD k'.toNat Str.empty) x = false then l' else l') acc ks
      = acc ++ ks.filter (fun k => Txt.startswith (ch.getD k.toNat Str.empty) x) := by
    intro ks
    induction ks with
    | nil => intro acc; simp
    | cons k r ih =>
      intro acc
      rw [List.foldl_cons, ih, List.filter_cons]
      by_cases q : Txt.startswith (ch.getD k.toNat Str.empty) x = true
      · rw [if_pos q, if_pos q]; simp
      · rw [if_neg q, if_neg q]; simp
  rw [go, List.nil_append]
theorem begunF_mem {ch : List Str} {x : Str} {k : Int} (h : k ∈ begunF ch x) : 0 ≤ k ∧ k < (ch.length : Int) := by
  rw [begunF_eq] at h
  have h1 := (List.mem_filter.mp h).1
  have := mem_rangeKs h1
  omega
theorem place_bounds (ch : List Str) (x : Str) : -1 ≤ place ch x ∧ place ch x < (ch.length : Int) := by
  unfold place
  split
  · omega
  · split
    · rename_i h
      have : ch.findIdx (· == x) < ch.length := List.findIdx_lt_length.mpr (by simpa using h)
      omega
    · split
      · rename_i h
        have hl : 0 < (begunF ch x).length := by omega
        have e : (begunF ch x).getD (Int.toNat 0) 0 ∈ begunF ch x := by
          rw [show Int.toNat 0 = 0 from rfl, List.getD_eq_getElem?_getD, List.getElem?_eq_getElem hl]
          exact List.getElem_mem hl
        have := begunF_mem e
        omega
      · omega
/-- what a turn of chosen's loop appends -/
def pickF (ch : List Str) : Option Str → List Str
  | none => []
  | some x => if 0 ≤ place ch x then [ch.getD (place ch x).toNat Str.empty] else []
theorem pick_hit {ch : List Str} {x : Str} (h : 0 ≤ place ch x) : pickF ch (some x) = [ch.getD (place ch x).toNat Str.empty] := if_pos h
theorem pick_miss {ch : List Str} {x : Str} (h : ¬ 0 ≤ place ch x) : pickF ch (some x) = [] := if_neg h
theorem pick_short (ch : List Str) (o : Option Str) : (pickF ch o).length ≤ 1 := by
  cases o with
  | none => simp [pickF]
  | some x => simp only [pickF]; split <;> simp
end Mine
end
-- part NzQuote
noncomputable section
open PySem PySem.W PyProof.Rows PySem.Calls PySem.Spec
set_option maxRecDepth 100000
namespace Mine
def quoteF (c : Str) : Str := Str.ofString "‘" ++ c ++ Str.ofString "’"
def joinQ (ch : List Str) : Str := Txt.join (Str.ofString ", ") (ch.map quoteF)
theorem quote_len (c : Str) : (quoteF c).length = c.length + 2 := by
  have e3 : (Str.ofString "‘").length = 1 := by decide
  have e4 : (Str.ofString "’").length = 1 := by decide
  unfold quoteF
  simp only [Str.length_append]; omega
theorem quote_sum {ch : List Str} (h : ∀ c ∈ ch, c.length ≤ 1000) : ((ch.map quoteF).map (·.length)).sum ≤ 1002 * ch.length :=
  sumLen_le_of_bound quoteF 1002 ch fun c hc => by have := h c hc; rw [quote_len]; omega
theorem joinQ_len {ch : List Str} (h : ShortAll ch) (hl : ch.length ≤ 40) : (joinQ ch).length ≤ 50000 := by
  have h1 := StrLaws.join_length_le (Str.ofString ", ") (ch.map quoteF)
  have h2 := quote_sum h.of
  have e1 : (Str.ofString ", ").length = 2 := by decide
  rw [e1, List.length_map] at h1
  have h3 : (joinQ ch).length ≤ ((ch.map quoteF).map (·.length)).sum + ch.length * 2 := by
    have e : joinQ ch = Str.join (Str.ofString ", ") (ch.map quoteF) := PySem.StrLaws.glued_eq_join _ _
    rw [e]; exact h1
  omega
def QuoteEnd (ch : List Str) (Q : Value → Shared → Prop) (xv : Value) (s₁ : Shared) : Prop :=
  ∃ ax vs h₀ L m news, xv = .ref ax ∧ s₁.heap.IsList ax (List.toArray vs) ∧ StrsAre vs ch ∧ Fr h₀ L s₁.heap m ∧ News h₀ L s₁.heap news ∧
    ∀ D (ys : List Value) h' tk, Fr h₀ L h' m → News h₀ L h' news → h'.IsList D ys.toArray → StrsAre ys (ch.map quoteF) → Q (.ref D) { s₁ with heap := h', toks := tk }
theorem QuoteEnd.intro {ch : List Str} {Q : Value → Shared → Prop} {s₁ : Shared} {ax L : Addr} {vs : List Value} {h₀ : Heap} {m : Str → Option Value} {news : List (Addr × Obj)}
    (hl : s₁.heap.IsList ax vs.toArray) (hi : StrsAre vs ch) (F : Fr h₀ L s₁.heap m) (N : News h₀ L s₁.heap news)
    (h : ∀ D (ys : List Value) h' tk, Fr h₀ L h' m → News h₀ L h' news → h'.IsList D ys.toArray → StrsAre ys (ch.map quoteF) → Q (.ref D) { s₁ with heap := h', toks := tk }) : QuoteEnd ch Q (.ref ax) s₁ :=
  ⟨ax, vs, h₀, L, m, news, rfl, hl, hi, F, N, h⟩
section
variable {prog : Program} {w : World} {A : Around} {E : Value → Shared → Prop} {s : Shared} {env : Env}
theorem quote_elt {x c : Str} {t : Tok} {cenv : Env} {m₂ : Str → Option Value} {p1 p2 p3 p4 p5 : Pos} {k1 k2 : Nat} (hn : s.heap.Ns cenv.locals m₂) (hm : m₂ x = some (.str c t)) (hc : c.length ≤ 1000)
    (hk : cenv.scope.kind = .function) (hl : cenv.scope.names.lookup x = some .local) (hd : (x == ("__debug__" : Str)) = false) :
    wpAny (model prog w) A (eval (.BinOp (.BinOp (.Constant (.str (Str.ofString "‘")) k1 p4) .Add (.Name x p1) p2) .Add (.Constant (.str (Str.ofString "’")) k2 p5) p3) cenv)
      (fun y s₃ => Carried y (.str (quoteF c)) ∧ Keeps s s₃) E s := by
  have e3 : (Str.ofString "‘").length = 1 := by decide
  have e4 : (Str.ofString "’").length = 1 := by decide
  refine wpAny_BinOp (wpAny_BinOp (Constant_str (ldG hn hm ?_ hk hl hd)))
  refine add_strL (by omega) fun t' tk hl1 => ?_
  refine Constant_str (add_strL (by omega) fun t'' tk' hl2 => ?_)
  exact ⟨.str _ _, _, _, rfl, fun _ _ e => e⟩
theorem comp_quote {iter : Expr} {x : Str} {px p1 p2 p3 p4 p5 : Pos} {k1 k2 : Nat} {scope : Scope} {cl : List (Str × Addr)} {pos : Pos} {Q : Value → Shared → Prop} {ch : List Str} (hS : ShortAll ch) (hsz : ch.length ≤ 40)
    (hh : A.handled = none) (hclos : closureFor scope env = pure cl) (hcell : ∀ y ∈ scope.names, y.2 ≠ .cell) (hkind : scope.kind = .function)
    (hnames : ∀ y ∈ scope.names, y.2 = .local → scope.names.lookup y.1 = some .local) (hx : scope.names.lookup x = some .local) (hd : (x == ("__debug__" : Str)) = false)
    (h : wpAny (model prog w) A (eval iter env) (QuoteEnd ch Q) E s)
    (hs : ∀ x, foldedSetIterable iter env x = pure x) :
    wpAny (model prog w) A (eval (.ListComp (.BinOp (.BinOp (.Constant (.str (Str.ofString "‘")) k1 p4) .Add (.Name x p1) p2) .Add (.Constant (.str (Str.ofString "’")) k2 p5) p3) [⟨.Name x px, iter, [], 0⟩] scope pos) env) Q E s := by
  refine wpAny_ListComp_free (ItemKind.lift ItemKind.str (fun _ => true)) (fun v y => ∃ a, ItemKind.str.is a v ∧ Carried y (.str (quoteF a))) hclos hcell hkind hnames hx (wpAny_mono h (fun xv s₁ h₁ => ?_) fun _ _ e => e) hs
  obtain ⟨ax, vs, h₀, L, m, news, rfl, hl, hi, F, N, hQ⟩ := h₁
  have hlt : ax < s₁.heap.objs.size := by obtain ⟨_, e, _⟩ := hl; exact Heap.lt_size e
  have up : ∀ (s₃ : Shared), (∀ b o, b ∉ [s₁.heap.objs.size] → (s₁.heap.push { cls := .type "list_iterator", data := .fields #[.ref ax, .int 0 0] }).get? b = some o → s₃.heap.get? b = some o) → ∀ b o, s₁.heap.get? b = some o → s₃.heap.get? b = some o :=
    fun s₃ hk b o e => hk b o (fun hm => by rcases List.mem_cons.mp hm with rfl | hm; exact Nat.lt_irrefl _ (Heap.lt_size e); cases hm) (Heap.get?_push_of_some _ e)
  have hlen := hi.len_eq
  refine wpAny_pyIter_list hl ⟨s₁.heap.objs.size, [s₁.heap.objs.size, ax], [s₁.heap.objs.size], vs.toArray.size, _, _, rfl, Walks.list hh _ _ (Nat.ne_of_lt hlt) vs.toArray, (by rw [List.size_toArray, sizeLine_eq]; omega), ⟨⟨_, Heap.get?_push_size _ rfl, rfl, rfl⟩, hl.push _⟩, ?_, ⟨?_, ?_⟩, ?_⟩
  · intro b hb
    show b < (s₁.heap.push _).objs.size
    rw [Heap.size_push]
    rcases List.mem_cons.mp hb with rfl | hb
    · exact Nat.lt_succ_self _
    · rcases List.mem_cons.mp hb with rfl | hb
      · exact Nat.lt_succ_of_lt hlt
      · cases hb
  · intro C i v s₃ m₃ E' _ hP hn hm hk _
    obtain ⟨a, hmem, ha⟩ := hi.areOf.memD v (by simpa using Array.mem_of_getElem? hP)
    rw [ItemKind.lift_is ha]
    exact wpAny_pure ⟨rfl, _, _, rfl, fun _ _ e => e⟩
  · intro C i v s₃ m₃ E' _ hP hp hn hm hk _
    obtain ⟨a, hmem, ha⟩ := hi.areOf.memD v (by simpa using Array.mem_of_getElem? hP)
    obtain ⟨t, rfl⟩ := ItemKind.str_is ha
    exact wpAny_mono (quote_elt hn hm (hS.of a hmem) hkind (lookup_relabel_local hx) hd) (fun y s₄ h₄ => ⟨⟨a, ha, h₄.1⟩, h₄.2⟩) fun _ _ e => e
  · intro D h' tk ys vs' hnew hlD _ hlen hP hF hk
    have e : vs' = vs := by simpa using list_of_places hlen hP
    subst e
    have keep : ∀ b o, s₁.heap.get? b = some o → h'.get? b = some o := up { s₁ with heap := h' } hk
    refine hQ D ys.toList h' tk (F.keeps keep) (N.grown keep) (by rw [Array.toArray_toList]; exact hlD) ?_
    have hc := hi.areOf.paired (fun _ => true) (fun a => PyData.str (quoteF a)) _ hF
    rw [List.filter_eq_self.mpr (fun _ _ => rfl)] at hc
    refine StrsAre.of_carried ?_
    rw [List.map_map]; exact hc
theorem join_quote {D : Addr} {ys : List Value} {ch : List Str} {t : Tok} {Q : Value → Shared → Prop} (hl : s.heap.IsList D ys.toArray) (hi : StrsAre ys (ch.map quoteF)) (hS : ShortAll ch) (h2 : ch.length ≤ 40)
    (h : ∀ t' k, (joinQ ch).length ≤ 50000 → Q (.str (joinQ ch) t') { s with toks := k }) : wpAny (model prog w) A (call (.builtin "str.join") [.str (Str.ofString ", ") t, .ref D]) Q E s := by
  have h1 := quote_sum hS.of
  refine join_listW hl (by simpa using hi) (by decide +kernel) (by rw [List.length_map]; omega) fun t' k => h t' k (joinQ_len hS h2)
end
end Mine
end
-- part NzLaw
noncomputable section
open PySem PySem.W PyProof.Rows
set_option maxRecDepth 100000
namespace Mine
theorem starts_slice (c x : Str) : (Txt.slice c none (some (x.length : Int)) == x) = Txt.startswith c x := by
  by_cases h : x.length ≤ c.length
  · have h0 : c.cps.toList.length = c.length := by simp [Str.length]
    have h1 := slice_closes_to (x := c) (j := (x.length : Int)) ⟨by omega, by omega⟩
    have h2 : Txt.slice c none (some (x.length : Int)) = ⟨(c.cps.toList.take x.length).toArray⟩ := by
      have := eq_of_beq h1
      rw [this]
      simp
    have h3 : Txt.startswith c x = (c.cps.toList.take x.length == x.cps.toList) := by
      unfold Txt.startswith
      rw [PySem.StrLaws.subAt_eq]
      simp [h]
    rw [h2, h3]
    rw [Bool.eq_iff_iff, beq_iff_eq, beq_iff_eq]
    constructor
    · intro e
      have := congrArg (fun y : Str => y.cps.toList) e
      simpa using this
    · intro e; rw [e]
  · have h1 : Txt.startswith c x = false := by
      unfold Txt.startswith
      simp; intro q; omega
    rw [h1]
    refine beq_false_of_ne fun e => ?_
    have := Txt.slice_le c none (some (x.length : Int))
    rw [e] at this
    exact h this
theorem grow_filter (x : Str) (h1 : (x != Str.ofString "") = true) : ∀ ch : List Str, (ch.map some).flatMap (growM x) = ch.filter (fun c => Txt.startswith c x)
  | [] => rfl
  | c :: r => by
    rw [List.map_cons, List.flatMap_cons, grow_filter x h1 r, List.filter_cons]
    by_cases q : Txt.startswith c x = true
    · rw [if_pos q, growM_hit h1 (by rw [starts_slice]; exact q)]; rfl
    · rw [if_neg q, growM_miss2 (by rw [starts_slice]; simpa using q)]; rfl
theorem grow_empty {x : Str} (h1 : (x != Str.ofString "") = false) : ∀ ch : List Str, (ch.map some).flatMap (growM x) = []
  | [] => rfl
  | c :: r => by rw [List.map_cons, List.flatMap_cons, grow_empty h1 r, growM_miss1 h1]; rfl
theorem range_get (ch : List Str) : (rangeKs 0 ch.length).map (fun k => ch.getD k.toNat Str.empty) = ch := by
  unfold rangeKs
  rw [List.map_map]
  refine List.ext_getElem (by simp) fun i h1 h2 => ?_
  simp [List.getD_eq_getElem?_getD, h2]
theorem filter_begun (ch : List Str) (x : Str) : ch.filter (fun c => Txt.startswith c x) = (begunF ch x).map (fun k => ch.getD k.toNat Str.empty) := by
  rw [begunF_eq]
  conv => lhs; rw [← range_get ch]
  rw [List.filter_map]
  rfl
theorem pick_means (ch : List Str) (o : Option Str) : pickF ch o = meansF ch o := by
  cases o with
  | none => rfl
  | some x =>
    show (if 0 ≤ place ch x then [ch.getD (place ch x).toNat Str.empty] else []) = meansS ch x
    unfold meansS
    by_cases h0 : (x == Str.ofString "") = true
    · have hn : (x != Str.ofString "") = false := by simp [bne, h0]
      have e : place ch x = -1 := by unfold place; rw [if_pos h0]
      rw [e, if_neg (by omega), if_neg (fun q => Bool.noConfusion (q.1.symm.trans hn)), grow_empty hn, if_neg (by simp)]
    · have hf : (x == Str.ofString "") = false := by simpa using h0
      have hn : (x != Str.ofString "") = true := by simp only [bne, hf]; rfl
      by_cases h1 : ch.any (· == x) = true
      · have e : place ch x = (ch.findIdx (· == x) : Nat) := (place_e2 hf h1).symm
        have hlt : ch.findIdx (· == x) < ch.length := List.findIdx_lt_length.mpr (by simpa using h1)
        have hx : ch[ch.findIdx (· == x)] = x := eq_of_beq (List.findIdx_getElem (w := hlt))
        rw [e, if_pos (by omega), if_pos ⟨hn, h1⟩, Int.toNat_natCast, List.getD_eq_getElem?_getD, List.getElem?_eq_getElem hlt, hx]
        rfl
      · have h2 : ch.any (· == x) = false := Bool.eq_false_iff.mpr h1
        rw [if_neg (c := (x != Str.ofString "") = true ∧ ch.any (· == x) = true) (fun q => h1 q.2), grow_filter x hn, filter_begun, List.length_map]
        by_cases h3 : (begunF ch x).length = 1
        · obtain ⟨k, hk⟩ := List.length_eq_one_iff.mp h3
          have hm : k ∈ begunF ch x := by rw [hk]; exact .head _
          have e : place ch x = k := by
            rw [← place_e3 hf h2 (by omega), hk]; rfl
          have := begunF_mem hm
          rw [if_pos h3, e, if_pos this.1, hk]
          rfl
        · have e : place ch x = -1 := (place_e4 hf h2 (by omega)).symm
          rw [if_neg h3, e, if_neg (by omega)]
theorem pick_flat (ch : List Str) (os : List (Option Str)) : os.flatMap (pickF ch) = os.flatMap (meansF ch) := by
  have : pickF ch = meansF ch := funext fun o => pick_means ch o
  rw [this]
theorem glued_snoc (sep q : Str) : ∀ {xs : List Str}, xs ≠ [] → Txt.join sep (xs ++ [q]) = Txt.join sep xs ++ sep ++ q
  | [], h => absurd rfl h
  | x :: r, _ => by
    show Builtin.Str.glued sep (x :: r ++ [q]) = Builtin.Str.glued sep (x :: r) ++ sep ++ q
    unfold Builtin.Str.glued
    simp only [List.cons_append, List.drop_succ_cons, List.drop_zero, List.headD_cons, List.foldl_append, List.foldl_cons, List.foldl_nil]
    rfl
theorem str_assoc (a b c : Str) : a ++ b ++ c = a ++ (b ++ c) := by
  show Str.mk (a.cps ++ b.cps ++ c.cps) = Str.mk (a.cps ++ (b.cps ++ c.cps))
  rw [Array.append_assoc]
theorem str_empty_right (a : Str) : a ++ Str.ofString "" = a := by
  show Str.mk (a.cps ++ (Str.ofString "").cps) = a
  have : (Str.ofString "").cps = #[] := by decide
  rw [this, Array.append_empty]
theorem said_take (ch : List Str) (a : Str) : ∀ n, n ≤ ch.length → textF (saidStep ch) a n = a ++ joinQ (ch.take n)
  | 0, _ => by
    show a = a ++ joinQ []
    have : joinQ [] = Str.ofString "" := by decide
    rw [this, str_empty_right]
  | n + 1, h => by
    have ih := said_take ch a n (by omega)
    have hn : n < ch.length := by omega
    have ht : ch.take (n + 1) = ch.take n ++ [ch[n]] := by rw [List.take_add_one, List.getElem?_eq_getElem hn]; rfl
    have hg : ch.getD n Str.empty = ch[n] := by rw [List.getD_eq_getElem?_getD, List.getElem?_eq_getElem hn]; rfl
    show saidStep ch n (textF (saidStep ch) a n) = _
    rw [ih, ht]
    unfold saidStep
    rw [hg]
    by_cases h0 : 0 < n
    · rw [if_pos h0]
      have hne : (ch.take n).map quoteF ≠ [] := fun q => by
        have := congrArg List.length q
        rw [List.length_map, List.length_take, List.length_nil] at this
        omega
      have : joinQ (ch.take n ++ [ch[n]]) = joinQ (ch.take n) ++ Str.ofString ", " ++ quoteF ch[n] := by
        unfold joinQ
        rw [List.map_append, List.map_cons, List.map_nil, glued_snoc _ _ hne]
      rw [this]
      unfold quoteF
      simp only [str_assoc]
    · rw [if_neg h0]
      have h00 : n = 0 := by omega
      subst h00
      have e0 : joinQ (ch.take 0) = Str.ofString "" := by rw [List.take_zero]; decide
      have e1 : joinQ (ch.take 0 ++ [ch[0]]) = quoteF ch[0] := rfl
      rw [e0, e1, str_empty_right, str_empty_right]
      unfold quoteF
      simp only [str_assoc]
theorem said_one {ch : List Str} (h : (ch.length : Int) = 1) : Str.ofString "'arg' should be " ++ joinQ ch = saidF ch := by
  unfold saidF said₀
  rw [if_neg (by omega), said_take ch _ ch.length (Nat.le_refl _), List.take_length]
theorem said_more {ch : List Str} (h0 : 0 < ch.length) (h : (ch.length : Int) ≠ 1) : Str.ofString "'arg' should be one of " ++ joinQ ch = saidF ch := by
  unfold saidF said₀
  rw [if_pos (by omega), said_take ch _ ch.length (Nat.le_refl _), List.take_length]
section
variable {ch : List Str} {os : List (Option Str)} {sev : Bool} {acc : List Str} {txt : Str}
theorem ct_s (hs : sev = false) (he : os = ch.map some) : dueTexts ch os sev = .list [ch.getD (Int.toNat 0) Str.empty] := by
  unfold dueTexts; rw [if_pos ⟨hs, he⟩]; rfl
theorem ct_l (hs : sev = false) (he : ¬ os = ch.map some) (hl : (os.length : Int) ≠ 1) : dueTexts ch os sev = .msg (Str.ofString "'arg' must be of length 1") := by
  unfold dueTexts; rw [if_neg (fun q => he q.2), if_pos ⟨hs, by omega⟩]
theorem ct_t (hs : sev = true ∨ (sev = false ∧ ¬ os = ch.map some ∧ (os.length : Int) = 1)) :
    dueTexts ch os sev = if os.flatMap (meansF ch) ≠ [] then .list (os.flatMap (meansF ch)) else .msg (saidF ch) := by
  unfold dueTexts
  rcases hs with rfl | ⟨rfl, he, hl⟩
  · rw [if_neg (fun q => Bool.noConfusion q.1), if_neg (fun q => Bool.noConfusion q.1)]
  · rw [if_neg (fun q => he q.2), if_neg (fun q => q.2 (by omega))]
theorem ct_f (hs : sev = true ∨ (sev = false ∧ ¬ os = ch.map some ∧ (os.length : Int) = 1)) (ha : acc = [] ++ os.flatMap (pickF ch)) (hf : (acc.length : Int) ≠ 0) : dueTexts ch os sev = .list acc := by
  rw [List.nil_append, pick_flat] at ha
  rw [ct_t hs, ← ha, if_pos]
  rintro rfl
  exact hf rfl
theorem ct_m (hs : sev = true ∨ (sev = false ∧ ¬ os = ch.map some ∧ (os.length : Int) = 1)) (ha : acc = [] ++ os.flatMap (pickF ch)) (hf : (acc.length : Int) = 0) (hx : txt = saidF ch) : dueTexts ch os sev = .msg txt := by
  rw [List.nil_append, pick_flat] at ha
  have e : acc = [] := List.eq_nil_of_length_eq_zero (by omega)
  rw [ct_t hs, ← ha, if_neg (fun q => q e), hx]
end
end Mine
end
-- part NzMade
noncomputable section
open PySem PySem.W PyProof.Rows
set_option maxRecDepth 100000
namespace Mine
abbrev nulD (w : World) (a1 a2 c1 : Tok) : List DictEntry :=
  [⟨PyData.keyHash w.params (Str.ofString "kind"), .str (Str.ofString "kind") a1, .str (Str.ofString "NULL") a2⟩, ⟨PyData.keyHash w.params (Str.ofString "attrs"), .str (Str.ofString "attrs") c1, .none⟩]
theorem MadeVec.from {w : World} {h₀ h h' : Heap} {x l : Addr} {ks : Str} (k : Kept h₀ h) (M : MadeVec w h h' x ks l) : MadeVec w h₀ h' x ks l := by
  obtain ⟨k1, dx, a1, a2, b1, c1, d1, e1, n, h1, h2, h3, h4⟩ := M
  exact ⟨kept_trans k k1, dx, a1, a2, b1, c1, d1, e1, n, h1, h2, new_of k h3, new_of k h4⟩
theorem MadeList.from {h₀ h h' : Heap} {l : Addr} {its : Array Value} (k : Kept h₀ h) (M : MadeList h h' l its) : MadeList h₀ h' l its := ⟨M.own, new_of k M.new⟩
theorem vec_endM {w : World} {h₀ g h' : Heap} {L' x dx l : Addr} {m' : Str → Option Value} {news : List (Addr × Obj)} {ks : Str} {a1 a2 b1 c1 d1 e1 : Tok} {n : Nat} (kG : Kept h₀ g) (F : Fr g L' h' m') (N : News g L' h' news) (m1 : (x, instObj 99 dx) ∈ news) (m2 : (dx, dictOf (vecD w ks l a1 a2 b1 c1 d1 e1) n) ∈ news) : MadeVec w h₀ h' x ks l :=
  have h1 := N _ m1
  have h2 := N _ m2
  ⟨kept_trans kG F.keep, dx, a1, a2, b1, c1, d1, e1, n, h1.1, h2.1, new_of kG h1.2.2, new_of kG h2.2.2⟩
theorem list_endM {h₀ g h' : Heap} {L' l : Addr} {news : List (Addr × Obj)} {its : Array Value} {c : Nat} (kG : Kept h₀ g) (N : News g L' h' news) (m1 : (l, listOf its c) ∈ news) : MadeList h₀ h' l its :=
  have h1 := N _ m1
  ⟨⟨c, h1.1⟩, new_of kG h1.2.2⟩
theorem vec_from {w : World} {g h h' : Heap} {L' x l : Addr} {m' : Str → Option Value} {ks : Str} (F : Fr g L' h m') (M : MadeVec w h h' x ks l) : MadeVec w g h' x ks l := MadeVec.from F.keep M
theorem lst_from {g h h' : Heap} {L' l : Addr} {m' : Str → Option Value} {its : Array Value} (F : Fr g L' h m') (M : MadeList h h' l its) : MadeList g h' l its := MadeList.from F.keep M
theorem vec_ret {w : World} {s : Shared} {Q : Value → Shared → Prop} {g h' : Heap} {x l : Addr} {ks c : Str} {t : Tok} {tk' : Nat}
    (ret : ∀ (x l' : Addr) (t : Tok) (h' : Heap) (tk' : Nat), MadeVec w s.heap h' x ks l' → MadeList s.heap h' l' #[.str c t] → Q (.ref x) { s with heap := h', toks := tk' }) (kG : Kept s.heap g)
    (M : MadeVec w g h' x ks l) (N : MadeList g h' l #[.str c t]) : Q (.ref x) { s with heap := h', toks := tk' } :=
  ret _ _ _ _ _ (MadeVec.from kG M) (MadeList.from kG N)
end Mine
end
-- part NzJoin
noncomputable section
open PySem PySem.W PyProof.Rows
set_option maxRecDepth 100000
namespace Mine
/-- the end of the guards that stand ahead of a tail: the tail is then walked once -/
def JoinEnd (h₀ : Heap) (L : Addr) (m : Str → Option Value) (news : List (Addr × Obj)) (C : Prop) (s : Shared) (Q : Flow → Shared → Prop) (f : Flow) (s' : Shared) : Prop :=
  match f with
  | .next => C ∧ ∃ h tk, s' = { s with heap := h, toks := tk } ∧ Fr h₀ L h m ∧ News h₀ L h news
  | f => Q f s'
section
variable {M : Model} {A : Around} {E : Value → Shared → Prop} {s : Shared} {env : Env} {S1 S2 : Stmt} {tail : List Stmt} {Q : Flow → Shared → Prop} {h₀ : Heap} {L : Addr} {m : Str → Option Value} {news : List (Addr × Obj)} {C : Prop}
theorem join_ret {v : Value} {s' : Shared} (h : Q (.ret v) s') : JoinEnd h₀ L m news C s Q (.ret v) s' := h
theorem join_next {h' : Heap} {tk : Nat} (c : C) (F : Fr h₀ L h' m) (N : News h₀ L h' news) : JoinEnd h₀ L m news C s Q .next { s with heap := h', toks := tk } := ⟨c, h', tk, rfl, F, N⟩
theorem join1 (F : Fr h₀ L s.heap m) (N : News h₀ L s.heap news) (now : wpAny M A (exec S1 env) (JoinEnd h₀ L m news C s Q) E s)
    (rest : ∀ h tk, C → Fr h₀ L h m → News h₀ L h news → wpAny M A (execs tail env) Q E { s with heap := h, toks := tk }) : wpAny M A (execs (S1 :: tail) env) Q E s := by
  refine wpAny_execs_cons (wpAny_mono now (fun f s' q => ?_) fun _ _ z => z)
  cases f with
  | next => obtain ⟨c, h, tk, rfl, F', N'⟩ := q; exact rest h tk c F' N'
  | _ => exact q
theorem join2 (F : Fr h₀ L s.heap m) (N : News h₀ L s.heap news)
    (hnow : wpAny M A (exec S1 env) (fun f s' => match f with | .next => wpAny M A (exec S2 env) (JoinEnd h₀ L m news C s Q) E s' | f => Q f s') E s)
    (rest : ∀ h tk, C → Fr h₀ L h m → News h₀ L h news → wpAny M A (execs tail env) Q E { s with heap := h, toks := tk }) : wpAny M A (execs (S1 :: S2 :: tail) env) Q E s := by
  refine wpAny_execs_cons (wpAny_mono hnow (fun f s' q => ?_) fun _ _ z => z)
  cases f with
  | next =>
    refine wpAny_execs_cons (wpAny_mono q (fun f s' q => ?_) fun _ _ z => z)
    cases f with
    | next => obtain ⟨c, h, tk, rfl, F', N'⟩ := q; exact rest h tk c F' N'
    | _ => exact q
  | _ => exact q
end
end Mine
end
-- part NzDigit
noncomputable section
open PySem PySem.W PyProof.Rows
set_option maxRecDepth 100000
namespace Mine
local macro_rules | `(tactic| k_all) => `(tactic| assumption)

set_option maxHeartbeats 8000000 in
theorem digit_call {w : World} {dp un : Nat} {gd : Option (List Code)} {cn : Str} {cs : Scope} {a : Addr} {ccd : Value} {cl : List (Str × Addr)} {outer : List Env} {A₀ : Around} {base h₀ : Heap} {L : Addr} {m : Str → Option Value} {s : Shared} {Q E : Value → Shared → Prop}
    {mean : ExcName → Option Value} {mg mb : Str → Option Value} {loose : List Str}
    {p c : Addr} {ws : List Value} {ns : List Int} {spot v most : Int} {t1 t2 tm : Tok} {n1 n2 : Nat} {rest : List (Addr × Obj)}
    (hK : ∀ h : Heap, (top.heap_1 w.params).In h → True)
    (B : Below A₀ base outer h₀) (F : Fr h₀ L s.heap m) (X : (top.heap_1 w.params).In h₀)
    (N : News h₀ L s.heap ((p, listOf #[.ref c, .int spot t1, .int v t2] n1) :: (c, listOf ws.toArray n2) :: rest))
    (T : Top hd.view_39 loose mean mg mb h₀) (hk : cs.kind = .function)
    (hd1 : dp + 5 < recursionLimit) (hu : un + 40 < cLine)
    (hI : IntsAre ws ns) (hl1 : 1 ≤ ns.length) (hl2 : ns.length ≤ 40) (hpc : p ≠ c) (hr : ∀ q ∈ rest, q.1 ≠ p) 
    (hs1 : 0 ≤ spot) (hs2 : spot ≤ 100) (hv1 : 0 ≤ v) (hv2 : v < 10 ^ 60) (hm1 : 2 ≤ most) (hm2 : most ≤ 100)
    (ret : ∀ (d spot' v' : Int) (td t1' t2' : Tok) (h' : Heap) (tk' : Nat), 0 ≤ d → d < most → 0 ≤ spot' → spot' ≤ spot + 1 → 0 ≤ v' → v' < 10 ^ 60 → 
      Fr h₀ L h' m → News h₀ L h' ((p, listOf #[.ref c, .int spot' t1', .int v' t2'] n1) :: (c, listOf ws.toArray n2) :: rest) → Q (.int d td) { s with heap := h', toks := tk' }) :
    wpAny (model PySem.Challenge.rw_nz0469_01.row.prog w) (ktrTop dp un gd cn cs L a ccd cl outer) (call (.ref 197) [.ref p, .int most tm]) Q E s := by
  revert hK; k_fill; intro hK; clear hK
  have hr' : ∀ q ∈ ((c, listOf ws.toArray n2) :: rest), q.1 ≠ p := List.forall_mem_cons.mpr ⟨fun h => hpc h.symm, hr⟩
  refine wpAny_call ?_
  k_dflt cell_enter
  k_steps
  all_goals (refine ret _ _ _ _ _ _ _ _ ?_ ?_ ?_ ?_ ?_ ?_ (by k_asm) (by first | k_asm | exact news_drop1 (by k_asm)))
  all_goals (first
    | omega
    | exact d_lo _ hm1
    | exact d_hi _ hm1
    | exact q_lo hm1 hv1
    | exact q_hi hm1 hv1 hv2
    | exact q_lo hm1 (d_lo _ (by decide))
    | exact q_hi hm1 (d_lo _ (by decide)) (Int.lt_of_lt_of_le (d_hi _ (by decide)) (by decide)))
end Mine
end
noncomputable section
open PySem PySem.W PyProof.Rows
namespace Mine
local macro_rules | `(tactic| k_all) => `(tactic| assumption)
local macro_rules | `(tactic| k_room) => `(tactic| ktr_room)
local macro_rules | `(tactic| k_units) => `(tactic| ktr_units)
local macro_rules | `(tactic| k_inst) => `(tactic| k_extra "k_inst")
local macro_rules | `(tactic| no_dict) => `(tactic| k_extra "no_dict")
local macro_rules | `(tactic| cell_enter) => `(tactic| k_extra "cell_enter")
local macro_rules | `(tactic| ktr_enter) => `(tactic| k_extra "ktr_enter")
local macro_rules | `(tactic| walk_at $s:str) => `(tactic| k_extra $s)

-- part NzPlace
section
open PySem PySem.W PyProof.Rows
set_option maxRecDepth 100000
theorem said_NzPlace : True := by
  k_with_none
  k_with "k_inst" => (refine' inst_keep ?zqF ?zqh1 ?zqh2; (case zqF => k_asm); (case zqh1 => assumption); (case zqh2 => assumption))
  k_with "no_dict" => (exact ⟨_, Fr.keep (by k_asm) _ _ (by assumption), rfl⟩)
  k_with "cell_enter" => (refine' enterG ?zqk1 ?zqk2 ?zqk3 ?zqk5 ?zqkA ?zqkF ?zqkK ?zqk6 ?zqk7 ?zqk8 ?zqk9 ?zqkB ?_ ?zqc2 ?zqc3 ?zqc4 ?zqc5; (case zqkA => exact rfl); (case zqkF => exact rfl); (case zqkK => assumption); (case zqk1 => k_asm); (case zqk2 => k_asm); (case zqk3 => k_asm); (case zqk5 => k_asm); (case zqk6 => k_is); (case zqk7 => k_is); (case zqk8 => ktr_room); (case zqk9 => exact BindsTo.of_eq rfl); (case zqc5 => decide); (case zqkB => exact locs rfl); (case zqc2 => exact rfl); (case zqc3 => exact rfl); (case zqc4 => exact rfl); k_whole; intro g' L' h' FG' F' N' B' X' T' G'; (try dsimp only); (try k_lift B'); (try k_fold))
  k_with "ktr_enter" => (refine' enterC ?zqk1 ?zqk2 ?zqk3 ?zqk5 ?zqkA ?zqkF ?zqkK ?zqk6 ?zqk7 ?zqk8 ?zqk9 ?zqkB ?zqkD ?_ ?zqc2 ?zqc3 ?zqc4; (case zqkA => exact rfl); (case zqkF => exact rfl); (case zqkK => assumption); (case zqk1 => k_asm); (case zqk2 => k_asm); (case zqk3 => k_asm); (case zqk5 => k_asm); (case zqk6 => k_is); (case zqk7 => k_is); (case zqk8 => ktr_room); (case zqk9 => exact BindsTo.of_eq rfl); (case zqkB => exact rfl); (case zqkD => decide +kernel); (case zqc2 => exact rfl); (case zqc3 => exact rfl); (case zqc4 => exact rfl); k_whole; intro g' L' h' tk' cells' FG' F' N' Y' B' X' T' G'; k_cells Y'; (try simp only [List.cons_append, List.nil_append] at N'); (try dsimp only); (try k_lift B'); (try k_fold))
  k_with "call builtin:list.index" => ((with_reducible show wpAny _ _ (call (Value.builtin _) [Value.ref _, Value.str _ _]) _ _ _); refine index_strs (by is_list) (by assumption) (by assumption) (by assumption) ?_)
  trivial
section
variable {w : World} {dp un : Nat} {gd : Option (List Code)} {cn : Str} {cs : Scope} {a : Addr} {ccd : Value} {cl : List (Str × Addr)} {outer : List Env} {A₀ : Around} {base h₀ : Heap} {L : Addr} {m : Str → Option Value} {s : Shared} {Q E : Value → Shared → Prop}
  {mean : ExcName → Option Value} {mg mb : Str → Option Value} {loose : List Str}
set_option maxHeartbeats 8000000 in
theorem place_call 
    {l : Addr} {vs : List Value} {n : Nat} {ch : List Str} {x : Str} {tx : Tok}
    (hK : ∀ h : Heap, (top.heap_1 w.params).In h → True)
    (B : Below A₀ base outer h₀) (F : Fr h₀ L s.heap m) (X : (top.heap_1 w.params).In h₀)
    (T : Top hd.view_39 loose mean mg mb h₀) (hk : cs.kind = .function)
    (hd1 : dp + 5 < recursionLimit) (hu : un + 40 < cLine)
    (ho : s.heap.get? l = some (listOf vs.toArray n)) (hI : StrsAre vs ch) (hl2 : ch.length ≤ 40)
    (ret : ∀ (t : Tok) (h' : Heap) (tk' : Nat), Kept s.heap h' → Q (.int (place ch x) t) { s with heap := h', toks := tk' }) :
    wpAny (model PySem.Challenge.rw_nz0469_01.row.prog w) (ktrTop dp un gd cn cs L a ccd cl outer) (call (.ref 185) [.ref l, .str x tx]) Q E s := by
  revert hK; k_fill; intro hK; clear hK
  refine wpAny_call ?_
  k_dflt ktr_enter
  rename Kept _ _ => kG
  replace ho := kG _ _ ho
  have hl : Heap.IsList _ l vs.toArray := ⟨_, ho, rfl, n, rfl⟩
  k_steps
  all_goals (refine place_end ret kG (by assumption) (by first | exact place_e1 (by assumption) | exact place_e2 (by assumption) (by assumption) | exact place_e3 (by assumption) (by assumption) (by assumption) | exact place_e4 (by assumption) (by assumption) (by assumption)))
end

end
-- part NzPlaceB
section
open PySem PySem.W PyProof.Rows
set_option maxRecDepth 100000
section
variable {w : World} {dp un : Nat} {gd : Option (List Code)} {cn : Str} {cs : Scope} {a : Addr} {ccd : Value} {cl : List (Str × Addr)} {outer : List Env} {A₀ : Around} {base h₀ : Heap} {L : Addr} {m : Str → Option Value} {s : Shared} {Q E : Value → Shared → Prop}
  {mean : ExcName → Option Value} {mg mb : Str → Option Value} {loose : List Str}
theorem place_callB 
    {l : Addr} {vs : List Value} {n : Nat} {ch : List Str} {x : Str} {tx : Tok}
    (hK : ∀ h : Heap, (top.heap_1 w.params).In h → True)
    (B : Below A₀ base outer h₀) (F : Fr h₀ L s.heap m) (X : (top.heap_1 w.params).In h₀)
    (T : Top hd.view_39 loose mean mg mb h₀) (hk : cs.kind = .function)
    (hd1 : dp + 5 < recursionLimit) (hu : un + 40 < cLine)
    (ho : s.heap.get? l = some (listOf vs.toArray n)) (hI : StrsAre vs ch) (hl2 : ch.length ≤ 40)
    (ret : ∀ (t : Tok) (h' : Heap) (tk' : Nat), place ch x < (ch.length : Int) → Kept s.heap h' → Q (.int (place ch x) t) { s with heap := h', toks := tk' }) :
    wpAny (model PySem.Challenge.rw_nz0469_01.row.prog w) (ktrTop dp un gd cn cs L a ccd cl outer) (call (.ref 185) [.ref l, .str x tx]) Q E s :=
  place_call hK B F X T hk hd1 hu ho hI hl2 fun t h' tk' k => ret t h' tk' (place_bounds ch x).2 k
end

end
-- part NzChar
section
open PySem PySem.W PyProof.Rows
set_option maxRecDepth 100000
theorem said_NzChar : True := by
  k_with_none
  k_with "k_inst" => (refine' inst_keep ?zqF ?zqh1 ?zqh2; (case zqF => k_asm); (case zqh1 => assumption); (case zqh2 => assumption))
  k_with "no_dict" => (exact ⟨_, Fr.keep (by k_asm) _ _ (by assumption), rfl⟩)
  k_with "cell_enter" => (refine' enterG ?zqk1 ?zqk2 ?zqk3 ?zqk5 ?zqkA ?zqkF ?zqkK ?zqk6 ?zqk7 ?zqk8 ?zqk9 ?zqkB ?_ ?zqc2 ?zqc3 ?zqc4 ?zqc5; (case zqkA => exact rfl); (case zqkF => exact rfl); (case zqkK => assumption); (case zqk1 => k_asm); (case zqk2 => k_asm); (case zqk3 => k_asm); (case zqk5 => k_asm); (case zqk6 => k_is); (case zqk7 => k_is); (case zqk8 => ktr_room); (case zqk9 => exact BindsTo.of_eq rfl); (case zqc5 => decide); (case zqkB => exact locs rfl); (case zqc2 => exact rfl); (case zqc3 => exact rfl); (case zqc4 => exact rfl); k_whole; intro g' L' h' FG' F' N' B' X' T' G'; (try dsimp only); (try k_lift B'); (try k_fold))
  k_with "ktr_enter" => (refine' enterC ?zqk1 ?zqk2 ?zqk3 ?zqk5 ?zqkA ?zqkF ?zqkK ?zqk6 ?zqk7 ?zqk8 ?zqk9 ?zqkB ?zqkD ?_ ?zqc2 ?zqc3 ?zqc4; (case zqkA => exact rfl); (case zqkF => exact rfl); (case zqkK => assumption); (case zqk1 => k_asm); (case zqk2 => k_asm); (case zqk3 => k_asm); (case zqk5 => k_asm); (case zqk6 => k_is); (case zqk7 => k_is); (case zqk8 => ktr_room); (case zqk9 => exact BindsTo.of_eq rfl); (case zqkB => exact rfl); (case zqkD => decide +kernel); (case zqc2 => exact rfl); (case zqc3 => exact rfl); (case zqc4 => exact rfl); k_whole; intro g' L' h' tk' cells' FG' F' N' Y' B' X' T' G'; k_cells Y'; (try simp only [List.cons_append, List.nil_append] at N'); (try dsimp only); (try k_lift B'); (try k_fold))
  k_with "call builtin:list.index" => ((with_reducible show wpAny _ _ (call (Value.builtin _) [Value.ref _, Value.str _ _]) _ _ _); refine index_strs (by is_list) (by assumption) (by assumption) (by assumption) ?_)
  trivial
section
variable {w : World} {dp un : Nat} {gd : Option (List Code)} {cn : Str} {cs : Scope} {a : Addr} {ccd : Value} {cl : List (Str × Addr)} {outer : List Env} {A₀ : Around} {base h₀ : Heap} {L : Addr} {m : Str → Option Value} {s : Shared} {Q E : Value → Shared → Prop}
  {mean : ExcName → Option Value} {mg mb : Str → Option Value} {loose : List Str}
set_option maxHeartbeats 8000000 in
theorem character_call 
    {l : Addr} {vs : List Value} {n : Nat}
    (hK : ∀ h : Heap, (top.heap_1 w.params).In h → True)
    (B : Below A₀ base outer h₀) (F : Fr h₀ L s.heap m) (X : (top.heap_1 w.params).In h₀)
    (T : Top hd.view_39 loose mean mg mb h₀) (hk : cs.kind = .function)
    (hd1 : dp + 5 < recursionLimit) (hu : un + 40 < cLine)
    (ho : s.heap.get? l = some (listOf vs.toArray n)) (hl2 : vs.length ≤ 40)
    (ret : ∀ (x l' : Addr) (h' : Heap) (tk' : Nat), MadeVec w s.heap h' x (Str.ofString "character") l' → MadeList s.heap h' l' vs.toArray → Q (.ref x) { s with heap := h', toks := tk' }) :
    wpAny (model PySem.Challenge.rw_nz0469_01.row.prog w) (ktrTop dp un gd cn cs L a ccd cl outer) (call (.ref 124) [.ref l]) Q E s := by
  revert hK; k_fill; intro hK; clear hK
  refine wpAny_call ?_
  k_dflt cell_enter
  rename Kept _ _ => kG
  replace ho := kG _ _ ho
  have hl : Heap.IsList _ l vs.toArray := ⟨_, ho, rfl, n, rfl⟩
  k_steps
  exact ret _ _ _ _ (vec_end kG (by assumption) (by assumption)) (list_end kG (by assumption))

set_option maxHeartbeats 8000000 in
theorem text_call 
    {x : Str} {tx : Tok}
    (hK : ∀ h : Heap, (top.heap_1 w.params).In h → True)
    (B : Below A₀ base outer h₀) (F : Fr h₀ L s.heap m) (X : (top.heap_1 w.params).In h₀)
    (T : Top hd.view_39 loose mean mg mb h₀) (hk : cs.kind = .function)
    (hd1 : dp + 5 < recursionLimit) (hu : un + 40 < cLine)
    (ret : ∀ (v l' : Addr) (t : Tok) (h' : Heap) (tk' : Nat), MadeVec w s.heap h' v (Str.ofString "character") l' → MadeList s.heap h' l' #[.str x t] → Q (.ref v) { s with heap := h', toks := tk' }) :
    wpAny (model PySem.Challenge.rw_nz0469_01.row.prog w) (ktrTop dp un gd cn cs L a ccd cl outer) (call (.ref 131) [.str x tx]) Q E s := by
  revert hK; k_fill; intro hK; clear hK
  refine wpAny_call ?_
  k_dflt cell_enter
  rename Kept _ _ => kG
  k_steps
  exact ret _ _ _ _ _ (vec_end kG (by assumption) (by assumption)) (list_end kG (by assumption))
end

end
-- part NzSameAttrs
section
open PySem PySem.W PyProof.Rows
set_option maxRecDepth 100000
theorem said_NzSameAttrs : True := by
  k_with_none
  k_with "k_inst" => (refine' inst_keep ?zqF ?zqh1 ?zqh2; (case zqF => k_asm); (case zqh1 => assumption); (case zqh2 => assumption))
  k_with "no_dict" => (exact ⟨_, Fr.keep (by k_asm) _ _ (by assumption), rfl⟩)
  k_with "cell_enter" => (refine' enterG ?zqk1 ?zqk2 ?zqk3 ?zqk5 ?zqkA ?zqkF ?zqkK ?zqk6 ?zqk7 ?zqk8 ?zqk9 ?zqkB ?_ ?zqc2 ?zqc3 ?zqc4 ?zqc5; (case zqkA => exact rfl); (case zqkF => exact rfl); (case zqkK => assumption); (case zqk1 => k_asm); (case zqk2 => k_asm); (case zqk3 => k_asm); (case zqk5 => k_asm); (case zqk6 => k_is); (case zqk7 => k_is); (case zqk8 => ktr_room); (case zqk9 => exact BindsTo.of_eq rfl); (case zqc5 => decide); (case zqkB => exact locs rfl); (case zqc2 => exact rfl); (case zqc3 => exact rfl); (case zqc4 => exact rfl); k_whole; intro g' L' h' FG' F' N' B' X' T' G'; (try dsimp only); (try k_lift B'); (try k_fold))
  k_with "ktr_enter" => (refine' enterC ?zqk1 ?zqk2 ?zqk3 ?zqk5 ?zqkA ?zqkF ?zqkK ?zqk6 ?zqk7 ?zqk8 ?zqk9 ?zqkB ?zqkD ?_ ?zqc2 ?zqc3 ?zqc4; (case zqkA => exact rfl); (case zqkF => exact rfl); (case zqkK => assumption); (case zqk1 => k_asm); (case zqk2 => k_asm); (case zqk3 => k_asm); (case zqk5 => k_asm); (case zqk6 => k_is); (case zqk7 => k_is); (case zqk8 => ktr_room); (case zqk9 => exact BindsTo.of_eq rfl); (case zqkB => exact rfl); (case zqkD => decide +kernel); (case zqc2 => exact rfl); (case zqc3 => exact rfl); (case zqc4 => exact rfl); k_whole; intro g' L' h' tk' cells' FG' F' N' Y' B' X' T' G'; k_cells Y'; (try simp only [List.cons_append, List.nil_append] at N'); (try dsimp only); (try k_lift B'); (try k_fold))
  k_with "compareOp Eq ref ref" => (k_here; (with_reducible show wpAny _ _ (compareOp CmpOp.Eq (Value.ref _) (Value.ref _)) _ _ _); k_dflt (refine' eq_opts ?zqk1 ?zqk2 ?zqk3 ?zqk4 ?zqk5 ?_; (case zqk1 => is_list); (case zqk2 => first | assumption | exact opts_of_strs (by assumption)); (case zqk3 => is_list); (case zqk4 => first | assumption | exact opts_of_strs (by assumption)); (case zqk5 => ktr_units); k_whole))
  k_with "call builtin:list.index" => ((with_reducible show wpAny _ _ (call (Value.builtin _) [Value.ref _, Value.str _ _]) _ _ _); refine index_strs (by is_list) (by assumption) (by assumption) (by assumption) ?_)
  trivial
section
variable {w : World} {dp un : Nat} {gd : Option (List Code)} {cn : Str} {cs : Scope} {a : Addr} {ccd : Value} {cl : List (Str × Addr)} {outer : List Env} {A₀ : Around} {base h₀ : Heap} {L : Addr} {m : Str → Option Value} {s : Shared} {Q E : Value → Shared → Prop}
  {mean : ExcName → Option Value} {mg mb : Str → Option Value} {loose : List Str}
set_option maxHeartbeats 8000000 in
theorem same_attrs_call 
    {xu du lu xv dv lv : Addr} {ku kv : Str} {a1 a2 b1 c1 d1 e1 a3 a4 b3 c3 d3 e3 : Tok} {n1 n2 : Nat}
    (hK : ∀ h : Heap, (top.heap_1 w.params).In h → True)
    (B : Below A₀ base outer h₀) (F : Fr h₀ L s.heap m) (X : (top.heap_1 w.params).In h₀)
    (T : Top hd.view_39 loose mean mg mb h₀) (hk : cs.kind = .function)
    (hd1 : dp + 5 < recursionLimit) (hu : un + 40 < cLine)
    (u1 : s.heap.get? xu = some (instObj 99 du)) (u2 : s.heap.get? du = some (dictOf (vecD w ku lu a1 a2 b1 c1 d1 e1) n1))
    (v1 : s.heap.get? xv = some (instObj 99 dv)) (v2 : s.heap.get? dv = some (dictOf (vecD w kv lv a3 a4 b3 c3 d3 e3) n2))
    (ret : ∀ (h' : Heap) (tk' : Nat), Kept s.heap h' → Q (.bool true) { s with heap := h', toks := tk' }) :
    wpAny (model PySem.Challenge.rw_nz0469_01.row.prog w) (ktrTop dp un gd cn cs L a ccd cl outer) (call (.ref 138) [.ref xu, .ref xv]) Q E s := by
  revert hK; k_fill; intro hK; clear hK
  refine wpAny_call ?_
  k_dflt cell_enter
  rename Kept _ _ => kG
  replace u1 := kG _ _ u1
  replace u2 := kG _ _ u2
  replace v1 := kG _ _ v1
  replace v2 := kG _ _ v2
  k_steps
  exact ret _ _ (kept_trans kG (Fr.keep (by assumption)))

set_option maxHeartbeats 8000000 in
theorem same_kernel_call 
    {xu du lu xv dv lv : Addr} {kv : Str} {a1 a2 b1 c1 d1 e1 a3 a4 b3 c3 d3 e3 : Tok} {n1 n2 : Nat}
    {us vs : List Value} {os ps : List (Option Str)} {m1 m2 : Nat}
    (hK : ∀ h : Heap, (top.heap_1 w.params).In h → True)
    (B : Below A₀ base outer h₀) (F : Fr h₀ L s.heap m) (X : (top.heap_1 w.params).In h₀)
    (T : Top hd.view_39 loose mean mg mb h₀) (hk : cs.kind = .function)
    (hd1 : dp + 5 < recursionLimit) (hu : un + 40 < cLine)
    (u1 : s.heap.get? xu = some (instObj 99 du)) (u2 : s.heap.get? du = some (dictOf (vecD w (Str.ofString "character") lu a1 a2 b1 c1 d1 e1) n1))
    (v1 : s.heap.get? xv = some (instObj 99 dv)) (v2 : s.heap.get? dv = some (dictOf (vecD w kv lv a3 a4 b3 c3 d3 e3) n2))
    (ul : s.heap.get? lu = some (listOf us.toArray m1)) (vl : s.heap.get? lv = some (listOf vs.toArray m2)) (hI : OptsAre us os) (hJ : OptsAre vs ps)
    (ret : ∀ (h' : Heap) (tk' : Nat), Kept s.heap h' → Q (.bool (decide (os = ps))) { s with heap := h', toks := tk' }) :
    wpAny (model PySem.Challenge.rw_nz0469_01.row.prog w) (ktrTop dp un gd cn cs L a ccd cl outer) (call (.ref 173) [.ref xu, .ref xv]) Q E s := by
  revert hK; k_fill; intro hK; clear hK
  refine wpAny_call ?_
  k_dflt cell_enter
  rename Kept _ _ => kG
  replace u1 := kG _ _ u1
  replace u2 := kG _ _ u2
  replace v1 := kG _ _ v1
  replace v2 := kG _ _ v2
  replace ul := kG _ _ ul
  replace vl := kG _ _ vl
  have hl : Heap.IsList _ lu us.toArray := ⟨_, ul, rfl, m1, rfl⟩
  have hm : Heap.IsList _ lv vs.toArray := ⟨_, vl, rfl, m2, rfl⟩
  k_steps
  exact ret _ _ (kept_trans kG (Fr.keep (by assumption)))
end

end
-- part NzIdentical
section
open PySem PySem.W PyProof.Rows
set_option maxRecDepth 100000
theorem said_NzIdentical : True := by
  k_with_none
  k_with "k_inst" => (refine' inst_keep ?zqF ?zqh1 ?zqh2; (case zqF => k_asm); (case zqh1 => assumption); (case zqh2 => assumption))
  k_with "no_dict" => (exact ⟨_, Fr.keep (by k_asm) _ _ (by assumption), rfl⟩)
  k_with "cell_enter" => (refine' enterG ?zqk1 ?zqk2 ?zqk3 ?zqk5 ?zqkA ?zqkF ?zqkK ?zqk6 ?zqk7 ?zqk8 ?zqk9 ?zqkB ?_ ?zqc2 ?zqc3 ?zqc4 ?zqc5; (case zqkA => exact rfl); (case zqkF => exact rfl); (case zqkK => assumption); (case zqk1 => k_asm); (case zqk2 => k_asm); (case zqk3 => k_asm); (case zqk5 => k_asm); (case zqk6 => k_is); (case zqk7 => k_is); (case zqk8 => ktr_room); (case zqk9 => exact BindsTo.of_eq rfl); (case zqc5 => decide); (case zqkB => exact locs rfl); (case zqc2 => exact rfl); (case zqc3 => exact rfl); (case zqc4 => exact rfl); k_whole; intro g' L' h' FG' F' N' B' X' T' G'; (try dsimp only); (try k_lift B'); (try k_fold))
  k_with "ktr_enter" => (refine' enterC ?zqk1 ?zqk2 ?zqk3 ?zqk5 ?zqkA ?zqkF ?zqkK ?zqk6 ?zqk7 ?zqk8 ?zqk9 ?zqkB ?zqkD ?_ ?zqc2 ?zqc3 ?zqc4; (case zqkA => exact rfl); (case zqkF => exact rfl); (case zqkK => assumption); (case zqk1 => k_asm); (case zqk2 => k_asm); (case zqk3 => k_asm); (case zqk5 => k_asm); (case zqk6 => k_is); (case zqk7 => k_is); (case zqk8 => ktr_room); (case zqk9 => exact BindsTo.of_eq rfl); (case zqkB => exact rfl); (case zqkD => decide +kernel); (case zqc2 => exact rfl); (case zqc3 => exact rfl); (case zqc4 => exact rfl); k_whole; intro g' L' h' tk' cells' FG' F' N' Y' B' X' T' G'; k_cells Y'; (try simp only [List.cons_append, List.nil_append] at N'); (try dsimp only); (try k_lift B'); (try k_fold))
  k_with "compareOp Eq ref ref" => (k_here; (with_reducible show wpAny _ _ (compareOp CmpOp.Eq (Value.ref _) (Value.ref _)) _ _ _); k_dflt (refine' eq_opts ?zqk1 ?zqk2 ?zqk3 ?zqk4 ?zqk5 ?_; (case zqk1 => is_list); (case zqk2 => first | assumption | exact opts_of_strs (by assumption)); (case zqk3 => is_list); (case zqk4 => first | assumption | exact opts_of_strs (by assumption)); (case zqk5 => ktr_units); k_whole))
  k_with "call builtin:list.index" => ((with_reducible show wpAny _ _ (call (Value.builtin _) [Value.ref _, Value.str _ _]) _ _ _); refine index_strs (by is_list) (by assumption) (by assumption) (by assumption) ?_)
  k_with "call ref" => (k_here; (with_reducible show wpAny _ _ (call (Value.ref 138) _) _ _ _); k_dflt (refine' same_attrs_call ?zqkH ?zqk1 ?zqk2 ?zqk3 ?zqk5 ?zqkK ?zqkd ?zqku ?zqp0 ?zqp1 ?zqp2 ?zqp3 ?_; (case zqkH => exact fun _ _ => trivial); (case zqk1 => k_asm); (case zqk2 => k_asm); (case zqk3 => k_asm); (case zqk5 => k_asm); (case zqkK => first | exact rfl | assumption); (case zqkd => ktr_room); (case zqku => ktr_units); (case zqp0 => exact Fr.keep (by k_asm) _ _ (by assumption)); (case zqp1 => exact Fr.keep (by k_asm) _ _ (by assumption)); (case zqp2 => exact Fr.keep (by k_asm) _ _ (by assumption)); (case zqp3 => exact Fr.keep (by k_asm) _ _ (by assumption)); k_whole; intro h' tk' kp'; (have F' := Fr.keeps (by k_asm) kp'); (have N' := news_kept (by k_asm) kp'); (try k_sweep)))
  k_with "call ref" => (k_here; (with_reducible show wpAny _ _ (call (Value.ref 173) _) _ _ _); k_dflt (refine' same_kernel_call ?zqkH ?zqk1 ?zqk2 ?zqk3 ?zqk5 ?zqkK ?zqkd ?zqku ?zqp0 ?zqp1 ?zqp2 ?zqp3 ?zqp4 ?zqp5 ?zqp6 ?zqp7 ?_; (case zqkH => exact fun _ _ => trivial); (case zqk1 => k_asm); (case zqk2 => k_asm); (case zqk3 => k_asm); (case zqk5 => k_asm); (case zqkK => first | exact rfl | assumption); (case zqkd => ktr_room); (case zqku => ktr_units); (case zqp0 => exact Fr.keep (by k_asm) _ _ (by assumption)); (case zqp1 => exact Fr.keep (by k_asm) _ _ (by assumption)); (case zqp2 => exact Fr.keep (by k_asm) _ _ (by assumption)); (case zqp3 => exact Fr.keep (by k_asm) _ _ (by assumption)); (case zqp4 => exact Fr.keep (by k_asm) _ _ (by assumption)); (case zqp5 => exact Fr.keep (by k_asm) _ _ (by assumption)); (case zqp6 => first | assumption | exact opts_of_strs (by assumption)); (case zqp7 => first | assumption | exact opts_of_strs (by assumption)); k_whole; intro h' tk' kp'; (have F' := Fr.keeps (by k_asm) kp'); (have N' := news_kept (by k_asm) kp'); (try k_sweep)))
  trivial
section
variable {w : World} {dp un : Nat} {gd : Option (List Code)} {cn : Str} {cs : Scope} {a : Addr} {ccd : Value} {cl : List (Str × Addr)} {outer : List Env} {A₀ : Around} {base h₀ : Heap} {L : Addr} {m : Str → Option Value} {s : Shared} {Q E : Value → Shared → Prop}
  {mean : ExcName → Option Value} {mg mb : Str → Option Value} {loose : List Str}
set_option maxHeartbeats 8000000 in
theorem identical_call 
    {xu du lu xv dv lv : Addr} {a1 a2 b1 c1 d1 e1 a3 a4 b3 c3 d3 e3 : Tok} {n1 n2 : Nat}
    {us vs : List Value} {os ps : List (Option Str)} {m1 m2 : Nat}
    (hK : ∀ h : Heap, (top.heap_1 w.params).In h → True)
    (B : Below A₀ base outer h₀) (F : Fr h₀ L s.heap m) (X : (top.heap_1 w.params).In h₀)
    (T : Top hd.view_39 loose mean mg mb h₀) (hk : cs.kind = .function)
    (hd1 : dp + 8 < recursionLimit) (hu : un + 60 < cLine)
    (u1 : s.heap.get? xu = some (instObj 99 du)) (u2 : s.heap.get? du = some (dictOf (vecD w (Str.ofString "character") lu a1 a2 b1 c1 d1 e1) n1))
    (v1 : s.heap.get? xv = some (instObj 99 dv)) (v2 : s.heap.get? dv = some (dictOf (vecD w (Str.ofString "character") lv a3 a4 b3 c3 d3 e3) n2))
    (ul : s.heap.get? lu = some (listOf us.toArray m1)) (vl : s.heap.get? lv = some (listOf vs.toArray m2)) (hI : OptsAre us os) (hJ : OptsAre vs ps)
    (ret : ∀ (h' : Heap) (tk' : Nat), Kept s.heap h' → Q (.bool (decide (os = ps))) { s with heap := h', toks := tk' }) :
    wpAny (model PySem.Challenge.rw_nz0469_01.row.prog w) (ktrTop dp un gd cn cs L a ccd cl outer) (call (.ref 180) [.ref xu, .ref xv]) Q E s := by
  revert hK; k_fill; intro hK; clear hK
  refine wpAny_call ?_
  k_dflt cell_enter
  rename Kept _ _ => kG
  replace u1 := kG _ _ u1
  replace u2 := kG _ _ u2
  replace v1 := kG _ _ v1
  replace v2 := kG _ _ v2
  replace ul := kG _ _ ul
  replace vl := kG _ _ vl
  k_steps
  all_goals first
    | exact ret _ _ (kept_trans kG (Fr.keep (by assumption)))
    | exact ident_end ret (by first | assumption | exact decide_eq_true (by assumption)) (kept_trans kG (Fr.keep (by assumption)))
end

end
-- part NzMeans
section
open PySem PySem.W PyProof.Rows
set_option maxRecDepth 100000
theorem said_NzMeans : True := by
  k_with_none
  k_with "k_inst" => (refine' inst_keep ?zqF ?zqh1 ?zqh2; (case zqF => k_asm); (case zqh1 => assumption); (case zqh2 => assumption))
  k_with "no_dict" => (exact ⟨_, Fr.keep (by k_asm) _ _ (by assumption), rfl⟩)
  k_with "cell_enter" => (refine' enterG ?zqk1 ?zqk2 ?zqk3 ?zqk5 ?zqkA ?zqkF ?zqkK ?zqk6 ?zqk7 ?zqk8 ?zqk9 ?zqkB ?_ ?zqc2 ?zqc3 ?zqc4 ?zqc5; (case zqkA => exact rfl); (case zqkF => exact rfl); (case zqkK => assumption); (case zqk1 => k_asm); (case zqk2 => k_asm); (case zqk3 => k_asm); (case zqk5 => k_asm); (case zqk6 => k_is); (case zqk7 => k_is); (case zqk8 => ktr_room); (case zqk9 => exact BindsTo.of_eq rfl); (case zqc5 => decide); (case zqkB => exact locs rfl); (case zqc2 => exact rfl); (case zqc3 => exact rfl); (case zqc4 => exact rfl); k_whole; intro g' L' h' FG' F' N' B' X' T' G'; (try dsimp only); (try k_lift B'); (try k_fold))
  k_with "ktr_enter" => (refine' enterC ?zqk1 ?zqk2 ?zqk3 ?zqk5 ?zqkA ?zqkF ?zqkK ?zqk6 ?zqk7 ?zqk8 ?zqk9 ?zqkB ?zqkD ?_ ?zqc2 ?zqc3 ?zqc4; (case zqkA => exact rfl); (case zqkF => exact rfl); (case zqkK => assumption); (case zqk1 => k_asm); (case zqk2 => k_asm); (case zqk3 => k_asm); (case zqk5 => k_asm); (case zqk6 => k_is); (case zqk7 => k_is); (case zqk8 => ktr_room); (case zqk9 => exact BindsTo.of_eq rfl); (case zqkB => exact rfl); (case zqkD => decide +kernel); (case zqc2 => exact rfl); (case zqc3 => exact rfl); (case zqc4 => exact rfl); k_whole; intro g' L' h' tk' cells' FG' F' N' Y' B' X' T' G'; k_cells Y'; (try simp only [List.cons_append, List.nil_append] at N'); (try dsimp only); (try k_lift B'); (try k_fold))
  k_with "compareOp Eq ref ref" => (k_here; (with_reducible show wpAny _ _ (compareOp CmpOp.Eq (Value.ref _) (Value.ref _)) _ _ _); k_dflt (refine' eq_opts ?zqk1 ?zqk2 ?zqk3 ?zqk4 ?zqk5 ?_; (case zqk1 => is_list); (case zqk2 => first | assumption | exact opts_of_strs (by assumption)); (case zqk3 => is_list); (case zqk4 => first | assumption | exact opts_of_strs (by assumption)); (case zqk5 => ktr_units); k_whole))
  k_with "pyIter ref" => (k_here; k_dflt (refine' iter_searchS ?zqkW ?zqk1 ?zqk2 ?zqk3 ?zqk4 ?zqk5 ?_ ?_; (case zqkW => assumption); (case zqk1 => exact rfl); (case zqk2 => assumption); (case zqk3 => assumption); (case zqk4 => k_asm); (case zqk5 => k_asm); intro c' t' h' tk' I' oI' hc' F' N'; (try k_sweep); rotate_left; intro u' h' tk' hno' F' N'; (try k_sweep); rotate_right))
  k_with "pyIter ref" => (k_here; k_dflt (refine' iter_growS ?zqkW ?zqk1 ?zqk2 ?zqk3 ?zqk4 ?zqk5 ?zqk6 ?_ ?_; (case zqkW => assumption); (case zqk1 => exact rfl); (case zqk2 => assumption); (case zqk3 => assumption); (case zqk4 => k_asm); (case zqk5 => k_asm); (case zqk6 => first | assumption | exact StrsAre.nil); intro c' t' ys' acc' n' u' h' tk' I' oI' hc' hY' hD' hp' F' N' hk' hl'; (try simp only [List.length_nil, Nat.zero_add] at hk'); (have hD9 := neN hD'); (try k_sweep); rotate_left; intro u' v' ys' n' h' tk' acc' ha' hl' hn' hY' F' N'; (try simp only [List.length_nil, Nat.zero_add] at hl'); (try k_sweep); rotate_right))
  k_with "SearchPost" => (first
    | (refine search_ret ?_)
    | (refine' search_next ?zqh ?zqF ?zqN ?zqo; (case zqF => k_asm); (case zqN => k_asm); (case zqo => k_all); (case zqh => first | exact fun q => q | exact fun q => Bool.noConfusion (q.1.symm.trans (by assumption)) | exact fun q => Bool.noConfusion (q.2.symm.trans (by assumption)))))
  k_with "exec For Name Name cons nil" => (k_here; (rename Fr _ _ _ _ => lF'); (with_unfolding_all refine' For_invVF lF' ?zqk1 ?zqk2 ?_; (case zqk1 => exact rfl); (case zqk2 => exact rfl); k_whole))
  k_with "exec For Name Attribute cons nil" => (k_here; (rename Fr _ _ _ _ => lF'); (with_unfolding_all refine' For_invVF lF' ?zqk1 ?zqk2 ?_; (case zqk1 => exact rfl); (case zqk2 => exact rfl); k_whole))
  k_with "call builtin:len" => (k_here; (with_reducible show wpAny _ _ (call (Value.builtin "len") [Value.str _ _]) _ _ _); k_dflt (refine len_str (by omega) ?_))
  k_with "call builtin:len" => (k_here; (with_reducible show wpAny _ _ (call (Value.builtin "len") [Value.ref _]) _ _ _); k_dflt (refine' len_strsA ?zqk1 ?zqk2 ?zqk3 ?_; (case zqk1 => is_list); (case zqk2 => assumption); (case zqk3 => first | assumption | omega); k_whole))
  k_with "GenPost" => (k_here; (rename News _ _ _ _ => nE'); (try simp only [List.push_toArray] at nE'); k_dflt (first
    | (refine' grow_hit ?zqF ?zqN ?zqf ?zqY ?zqD ?zqo ?zqm; (case zqF => k_asm); (case zqN => k_asm); (case zqY => assumption); (case zqD => assumption); (case zqo => first | assumption | k_all); (case zqm => (intro z9 h8 h9; simp only [if_neg h8, if_neg h9])); (case zqf => exact growM_hit (by assumption) (by assumption)))
    | (refine' grow_miss ?zqF ?zqN ?zqf ?zqY ?zqD ?zqo ?zqm; (case zqF => k_asm); (case zqN => k_asm); (case zqY => assumption); (case zqD => assumption); (case zqo => first | assumption | k_all); (case zqm => (intro z9 h8 h9; simp only [if_neg h8, if_neg h9])); (case zqf => first | exact rfl | exact growM_miss1 (by assumption) | exact growM_miss2 (by assumption)))))
  k_with "call builtin:list.append" => (k_here; (with_reducible show wpAny _ _ (call (Value.builtin _) [Value.ref _, _]) _ _ _); k_dflt (refine' append_K ?zqk1 ?zqk2 ?zqk3 ?_ ?zqz; (case zqk1 => k_asm); (case zqk2 => k_asm); (case zqk3 => k_upd); (case zqz => exact append_room (by omega)); k_whole); intro h' F' N'; (try k_sweep))
  k_with "call builtin:list.index" => ((with_reducible show wpAny _ _ (call (Value.builtin _) [Value.ref _, Value.str _ _]) _ _ _); refine index_strs (by is_list) (by assumption) (by assumption) (by assumption) ?_)
  trivial
section
variable {w : World} {dp un : Nat} {gd : Option (List Code)} {cn : Str} {cs : Scope} {a : Addr} {ccd : Value} {cl : List (Str × Addr)} {outer : List Env} {A₀ : Around} {base h₀ : Heap} {L : Addr} {m : Str → Option Value} {s : Shared} {Q E : Value → Shared → Prop}
  {mean : ExcName → Option Value} {mg mb : Str → Option Value} {loose : List Str}
set_option maxHeartbeats 8000000 in
theorem means_some 
    {l : Addr} {vs : List Value} {n : Nat} {ch : List Str} {x : Str} {tx : Tok}
    (hK : ∀ h : Heap, (top.heap_1 w.params).In h → True)
    (B : Below A₀ base outer h₀) (F : Fr h₀ L s.heap m) (X : (top.heap_1 w.params).In h₀)
    (T : Top hd.view_39 loose mean mg mb h₀) (hk : cs.kind = .function)
    (hd1 : dp + 5 < recursionLimit) (hu : un + 40 < cLine)
    (ho : s.heap.get? l = some (listOf vs.toArray n)) (hI : StrsAre vs ch) (hl2 : ch.length ≤ 40) (hx : x.length ≤ 1000) (hch : ∀ c ∈ ch, c.length ≤ 1000)
    (ret : ∀ (l' : Addr) (us : List Value) (n' : Nat) (h' : Heap) (tk' : Nat), Kept s.heap h' → h'.get? l' = some (listOf us.toArray n') → s.heap.get? l' = none → StrsAre us (meansF ch (some x)) → Q (.ref l') { s with heap := h', toks := tk' }) :
    wpAny (model PySem.Challenge.rw_nz0469_01.row.prog w) (ktrTop dp un gd cn cs L a ccd cl outer) (call (.ref 204) [.ref l, .str x tx]) Q E s := by
  revert hK; k_fill; intro hK; clear hK
  refine wpAny_call ?_
  k_dflt cell_enter
  rename Kept _ _ => kG
  replace ho := kG _ _ ho
  have hl : Heap.IsList _ l vs.toArray := ⟨_, ho, rfl, n, rfl⟩
  have hw : SearchW (fun c => (x != Str.ofString "") = true ∧ (c == x) = true) := ⟨⟩
  have hg : GrowW (growM x) (Str.ofString "choice") := ⟨growM_short x⟩
  k_steps
  · exact means_end (us := [Value.str _ _]) ret kG (by assumption) (by assumption) (by k_mem) (.cons _ _ .nil) (means_e1 (by assumption) (by assumption) (by assumption))
  · exact means_end ret kG (by assumption) (by assumption) (by k_mem) (by assumption) (means_e2 (by assumption) (by assumption) (by assumption))
  · exact means_end (us := []) ret kG (by assumption) (by assumption) (by k_mem) .nil (means_e3 (by assumption) (by assumption) (by assumption))

set_option maxHeartbeats 8000000 in
theorem means_none 
    {l : Addr} {vs : List Value} {n : Nat} {ch : List Str}
    (hK : ∀ h : Heap, (top.heap_1 w.params).In h → True)
    (B : Below A₀ base outer h₀) (F : Fr h₀ L s.heap m) (X : (top.heap_1 w.params).In h₀)
    (T : Top hd.view_39 loose mean mg mb h₀) (hk : cs.kind = .function)
    (hd1 : dp + 5 < recursionLimit) (hu : un + 40 < cLine)
    (ho : s.heap.get? l = some (listOf vs.toArray n)) (hI : StrsAre vs ch) (hl2 : ch.length ≤ 40)
    (ret : ∀ (l' : Addr) (us : List Value) (n' : Nat) (h' : Heap) (tk' : Nat), Kept s.heap h' → h'.get? l' = some (listOf us.toArray n') → s.heap.get? l' = none → StrsAre us (meansF ch none) → Q (.ref l') { s with heap := h', toks := tk' }) :
    wpAny (model PySem.Challenge.rw_nz0469_01.row.prog w) (ktrTop dp un gd cn cs L a ccd cl outer) (call (.ref 204) [.ref l, .none]) Q E s := by
  revert hK; k_fill; intro hK; clear hK
  refine wpAny_call ?_
  k_dflt cell_enter
  rename Kept _ _ => kG
  replace ho := kG _ _ ho
  have hl : Heap.IsList _ l vs.toArray := ⟨_, ho, rfl, n, rfl⟩
  have hw : SearchW (fun _ => False) := ⟨⟩
  have hg : GrowW (fun _ => []) (Str.ofString "choice") := ⟨fun _ => by simp⟩
  k_steps
  · exact means_end ret kG (by assumption) (by assumption) (by k_mem) (by assumption) (means_n2 (by assumption) (by assumption))
  · exact means_end (us := []) ret kG (by assumption) (by assumption) (by k_mem) .nil rfl
end

end
-- part NzDue
section
open PySem PySem.W PyProof.Rows
set_option maxRecDepth 100000
theorem said_NzDue : True := by
  k_with_none
  k_with "k_inst" => (refine' inst_keep ?zqF ?zqh1 ?zqh2; (case zqF => k_asm); (case zqh1 => assumption); (case zqh2 => assumption))
  k_with "no_dict" => (exact ⟨_, Fr.keep (by k_asm) _ _ (by assumption), rfl⟩)
  k_with "cell_enter" => (refine' enterG ?zqk1 ?zqk2 ?zqk3 ?zqk5 ?zqkA ?zqkF ?zqkK ?zqk6 ?zqk7 ?zqk8 ?zqk9 ?zqkB ?_ ?zqc2 ?zqc3 ?zqc4 ?zqc5; (case zqkA => exact rfl); (case zqkF => exact rfl); (case zqkK => assumption); (case zqk1 => k_asm); (case zqk2 => k_asm); (case zqk3 => k_asm); (case zqk5 => k_asm); (case zqk6 => k_is); (case zqk7 => k_is); (case zqk8 => ktr_room); (case zqk9 => exact BindsTo.of_eq rfl); (case zqc5 => decide); (case zqkB => exact locs rfl); (case zqc2 => exact rfl); (case zqc3 => exact rfl); (case zqc4 => exact rfl); k_whole; intro g' L' h' FG' F' N' B' X' T' G'; (try dsimp only); (try k_lift B'); (try k_fold))
  k_with "ktr_enter" => (refine' enterC ?zqk1 ?zqk2 ?zqk3 ?zqk5 ?zqkA ?zqkF ?zqkK ?zqk6 ?zqk7 ?zqk8 ?zqk9 ?zqkB ?zqkD ?_ ?zqc2 ?zqc3 ?zqc4; (case zqkA => exact rfl); (case zqkF => exact rfl); (case zqkK => assumption); (case zqk1 => k_asm); (case zqk2 => k_asm); (case zqk3 => k_asm); (case zqk5 => k_asm); (case zqk6 => k_is); (case zqk7 => k_is); (case zqk8 => ktr_room); (case zqk9 => exact BindsTo.of_eq rfl); (case zqkB => exact rfl); (case zqkD => decide +kernel); (case zqc2 => exact rfl); (case zqc3 => exact rfl); (case zqc4 => exact rfl); k_whole; intro g' L' h' tk' cells' FG' F' N' Y' B' X' T' G'; k_cells Y'; (try simp only [List.cons_append, List.nil_append] at N'); (try dsimp only); (try k_lift B'); (try k_fold))
  k_with "compareOp Eq ref ref" => (k_here; (with_reducible show wpAny _ _ (compareOp CmpOp.Eq (Value.ref _) (Value.ref _)) _ _ _); k_dflt (refine' eq_opts ?zqk1 ?zqk2 ?zqk3 ?zqk4 ?zqk5 ?_; (case zqk1 => is_list); (case zqk2 => first | assumption | exact opts_of_strs (by assumption)); (case zqk3 => is_list); (case zqk4 => first | assumption | exact opts_of_strs (by assumption)); (case zqk5 => ktr_units); k_whole))
  k_with "pyIter ref" => (k_here; k_dflt (refine' iter_searchS ?zqkW ?zqk1 ?zqk2 ?zqk3 ?zqk4 ?zqk5 ?_ ?_; (case zqkW => assumption); (case zqk1 => exact rfl); (case zqk2 => assumption); (case zqk3 => assumption); (case zqk4 => k_asm); (case zqk5 => k_asm); intro c' t' h' tk' I' oI' hc' F' N'; (try k_sweep); rotate_left; intro u' h' tk' hno' F' N'; (try k_sweep); rotate_right))
  k_with "pyIter ref" => (k_here; k_dflt (refine' iter_growS ?zqkW ?zqk1 ?zqk2 ?zqk3 ?zqk4 ?zqk5 ?zqk6 ?_ ?_; (case zqkW => assumption); (case zqk1 => exact rfl); (case zqk2 => assumption); (case zqk3 => assumption); (case zqk4 => k_asm); (case zqk5 => k_asm); (case zqk6 => first | assumption | exact StrsAre.nil); intro c' t' ys' acc' n' u' h' tk' I' oI' hc' hY' hD' hp' F' N' hk' hl'; (try simp only [List.length_nil, Nat.zero_add] at hk'); (have hD9 := neN hD'); (try k_sweep); rotate_left; intro u' v' ys' n' h' tk' acc' ha' hl' hn' hY' F' N'; (try simp only [List.length_nil, Nat.zero_add] at hl'); (try k_sweep); rotate_right))
  k_with "SearchPost" => (first
    | (refine search_ret ?_)
    | (refine' search_next ?zqh ?zqF ?zqN ?zqo; (case zqF => k_asm); (case zqN => k_asm); (case zqo => k_all); (case zqh => first | exact fun q => q | exact fun q => Bool.noConfusion (q.1.symm.trans (by assumption)) | exact fun q => Bool.noConfusion (q.2.symm.trans (by assumption)))))
  k_with "exec For Name Name cons nil" => (k_here; (rename Fr _ _ _ _ => lF'); (with_unfolding_all refine' For_invVF lF' ?zqk1 ?zqk2 ?_; (case zqk1 => exact rfl); (case zqk2 => exact rfl); k_whole))
  k_with "exec For Name Attribute cons nil" => (k_here; (rename Fr _ _ _ _ => lF'); (with_unfolding_all refine' For_invVF lF' ?zqk1 ?zqk2 ?_; (case zqk1 => exact rfl); (case zqk2 => exact rfl); k_whole))
  k_with "call builtin:len" => (k_here; (with_reducible show wpAny _ _ (call (Value.builtin "len") [Value.str _ _]) _ _ _); k_dflt (refine len_str (by omega) ?_))
  k_with "call builtin:len" => (k_here; (with_reducible show wpAny _ _ (call (Value.builtin "len") [Value.ref _]) _ _ _); k_dflt (refine' len_strsA ?zqk1 ?zqk2 ?zqk3 ?_; (case zqk1 => is_list); (case zqk2 => assumption); (case zqk3 => first | assumption | omega); k_whole))
  k_with "GenPost" => (k_here; (rename News _ _ _ _ => nE'); (try simp only [List.push_toArray] at nE'); k_dflt (first
    | (refine' grow_hit ?zqF ?zqN ?zqf ?zqY ?zqD ?zqo ?zqm; (case zqF => k_asm); (case zqN => k_asm); (case zqY => assumption); (case zqD => assumption); (case zqo => first | assumption | k_all); (case zqm => (intro z9 h8 h9; simp only [if_neg h8, if_neg h9])); (case zqf => exact growM_hit (by assumption) (by assumption)))
    | (refine' grow_miss ?zqF ?zqN ?zqf ?zqY ?zqD ?zqo ?zqm; (case zqF => k_asm); (case zqN => k_asm); (case zqY => assumption); (case zqD => assumption); (case zqo => first | assumption | k_all); (case zqm => (intro z9 h8 h9; simp only [if_neg h8, if_neg h9])); (case zqf => first | exact rfl | exact growM_miss1 (by assumption) | exact growM_miss2 (by assumption)))))
  k_with "call builtin:list.append" => (k_here; (with_reducible show wpAny _ _ (call (Value.builtin _) [Value.ref _, _]) _ _ _); k_dflt (refine' append_K ?zqk1 ?zqk2 ?zqk3 ?_ ?zqz; (case zqk1 => k_asm); (case zqk2 => k_asm); (case zqk3 => k_upd); (case zqz => exact append_room (by omega)); k_whole); intro h' F' N'; (try k_sweep))
  k_with "call ref" => (k_here; (with_reducible show wpAny _ _ (call (Value.ref 204) [_, Value.str _ _]) _ _ _); k_dflt (refine' means_some ?zqkH ?zqk1 ?zqk2 ?zqk3 ?zqk5 ?zqkK ?zqkd ?zqku ?zqp0 ?zqp1 ?zqp2 ?zqq0 ?zqq1 ?_; (case zqkH => exact fun _ _ => trivial); (case zqk1 => k_asm); (case zqk2 => k_asm); (case zqk3 => k_asm); (case zqk5 => k_asm); (case zqkK => first | exact rfl | assumption); (case zqkd => ktr_room); (case zqku => ktr_units); (case zqp0 => exact Fr.keep (by k_asm) _ _ (by assumption)); (case zqp1 => assumption); (case zqp2 => assumption); (case zqq0 => exact short_of (by assumption) (by assumption)); (case zqq1 => assumption); k_whole; intro l' us' n' h' tk' kp' ho' hf' hs'; (have hz' := hs'.len_eq); (have hy' := means_len hs'); (have N' := news_add (by k_asm) (news_kept (by k_asm) kp') ho' hf'); (have F' := Fr.keeps (by k_asm) kp'); (try k_sweep)))
  k_with "call ref" => (k_here; (with_reducible show wpAny _ _ (call (Value.ref 204) [_, Value.none]) _ _ _); k_dflt (refine' means_none ?zqkH ?zqk1 ?zqk2 ?zqk3 ?zqk5 ?zqkK ?zqkd ?zqku ?zqp0 ?zqp1 ?zqp2  ?_; (case zqkH => exact fun _ _ => trivial); (case zqk1 => k_asm); (case zqk2 => k_asm); (case zqk3 => k_asm); (case zqk5 => k_asm); (case zqkK => first | exact rfl | assumption); (case zqkd => ktr_room); (case zqku => ktr_units); (case zqp0 => exact Fr.keep (by k_asm) _ _ (by assumption)); (case zqp1 => assumption); (case zqp2 => assumption);  k_whole; intro l' us' n' h' tk' kp' ho' hf' hs'; (have hz' := hs'.len_eq); (have hy' := means_len hs'); (have N' := news_add (by k_asm) (news_kept (by k_asm) kp') ho' hf'); (have F' := Fr.keeps (by k_asm) kp'); (try k_sweep)))
  k_with "pyIter ref" => (k_here; k_dflt (refine' iter_rebindO ?zqkW ?zqk1 ?zqk2 ?zqk3 ?zqk4 ?zqk7 ?zqk5 ?zqk6 ?zqk8 ?_ ?_ ?_; (case zqkW => assumption); (case zqk1 => exact rfl); (case zqk2 => assumption); (case zqk3 => assumption); (case zqk4 => k_asm); (case zqk7 => exact rfl); (case zqk5 => k_asm); (case zqk6 => first | assumption | exact StrsAre.nil); (case zqk8 => decide); intro D' ys' acc' n' h' tk' I' oI' hY' hD' hp' F' N' hk' hl'; (try simp only [List.length_nil, Nat.zero_add] at hk'); (have hD9 := neN hD'); (try k_sweep); rotate_left; intro c' t' D' ys' acc' n' h' tk' I' oI' hc' hY' hD' hp' F' N' hk' hl'; (try simp only [List.length_nil, Nat.zero_add] at hk'); (have hD9 := neN hD'); (try k_sweep); rotate_left; intro u' D' ys' n' h' tk' acc' ha' hl' hn' hY' F' N'; (try simp only [List.length_nil, Nat.zero_add] at hl'); (try k_sweep); rotate_left))
  k_with "binaryOp Add ref ref" => (k_here; k_dflt (refine' add_strs ?zqk1 ?zqk2 ?zqk3 ?zqk4 ?zqk5 ?_; (case zqk1 => k_asm); (case zqk2 => k_asm); (case zqk3 => is_list); (case zqk4 => is_list); (case zqk5 => first | assumption | omega); k_whole; intro D' h' F' N' l1; (try k_lt l1); (try k_sweep)))
  k_with "compareOp NotEq ref ref" => (k_here; (with_reducible show wpAny _ _ (compareOp CmpOp.NotEq (Value.ref _) (Value.ref _)) _ _ _); k_dflt (refine' ne_opts ?zqk1 ?zqk2 ?zqk3 ?zqk4 ?zqk5 ?_; (case zqk1 => is_list); (case zqk2 => first | assumption | exact opts_of_strs (by assumption) | exact OptsAre.nil); (case zqk3 => is_list); (case zqk4 => first | assumption | exact opts_of_strs (by assumption) | exact OptsAre.nil); (case zqk5 => ktr_units); k_whole))
  k_with "exec For Name Call cons nil" => (k_here; (rename Fr _ _ _ _ => lF'); (with_unfolding_all refine' For_invVF lF' ?zqk1 ?zqk2 ?_; (case zqk1 => exact rfl); (case zqk2 => exact rfl); k_whole))
  k_with "pyIter ref" => (k_here; k_dflt (refine' iter_textN ?zqkW ?zqk1 ?zqk2 ?zqk3 ?zqk5 ?zqk7 ?zqk6 ?_ ?_; (case zqkW => assumption); (case zqk1 => exact rfl); (case zqk2 => assumption); (case zqk3 => first | assumption | omega); (case zqk5 => k_asm); (case zqk7 => exact rfl); (case zqk6 => k_asm); intro i' t' acc' ta' h' tk' I' oI' hi' hlen' hp' F' N'; (try k_sweep); rotate_left; intro u' t' acc' h' tk' ha' hlen' F' N'; (try k_sweep); rotate_right))
  k_with "binaryOp Add str str" => (k_here; (with_reducible show wpAny _ _ (binaryOp Operator.Add (Value.str _ _) (Value.str _ _)) _ _ _); k_dflt (refine' add_strL ?zqz ?_; (case zqz => first | assumption | omega); k_whole; intro t' tk' hl9))
  k_with "subscriptTail Name Name ref int" => (k_here; (with_reducible show wpAny _ _ (subscriptTail _ _ (Value.ref _) (Value.int _ _)) _ _ _); k_dflt (refine' item_strsB ?zqk1 ?zqk2 ?zqk3 ?zqk4 ?zqk5 ?zqk6 ?_ ?zqk7; (case zqk1 => is_list); (case zqk2 => assumption); (case zqk3 => assumption); (case zqk4 => first | assumption | omega); (case zqk5 => first | assumption | omega); (case zqk6 => first | assumption | omega); (case zqk7 => with_unfolding_all rfl); k_whole; intro t' hg9))
  k_with "call builtin:len" => (k_here; (with_reducible show wpAny _ _ (call (Value.builtin "len") [Value.ref _]) _ _ _); k_dflt (refine' len_opts ?zqk1 ?zqk2 ?zqk3 ?_; (case zqk1 => is_list); (case zqk2 => assumption); (case zqk3 => first | assumption | omega); k_whole))
  k_with "GenPost" => (k_here; k_dflt (first
    | (refine' text_next ?zqF ?zqm ?zqN ?zqo ?zqs ?zqe; (case zqF => k_asm); (case zqm => exact rfl); (case zqN => k_asm); (case zqo => first | assumption | k_all); (case zqs => (intro z9 h8 h9; simp only [if_neg h8, if_neg h9])); (case zqe => with_reducible (first | exact said_pos (by omega) | exact said_zero (by omega))))
    | (refine' rebind_next ?zqF ?zqm ?zqN ?zqe ?zqY ?zqD ?zqo ?zqs; (case zqF => k_asm); (case zqm => exact rfl); (case zqN => k_asm); (case zqY => exact StrsAre.append' (by assumption) (by assumption)); (case zqe => exact List.forall_mem_cons.mpr ⟨by k_mem, List.forall_mem_cons.mpr ⟨by k_mem, List.forall_mem_nil _⟩⟩); (case zqD => (refine neN ?_; omega)); (case zqo => first | assumption | k_all); (case zqs => (intro z9 h8 h9; simp only [if_neg h8, if_neg h9])))))
  k_with "call builtin:list.index" => ((with_reducible show wpAny _ _ (call (Value.builtin _) [Value.ref _, Value.str _ _]) _ _ _); refine index_strs (by is_list) (by assumption) (by assumption) (by assumption) ?_)
  trivial
section
variable {w : World} {dp un : Nat} {gd : Option (List Code)} {cn : Str} {cs : Scope} {a : Addr} {ccd : Value} {cl : List (Str × Addr)} {outer : List Env} {A₀ : Around} {base h₀ : Heap} {L : Addr} {m : Str → Option Value} {s : Shared} {Q E : Value → Shared → Prop}
  {mean : ExcName → Option Value} {mg mb : Str → Option Value} {loose : List Str}
set_option maxHeartbeats 8000000 in
theorem due_call 
    {lc lt : Addr} {vs us : List Value} {n1 n2 : Nat} {ch : List Str} {os : List (Option Str)} {sort : Int} {ts : Tok} {sev : Bool}
    (hK : ∀ h : Heap, (top.heap_1 w.params).In h → True)
    (B : Below A₀ base outer h₀) (F : Fr h₀ L s.heap m) (X : (top.heap_1 w.params).In h₀)
    (T : Top hd.view_39 loose mean mg mb h₀) (hk : cs.kind = .function)
    (hd1 : dp + 10 < recursionLimit) (hu : un + 80 < cLine)
    (hc : s.heap.get? lc = some (listOf vs.toArray n1)) (hI : StrsAre vs ch) (hl2 : ch.length ≤ 40) (hl1 : 0 < ch.length) (hS : ShortAll ch)
    (ht : s.heap.get? lt = some (listOf us.toArray n2)) (hJ : OptsAre us os) (hl3 : os.length ≤ 40) (hos : TextsShort os)
    (retL : ∀ (l' : Addr) (us' : List Value) (n' : Nat) (ss : List Str) (h' : Heap) (tk' : Nat), dueF ch sort os sev = .list ss → Kept s.heap h' → h'.get? l' = some (listOf us'.toArray n') → s.heap.get? l' = none → StrsAre us' ss → Q (.ref l') { s with heap := h', toks := tk' })
    (retM : ∀ (msg : Str) (t : Tok) (h' : Heap) (tk' : Nat), dueF ch sort os sev = .msg msg → Kept s.heap h' → Q (.str msg t) { s with heap := h', toks := tk' }) :
    wpAny (model PySem.Challenge.rw_nz0469_01.row.prog w) (ktrTop dp un gd cn cs L a ccd cl outer) (call (.ref 211) [.ref lc, .int sort ts, .ref lt, .bool sev]) Q E s := by
  revert hK; k_fill; intro hK; clear hK
  refine wpAny_call ?_
  k_dflt cell_enter
  rename Kept _ _ => kG
  replace hc := kG _ _ hc
  replace ht := kG _ _ ht
  have hl : Heap.IsList _ lc vs.toArray := ⟨_, hc, rfl, n1, rfl⟩
  have hm : Heap.IsList _ lt us.toArray := ⟨_, ht, rfl, n2, rfl⟩
  have hch := hS.of
  have e1 : (Str.ofString ", ").length = 2 := by decide
  have e2 : (Str.ofString "").length = 0 := by decide
  have e3 : (Str.ofString "‘").length = 1 := by decide
  have e4 : (Str.ofString "’").length = 1 := by decide
  have e5 : (Str.ofString "'arg' should be ").length = 16 := by decide
  have e6 : (Str.ofString "one of ").length = 7 := by decide
  have e7 : (Str.ofString "'arg' should be one of ").length = 23 := by decide
  have hr : RebindW (meansF ch) (Str.ofString "found") := ⟨meansF_short ch⟩
  have hx : TextW (saidStep ch) (Str.ofString "said") := ⟨saidStep_short hch⟩
  k_with "execs cons If cons" => ((with_reducible show wpAny _ _ (execs (Stmt.If _ _ _ _ :: Stmt.If _ _ _ _ :: Stmt.Assign [Expr.Name (Str.ofString "found") _] _ _ :: _) _) _ _ _); k_dflt (refine' join2 (C := sev = true ∨ (sev = false ∧ ¬ os = List.map some ch ∧ (os.length : Int) = 1)) ?jq1 ?jq2 ?_ ?_; (case jq1 => k_asm); (case jq2 => k_asm); rotate_left; intro h' tk' hC' F' N'; (try k_sweep); rotate_right))
  k_with "JoinEnd" => (first | (refine join_ret ?_) | (k_dflt (refine' join_next ?jq1 ?jq2 ?jq3; (case jq2 => k_asm); (case jq3 => k_asm); (case jq1 => first | exact .inl (by assumption) | exact .inr ⟨by assumption, by assumption, by assumption⟩))))
  k_steps
  all_goals first
    | exact due_endL (us' := [Value.str _ _]) retL kG (by assumption) (by assumption) (by k_mem) (.cons _ _ .nil) (by first | exact due_0 (by assumption) | exact due_s (by assumption) (by assumption) (by assumption) (by assumption))
    | exact due_endL retL kG (by assumption) (by assumption) (by k_mem) (by assumption) (due_tf (by assumption) (by assumption) (by first | assumption | exact .inl (by assumption) | exact .inr ⟨by assumption, by assumption, by assumption⟩) (by assumption) (by assumption))
    | exact due_endM retM kG (by assumption) (by with_reducible (first | exact due_1 (by assumption) (by assumption) | exact due_l (by assumption) (by assumption) (by assumption) (by assumption) (by assumption)))
    | exact due_endM retM kG (by assumption) (due_tm (by assumption) (by assumption) (by first | assumption | exact .inl (by assumption) | exact .inr ⟨by assumption, by assumption, by assumption⟩) (by assumption) (by assumption) (by with_reducible (first | exact said_1 (by assumption) (by assumption) | exact said_2 (by assumption) (by assumption))))
end

end
-- part NzDue2
section
open PySem PySem.W PyProof.Rows
set_option maxRecDepth 100000
section
variable {w : World} {dp un : Nat} {gd : Option (List Code)} {cn : Str} {cs : Scope} {a : Addr} {ccd : Value} {cl : List (Str × Addr)} {outer : List Env} {A₀ : Around} {base h₀ : Heap} {L : Addr} {m : Str → Option Value} {s : Shared} {Q E : Value → Shared → Prop}
  {mean : ExcName → Option Value} {mg mb : Str → Option Value} {loose : List Str}
theorem due_list
    {lc lt : Addr} {vs us : List Value} {n1 n2 : Nat} {ch : List Str} {os : List (Option Str)} {sort : Int} {ts : Tok} {sev : Bool} {ss : List Str}
    (hK : ∀ h : Heap, (top.heap_1 w.params).In h → True)
    (B : Below A₀ base outer h₀) (F : Fr h₀ L s.heap m) (X : (top.heap_1 w.params).In h₀)
    (T : Top hd.view_39 loose mean mg mb h₀) (hk : cs.kind = .function)
    (hd1 : dp + 10 < recursionLimit) (hu : un + 80 < cLine)
    (hc : s.heap.get? lc = some (listOf vs.toArray n1)) (hI : StrsAre vs ch) (hl2 : ch.length ≤ 40) (hl1 : 0 < ch.length) (hS : ShortAll ch)
    (ht : s.heap.get? lt = some (listOf us.toArray n2)) (hJ : OptsAre us os) (hl3 : os.length ≤ 40) (hos : TextsShort os) (hD : dueF ch sort os sev = .list ss)
    (ret : ∀ (l' : Addr) (us' : List Value) (n' : Nat) (h' : Heap) (tk' : Nat), Kept s.heap h' → h'.get? l' = some (listOf us'.toArray n') → s.heap.get? l' = none → StrsAre us' ss → Q (.ref l') { s with heap := h', toks := tk' }) :
    wpAny (model PySem.Challenge.rw_nz0469_01.row.prog w) (ktrTop dp un gd cn cs L a ccd cl outer) (call (.ref 211) [.ref lc, .int sort ts, .ref lt, .bool sev]) Q E s :=
  due_call hK B F X T hk hd1 hu hc hI hl2 hl1 hS ht hJ hl3 hos (fun l' us' n' ss' h' tk' e k g1 g2 hs => by
    have e' : ss' = ss := by rw [hD] at e; cases e; rfl
    subst e'; exact ret l' us' n' h' tk' k g1 g2 hs) (fun msg t h' tk' e _ => by rw [hD] at e; cases e)
theorem due_msg
    {lc lt : Addr} {vs us : List Value} {n1 n2 : Nat} {ch : List Str} {os : List (Option Str)} {sort : Int} {ts : Tok} {sev : Bool} {msg : Str}
    (hK : ∀ h : Heap, (top.heap_1 w.params).In h → True)
    (B : Below A₀ base outer h₀) (F : Fr h₀ L s.heap m) (X : (top.heap_1 w.params).In h₀)
    (T : Top hd.view_39 loose mean mg mb h₀) (hk : cs.kind = .function)
    (hd1 : dp + 10 < recursionLimit) (hu : un + 80 < cLine)
    (hc : s.heap.get? lc = some (listOf vs.toArray n1)) (hI : StrsAre vs ch) (hl2 : ch.length ≤ 40) (hl1 : 0 < ch.length) (hS : ShortAll ch)
    (ht : s.heap.get? lt = some (listOf us.toArray n2)) (hJ : OptsAre us os) (hl3 : os.length ≤ 40) (hos : TextsShort os) (hD : dueF ch sort os sev = .msg msg)
    (ret : ∀ (t : Tok) (h' : Heap) (tk' : Nat), Kept s.heap h' → Q (.str msg t) { s with heap := h', toks := tk' }) :
    wpAny (model PySem.Challenge.rw_nz0469_01.row.prog w) (ktrTop dp un gd cn cs L a ccd cl outer) (call (.ref 211) [.ref lc, .int sort ts, .ref lt, .bool sev]) Q E s :=
  due_call hK B F X T hk hd1 hu hc hI hl2 hl1 hS ht hJ hl3 hos (fun l' us' n' ss' h' tk' e _ _ _ _ => by rw [hD] at e; cases e)
    (fun msg' t h' tk' e k => by
      have e' : msg' = msg := by rw [hD] at e; cases e; rfl
      subst e'; exact ret t h' tk' k)
theorem due_tx' {ch : List Str} {sort : Int} {os : List (Option Str)} {sev : Bool} {D : Due} (e : dueTexts ch os sev = D) (h0 : sort ≠ 0) (h : sort ≠ 1) : dueF ch sort os sev = D := (due_tx h0 h).trans e
end

end
-- part NzArg
section
open PySem PySem.W PyProof.Rows
set_option maxRecDepth 100000
theorem said_NzArg : True := by
  k_with_none
  k_with "k_inst" => (refine' inst_keep ?zqF ?zqh1 ?zqh2; (case zqF => k_asm); (case zqh1 => assumption); (case zqh2 => assumption))
  k_with "no_dict" => (exact ⟨_, Fr.keep (by k_asm) _ _ (by assumption), rfl⟩)
  k_with "cell_enter" => (refine' enterG ?zqk1 ?zqk2 ?zqk3 ?zqk5 ?zqkA ?zqkF ?zqkK ?zqk6 ?zqk7 ?zqk8 ?zqk9 ?zqkB ?_ ?zqc2 ?zqc3 ?zqc4 ?zqc5; (case zqkA => exact rfl); (case zqkF => exact rfl); (case zqkK => assumption); (case zqk1 => k_asm); (case zqk2 => k_asm); (case zqk3 => k_asm); (case zqk5 => k_asm); (case zqk6 => k_is); (case zqk7 => k_is); (case zqk8 => ktr_room); (case zqk9 => exact BindsTo.of_eq rfl); (case zqc5 => decide); (case zqkB => exact locs rfl); (case zqc2 => exact rfl); (case zqc3 => exact rfl); (case zqc4 => exact rfl); k_whole; intro g' L' h' FG' F' N' B' X' T' G'; (try dsimp only); (try k_lift B'); (try k_fold))
  k_with "ktr_enter" => (refine' enterC ?zqk1 ?zqk2 ?zqk3 ?zqk5 ?zqkA ?zqkF ?zqkK ?zqk6 ?zqk7 ?zqk8 ?zqk9 ?zqkB ?zqkD ?_ ?zqc2 ?zqc3 ?zqc4; (case zqkA => exact rfl); (case zqkF => exact rfl); (case zqkK => assumption); (case zqk1 => k_asm); (case zqk2 => k_asm); (case zqk3 => k_asm); (case zqk5 => k_asm); (case zqk6 => k_is); (case zqk7 => k_is); (case zqk8 => ktr_room); (case zqk9 => exact BindsTo.of_eq rfl); (case zqkB => exact rfl); (case zqkD => decide +kernel); (case zqc2 => exact rfl); (case zqc3 => exact rfl); (case zqc4 => exact rfl); k_whole; intro g' L' h' tk' cells' FG' F' N' Y' B' X' T' G'; k_cells Y'; (try simp only [List.cons_append, List.nil_append] at N'); (try dsimp only); (try k_lift B'); (try k_fold))
  k_with "call builtin:list.index" => ((with_reducible show wpAny _ _ (call (Value.builtin _) [Value.ref _, Value.str _ _]) _ _ _); refine index_strs (by is_list) (by assumption) (by assumption) (by assumption) ?_)
  trivial
structure VecKind (x : Addr) (ks : Str) : Prop where
theorem kind_guard {M : Model} {A : Around} {E : Value → Shared → Prop} {Q : Value → Shared → Prop} {s : Shared} {f xc sv : Value} {xa : Addr} {ks : Str} (_ : VecKind xa ks) (h : wpAny M A (call f [xc, .ref xa, sv]) Q E s) : wpAny M A (call f [xc, .ref xa, sv]) Q E s := h
structure MadeNul (w : World) (h h' : Heap) (x : Addr) : Prop where
  kept : Kept h h'
  own : ∃ dx a1 a2 c1 n, h'.get? x = some (instObj 70 dx) ∧ h'.get? dx = some (dictOf (nulD w a1 a2 c1) n) ∧ h.get? x = none ∧ h.get? dx = none
theorem nul_endM {w : World} {h₀ g h' : Heap} {L' x dx : Addr} {m' : Str → Option Value} {news : List (Addr × Obj)} {a1 a2 c1 : Tok} {n : Nat} (kG : Kept h₀ g) (F : Fr g L' h' m') (N : News g L' h' news) (m1 : (x, instObj 70 dx) ∈ news) (m2 : (dx, dictOf (nulD w a1 a2 c1) n) ∈ news) : MadeNul w h₀ h' x :=
  have h1 := N _ m1
  have h2 := N _ m2
  ⟨kept_trans kG F.keep, dx, a1, a2, c1, n, h1.1, h2.1, new_of kG h1.2.2, new_of kG h2.2.2⟩
section
variable {w : World} {dp un : Nat} {gd : Option (List Code)} {cn : Str} {cs : Scope} {a : Addr} {ccd : Value} {cl : List (Str × Addr)} {outer : List Env} {A₀ : Around} {base h₀ : Heap} {L : Addr} {m : Str → Option Value} {s : Shared} {Q E : Value → Shared → Prop}
  {mean : ExcName → Option Value} {mg mb : Str → Option Value} {loose : List Str}
set_option maxHeartbeats 8000000 in
theorem integer_call 
    {l : Addr} {vs : List Value} {n : Nat}
    (hK : ∀ h : Heap, (top.heap_1 w.params).In h → True)
    (B : Below A₀ base outer h₀) (F : Fr h₀ L s.heap m) (X : (top.heap_1 w.params).In h₀)
    (T : Top hd.view_39 loose mean mg mb h₀) (hk : cs.kind = .function)
    (hd1 : dp + 5 < recursionLimit) (hu : un + 40 < cLine)
    (ho : s.heap.get? l = some (listOf vs.toArray n)) (hl2 : vs.length ≤ 40)
    (ret : ∀ (x l' : Addr) (h' : Heap) (tk' : Nat), MadeVec w s.heap h' x (Str.ofString "integer") l' → MadeList s.heap h' l' vs.toArray → Q (.ref x) { s with heap := h', toks := tk' }) :
    wpAny (model PySem.Challenge.rw_nz0469_01.row.prog w) (ktrTop dp un gd cn cs L a ccd cl outer) (call (.ref 117) [.ref l]) Q E s := by
  revert hK; k_fill; intro hK; clear hK
  refine wpAny_call ?_
  k_dflt cell_enter
  rename Kept _ _ => kG
  replace ho := kG _ _ ho
  have hl : Heap.IsList _ l vs.toArray := ⟨_, ho, rfl, n, rfl⟩
  k_steps
  exact ret _ _ _ _ (vec_end kG (by assumption) (by assumption)) (list_end kG (by assumption))

set_option maxHeartbeats 8000000 in
theorem null_call 
    (hK : ∀ h : Heap, (top.heap_1 w.params).In h → True)
    (B : Below A₀ base outer h₀) (F : Fr h₀ L s.heap m) (X : (top.heap_1 w.params).In h₀)
    (T : Top hd.view_39 loose mean mg mb h₀) (hk : cs.kind = .function)
    (hd1 : dp + 5 < recursionLimit) (hu : un + 40 < cLine)
    (ret : ∀ (x : Addr) (h' : Heap) (tk' : Nat), MadeNul w s.heap h' x → Q (.ref x) { s with heap := h', toks := tk' }) :
    wpAny (model PySem.Challenge.rw_nz0469_01.row.prog w) (ktrTop dp un gd cn cs L a ccd cl outer) (call (.ref 110) []) Q E s := by
  revert hK; k_fill; intro hK; clear hK
  refine wpAny_call ?_
  k_dflt cell_enter
  rename Kept _ _ => kG
  k_steps
  exact ret _ _ _ (nul_endM kG (by assumption) (by assumption) (by k_mem) (by k_mem))
end

end
-- part NzChosenA
section
open PySem PySem.W PyProof.Rows
set_option maxRecDepth 100000
theorem said_NzChosenA : True := by
  k_with_none
  k_with "k_inst" => (refine' inst_keep ?zqF ?zqh1 ?zqh2; (case zqF => k_asm); (case zqh1 => assumption); (case zqh2 => assumption))
  k_with "no_dict" => (exact ⟨_, Fr.keep (by k_asm) _ _ (by assumption), rfl⟩)
  k_with "cell_enter" => (refine' enterG ?zqk1 ?zqk2 ?zqk3 ?zqk5 ?zqkA ?zqkF ?zqkK ?zqk6 ?zqk7 ?zqk8 ?zqk9 ?zqkB ?_ ?zqc2 ?zqc3 ?zqc4 ?zqc5; (case zqkA => exact rfl); (case zqkF => exact rfl); (case zqkK => assumption); (case zqk1 => k_asm); (case zqk2 => k_asm); (case zqk3 => k_asm); (case zqk5 => k_asm); (case zqk6 => k_is); (case zqk7 => k_is); (case zqk8 => ktr_room); (case zqk9 => exact BindsTo.of_eq rfl); (case zqc5 => decide); (case zqkB => exact locs rfl); (case zqc2 => exact rfl); (case zqc3 => exact rfl); (case zqc4 => exact rfl); k_whole; intro g' L' h' FG' F' N' B' X' T' G'; (try dsimp only); (try k_lift B'); (try k_fold))
  k_with "ktr_enter" => (refine' enterC ?zqk1 ?zqk2 ?zqk3 ?zqk5 ?zqkA ?zqkF ?zqkK ?zqk6 ?zqk7 ?zqk8 ?zqk9 ?zqkB ?zqkD ?_ ?zqc2 ?zqc3 ?zqc4; (case zqkA => exact rfl); (case zqkF => exact rfl); (case zqkK => assumption); (case zqk1 => k_asm); (case zqk2 => k_asm); (case zqk3 => k_asm); (case zqk5 => k_asm); (case zqk6 => k_is); (case zqk7 => k_is); (case zqk8 => ktr_room); (case zqk9 => exact BindsTo.of_eq rfl); (case zqkB => exact rfl); (case zqkD => decide +kernel); (case zqc2 => exact rfl); (case zqc3 => exact rfl); (case zqc4 => exact rfl); k_whole; intro g' L' h' tk' cells' FG' F' N' Y' B' X' T' G'; k_cells Y'; (try simp only [List.cons_append, List.nil_append] at N'); (try dsimp only); (try k_lift B'); (try k_fold))
  k_with "compareOp Eq ref ref" => (k_here; (with_reducible show wpAny _ _ (compareOp CmpOp.Eq (Value.ref _) (Value.ref _)) _ _ _); k_dflt (refine' eq_opts ?zqk1 ?zqk2 ?zqk3 ?zqk4 ?zqk5 ?_; (case zqk1 => is_list); (case zqk2 => first | assumption | exact opts_of_strs (by assumption)); (case zqk3 => is_list); (case zqk4 => first | assumption | exact opts_of_strs (by assumption)); (case zqk5 => ktr_units); k_whole))
  k_with "exec For Name Attribute cons nil" => (k_here; (rename Fr _ _ _ _ => lF'); (with_unfolding_all refine' For_invVF lF' ?zqk1 ?zqk2 ?_; (case zqk1 => exact rfl); (case zqk2 => exact rfl); k_whole))
  k_with "call builtin:len" => (k_here; (with_reducible show wpAny _ _ (call (Value.builtin "len") [Value.str _ _]) _ _ _); k_dflt (refine len_str (by omega) ?_))
  k_with "call builtin:len" => (k_here; (with_reducible show wpAny _ _ (call (Value.builtin "len") [Value.ref _]) _ _ _); k_dflt (refine' len_strsA ?zqk1 ?zqk2 ?zqk3 ?_; (case zqk1 => is_list); (case zqk2 => assumption); (case zqk3 => first | assumption | omega); k_whole))
  k_with "call builtin:list.append" => (k_here; (with_reducible show wpAny _ _ (call (Value.builtin _) [Value.ref _, _]) _ _ _); k_dflt (refine' append_K ?zqk1 ?zqk2 ?zqk3 ?_ ?zqz; (case zqk1 => k_asm); (case zqk2 => k_asm); (case zqk3 => k_upd); (case zqz => exact append_room (by omega)); k_whole); intro h' F' N'; (try k_sweep))
  k_with "binaryOp Add str str" => (k_here; (with_reducible show wpAny _ _ (binaryOp Operator.Add (Value.str _ _) (Value.str _ _)) _ _ _); k_dflt (refine' add_strL ?zqz ?_; (case zqz => first | assumption | omega); k_whole; intro t' tk' hl9))
  k_with "call builtin:len" => (k_here; (with_reducible show wpAny _ _ (call (Value.builtin "len") [Value.ref _]) _ _ _); k_dflt (refine' len_opts ?zqk1 ?zqk2 ?zqk3 ?_; (case zqk1 => is_list); (case zqk2 => assumption); (case zqk3 => first | assumption | omega); k_whole))
  k_with "subscriptTail Name Name ref int" => (k_here; (with_reducible show wpAny _ _ (subscriptTail _ _ (Value.ref _) (Value.int _ _)) _ _ _); k_dflt (refine' item_strsB ?zqk1 ?zqk2 ?zqk3 ?zqk4 ?zqk5 ?zqk6 ?_ ?zqk7; (case zqk1 => is_list); (case zqk2 => assumption); (case zqk3 => assumption); (case zqk4 => first | assumption | omega); (case zqk5 => first | assumption | omega); (case zqk6 => first | assumption | omega); (case zqk7 => with_unfolding_all rfl); k_whole; intro t' hg9))
  k_with "exec Raise some none" => (k_here; (with_reducible show wpAny _ _ (exec (Stmt.Raise (some (Expr.Call (Expr.Name _ _) [_] [] _)) none _) _) _ _ _); k_dflt (refine' raise_refusal ?zqk1 ?zqk2 ?zqk3 ?zqk4 ?zqk5 ?zqk6 ?zqk7 ?zqk8 ?_ ?zqk9 ?zqk10 ?zqk11 ?zqk12; (case zqk1 => k_asm); (case zqk2 => k_asm); (case zqk3 => k_asm); (case zqk4 => k_asm); (case zqk5 => k_is); (case zqk6 => exact rfl); (case zqk7 => exact rfl); (case zqk8 => ktr_room); (case zqk9 => exact rfl); (case zqk10 => exact rfl); (case zqk11 => exact rfl); (case zqk12 => exact rfl); k_whole))
  k_with "RefEnd" => (k_here; k_dflt (refine' RefEnd.intro ?zqF ?_; (case zqF => k_asm); intro h' tk' e' dx' t' od' MR'; (try k_sweep)))
  k_with "leaving ref" => (k_here; (rename MadeRef _ _ _ _ _ _ _ _ => mrX); k_dflt (refine' leave_D ?zqk1 ?zqk2 ?zqk3 mrX ?zqk5 ?_; (case zqk1 => k_asm); (case zqk2 => assumption); (case zqk3 => k_asm); (case zqk5 => exact rfl); k_whole; intro h' B' FL'))
  k_with "pyIter ref" => (k_here; k_dflt (refine' iter_growO ?zqkW ?zqk1 ?zqk2 ?zqk3 ?zqk4 ?zqk5 ?zqk6 ?_ ?_ ?_; (case zqkW => assumption); (case zqk1 => exact rfl); (case zqk2 => assumption); (case zqk3 => assumption); (case zqk4 => k_asm); (case zqk5 => k_asm); (case zqk6 => first | assumption | exact StrsAre.nil); intro ys' acc' n' u' h' tk' I' oI' hY' hD' hp' F' N' hk' hl'; (try simp only [List.length_nil, Nat.zero_add] at hk'); (have hD9 := neN hD'); (try k_sweep); rotate_left; intro c' t' ys' acc' n' u' h' tk' I' oI' hc' hY' hD' hp' F' N' hk' hl'; (try simp only [List.length_nil, Nat.zero_add] at hk'); (have hD9 := neN hD'); (try k_sweep); rotate_left; intro u' v' ys' n' h' tk' acc' ha' hl' hn' hY' F' N'; (try simp only [List.length_nil, Nat.zero_add] at hl'); (try k_sweep); rotate_left))
  k_with "GenPost" => (k_here; (rename News _ _ _ _ => nE'); (try simp only [List.push_toArray] at nE'); k_dflt (first
    | (refine' grow_hit ?zqF ?zqN ?zqf ?zqY ?zqD ?zqo ?zqm; (case zqF => k_asm); (case zqN => k_asm); (case zqY => assumption); (case zqD => assumption); (case zqo => first | assumption | k_all); (case zqm => (intro z9 h8 h9; simp only [if_neg h8, if_neg h9])); (case zqf => exact pick_hit (by assumption)))
    | (refine' grow_miss ?zqF ?zqN ?zqf ?zqY ?zqD ?zqo ?zqm; (case zqF => k_asm); (case zqN => k_asm); (case zqY => assumption); (case zqD => assumption); (case zqo => first | assumption | k_all); (case zqm => (intro z9 h8 h9; simp only [if_neg h8, if_neg h9])); (case zqf => first | exact rfl | exact pick_miss (by assumption)))))
  k_with "subscriptTail Attribute Name Name ref int" => (k_here; (with_reducible show wpAny _ _ (subscriptTail _ _ (Value.ref _) (Value.int _ _)) _ _ _); k_dflt (refine' item_strsB ?zqk1 ?zqk2 ?zqk3 ?zqk4 ?zqk5 ?zqk6 ?_ ?zqk7; (case zqk1 => is_list); (case zqk2 => assumption); (case zqk3 => assumption); (case zqk4 => first | assumption | omega); (case zqk5 => first | assumption | omega); (case zqk6 => first | assumption | omega); (case zqk7 => with_unfolding_all rfl); k_whole; intro t' hg9))
  k_with "subscriptTail Attribute Name Constant ref int" => (k_here; (with_reducible show wpAny _ _ (subscriptTail _ _ (Value.ref _) (Value.int _ _)) _ _ _); k_dflt (refine' item_strsB ?zqk1 ?zqk2 ?zqk3 ?zqk4 ?zqk5 ?zqk6 ?_ ?zqk7; (case zqk1 => is_list); (case zqk2 => assumption); (case zqk3 => assumption); (case zqk4 => first | assumption | omega); (case zqk5 => first | assumption | omega); (case zqk6 => first | assumption | omega); (case zqk7 => with_unfolding_all rfl); k_whole; intro t' hg9))
  k_with "call ref" => (k_here; (with_reducible show wpAny _ _ (call (Value.ref 131) _) _ _ _); k_dflt (refine' text_call ?zqkH ?zqk1 ?zqk2 ?zqk3 ?zqk5 ?zqkK ?zqkd ?zqku  ?_; (case zqkH => exact fun _ _ => trivial); (case zqk1 => k_asm); (case zqk2 => k_asm); (case zqk3 => k_asm); (case zqk5 => k_asm); (case zqkK => first | exact rfl | assumption); (case zqkd => ktr_room); (case zqku => ktr_units);  k_whole; intro v' l' t' h' tk' mv' ml'; (have mv9 := vec_from (by k_asm) mv'); (have ml9 := lst_from (by k_asm) ml'); (have kp' := mv'.kept); clear mv' ml'; (have F' := Fr.keeps (by k_asm) kp'); (have N' := news_kept (by k_asm) kp'); (try k_sweep)))
  k_with "call ref" => (k_here; (with_reducible show wpAny _ _ (call (Value.ref 180) _) _ _ _); k_dflt (refine' identical_call ?zqkH ?zqk1 ?zqk2 ?zqk3 ?zqk5 ?zqkK ?zqkd ?zqku ?zqp0 ?zqp1 ?zqp2 ?zqp3 ?zqp4 ?zqp5 ?zqp6 ?zqp7 ?_; (case zqkH => exact fun _ _ => trivial); (case zqk1 => k_asm); (case zqk2 => k_asm); (case zqk3 => k_asm); (case zqk5 => k_asm); (case zqkK => first | exact rfl | assumption); (case zqkd => ktr_room); (case zqku => ktr_units); (case zqp0 => exact Fr.keep (by k_asm) _ _ (by assumption)); (case zqp1 => exact Fr.keep (by k_asm) _ _ (by assumption)); (case zqp2 => exact Fr.keep (by k_asm) _ _ (by assumption)); (case zqp3 => exact Fr.keep (by k_asm) _ _ (by assumption)); (case zqp4 => exact Fr.keep (by k_asm) _ _ (by assumption)); (case zqp5 => exact Fr.keep (by k_asm) _ _ (by assumption)); (case zqp6 => first | assumption | exact opts_of_strs (by assumption)); (case zqp7 => first | assumption | exact opts_of_strs (by assumption)); k_whole; intro h' tk' kp'; (have F' := Fr.keeps (by k_asm) kp'); (have N' := news_kept (by k_asm) kp'); (try k_sweep)))
  k_with "call ref" => (k_here; (with_reducible show wpAny _ _ (call (Value.ref 185) _) _ _ _); k_dflt (refine' place_callB ?zqkH ?zqk1 ?zqk2 ?zqk3 ?zqk5 ?zqkK ?zqkd ?zqku ?zqp0 ?zqp1 ?zqp2 ?_; (case zqkH => exact fun _ _ => trivial); (case zqk1 => k_asm); (case zqk2 => k_asm); (case zqk3 => k_asm); (case zqk5 => k_asm); (case zqkK => first | exact rfl | assumption); (case zqkd => ktr_room); (case zqku => ktr_units); (case zqp0 => exact Fr.keep (by k_asm) _ _ (by assumption)); (case zqp1 => assumption); (case zqp2 => assumption); k_whole; intro t' h' tk' hb9 kp'; (have F' := Fr.keeps (by k_asm) kp'); (have N' := news_kept (by k_asm) kp'); (try k_sweep)))
  k_with "eval ListComp" => (k_here; k_dflt (refine' comp_quote ?zqk0 ?zqk00 ?zqk1 ?zqk2 ?zqk3 ?zqk4 ?zqk5 ?zqk6 ?zqk7 ?_ ?zqk8; (case zqk0 => assumption); (case zqk00 => assumption); (case zqk1 => with_unfolding_all rfl); (case zqk2 => with_unfolding_all rfl); (case zqk3 => decide); (case zqk4 => with_unfolding_all rfl); (case zqk5 => decide); (case zqk6 => with_unfolding_all rfl); (case zqk7 => decide); (case zqk8 => intro _; with_unfolding_all rfl); k_whole))
  k_with "QuoteEnd" => (k_here; k_dflt (refine' QuoteEnd.intro ?zqk1 ?zqk2 ?zqk3 ?zqk4 ?_; (case zqk1 => is_list); (case zqk2 => assumption); (case zqk3 => k_asm); (case zqk4 => k_asm); intro D' ys' h' tk' F' N' hL' hY'; (try k_sweep)))
  k_with "call builtin:str.join" => (k_here; (with_reducible show wpAny _ _ (call (Value.builtin "str.join") [Value.str _ _, Value.ref _]) _ _ _); k_dflt (refine' join_quote ?zqk1 ?zqk2 ?zqk3 ?zqk4 ?_; (case zqk1 => assumption); (case zqk2 => assumption); (case zqk3 => assumption); (case zqk4 => assumption); k_whole; intro t' tk' hq9))
  k_with "last call builtin:str.join" => (k_here; (with_reducible show wpAny _ _ (call (Value.builtin "str.join") [Value.str _ _, Value.ref _]) _ _ _); k_dflt (refine' join_quote ?zqk1 ?zqk2 ?zqk3 ?zqk4 ?_; (case zqk1 => assumption); (case zqk2 => assumption); (case zqk3 => assumption); (case zqk4 => assumption); k_whole; intro t' tk' hq9))
  trivial
section
variable {w : World} {dp un : Nat} {gd : Option (List Code)} {cn : Str} {cs : Scope} {a : Addr} {ccd : Value} {cl : List (Str × Addr)} {outer : List Env} {A₀ : Around} {base h₀ : Heap} {L : Addr} {m : Str → Option Value} {s : Shared} {Q E : Value → Shared → Prop}
  {mean : ExcName → Option Value} {mg mb : Str → Option Value} {loose : List Str}
set_option maxHeartbeats 8000000 in
theorem chosen_null 
    {xc dc lc xa da : Addr} {a1 a2 b1 c1 d1 e1 a3 a4 c3 : Tok} {n1 n2 n3 : Nat} {vs : List Value} {ch : List Str} {sev : Bool}
    (hK : ∀ h : Heap, (top.heap_1 w.params).In h → True)
    (B : Below A₀ base outer h₀) (F : Fr h₀ L s.heap m) (X : (top.heap_1 w.params).In h₀)
    (T : Top hd.view_39 loose mean mg mb h₀) (hk : cs.kind = .function)
    (hd1 : dp + 15 < recursionLimit) (hu : un + 120 < cLine)
    (u1 : s.heap.get? xc = some (instObj 99 dc)) (u2 : s.heap.get? dc = some (dictOf (vecD w (Str.ofString "character") lc a1 a2 b1 c1 d1 e1) n1))
    (ul : s.heap.get? lc = some (listOf vs.toArray n3)) (hI : StrsAre vs ch) (hl2 : ch.length ≤ 40) (hl1 : 0 < ch.length) (hS : ShortAll ch)
    (v1 : s.heap.get? xa = some (instObj 70 da)) (v2 : s.heap.get? da = some (dictOf (nulD w a3 a4 c3) n2))
    (ret : ∀ (x l' : Addr) (t : Tok) (h' : Heap) (tk' : Nat), MadeVec w s.heap h' x (Str.ofString "character") l' → MadeList s.heap h' l' #[.str (ch.getD 0 Str.empty) t] → Q (.ref x) { s with heap := h', toks := tk' }) :
    wpAny (model PySem.Challenge.rw_nz0469_01.row.prog w) (ktrTop dp un gd cn cs L a ccd cl outer) (call (.ref 190) [.ref xc, .ref xa, .bool sev]) Q E s := by
  revert hK; k_fill; intro hK; clear hK
  refine wpAny_call ?_
  k_dflt cell_enter
  rename Kept _ _ => kG
  replace u1 := kG _ _ u1
  replace u2 := kG _ _ u2
  replace v1 := kG _ _ v1
  replace v2 := kG _ _ v2
  replace ul := kG _ _ ul
  have hl : Heap.IsList _ lc vs.toArray := ⟨_, ul, rfl, n3, rfl⟩
  k_steps
  exact vec_ret ret kG (by assumption) (by assumption)

set_option maxHeartbeats 8000000 in
theorem chosen_int 
    {xc xa da la : Addr} {a3 a4 b3 c3 d3 e3 : Tok} {n2 : Nat} {sev : Bool}
    (hK : ∀ h : Heap, (top.heap_1 w.params).In h → True)
    (B : Below A₀ base outer h₀) (F : Fr h₀ L s.heap m) (X : (top.heap_1 w.params).In h₀)
    (T : Top hd.view_39 loose mean mg mb h₀) (hk : cs.kind = .function)
    (hd1 : dp + 15 < recursionLimit) (hu : un + 120 < cLine)
    (v1 : s.heap.get? xa = some (instObj 99 da)) (v2 : s.heap.get? da = some (dictOf (vecD w (Str.ofString "integer") la a3 a4 b3 c3 d3 e3) n2))
    (retE : ∀ (e dx : Addr) (od : Obj) (msg : Str) (t : Tok) (B : Heap) (h' : Heap) (tk' : Nat), msg = Str.ofString "'arg' must be NULL or a character vector" → Flown s.heap h' (envX cn cs L a ccd cl :: outer) e dx od msg t B → E (.ref e) { s with heap := h', toks := tk' }) :
    wpAny (model PySem.Challenge.rw_nz0469_01.row.prog w) (ktrTop dp un gd cn cs L a ccd cl outer) (call (.ref 190) [.ref xc, .ref xa, .bool sev]) Q E s := by
  revert hK; k_fill; intro hK; clear hK
  refine wpAny_call ?_
  k_dflt cell_enter
  rename Kept _ _ => kG
  replace v1 := kG _ _ v1
  replace v2 := kG _ _ v2
  k_steps
  exact retE _ _ _ _ _ _ _ _ rfl (by assumption)
end

end
-- part NzChosen
section
open PySem PySem.W PyProof.Rows
set_option maxRecDepth 100000
theorem said_NzChosen : True := by
  k_with_none
  k_with "k_inst" => (refine' inst_keep ?zqF ?zqh1 ?zqh2; (case zqF => k_asm); (case zqh1 => assumption); (case zqh2 => assumption))
  k_with "no_dict" => (exact ⟨_, Fr.keep (by k_asm) _ _ (by assumption), rfl⟩)
  k_with "cell_enter" => (refine' enterG ?zqk1 ?zqk2 ?zqk3 ?zqk5 ?zqkA ?zqkF ?zqkK ?zqk6 ?zqk7 ?zqk8 ?zqk9 ?zqkB ?_ ?zqc2 ?zqc3 ?zqc4 ?zqc5; (case zqkA => exact rfl); (case zqkF => exact rfl); (case zqkK => assumption); (case zqk1 => k_asm); (case zqk2 => k_asm); (case zqk3 => k_asm); (case zqk5 => k_asm); (case zqk6 => k_is); (case zqk7 => k_is); (case zqk8 => ktr_room); (case zqk9 => exact BindsTo.of_eq rfl); (case zqc5 => decide); (case zqkB => exact locs rfl); (case zqc2 => exact rfl); (case zqc3 => exact rfl); (case zqc4 => exact rfl); k_whole; intro g' L' h' FG' F' N' B' X' T' G'; (try dsimp only); (try k_lift B'); (try k_fold))
  k_with "ktr_enter" => (refine' enterC ?zqk1 ?zqk2 ?zqk3 ?zqk5 ?zqkA ?zqkF ?zqkK ?zqk6 ?zqk7 ?zqk8 ?zqk9 ?zqkB ?zqkD ?_ ?zqc2 ?zqc3 ?zqc4; (case zqkA => exact rfl); (case zqkF => exact rfl); (case zqkK => assumption); (case zqk1 => k_asm); (case zqk2 => k_asm); (case zqk3 => k_asm); (case zqk5 => k_asm); (case zqk6 => k_is); (case zqk7 => k_is); (case zqk8 => ktr_room); (case zqk9 => exact BindsTo.of_eq rfl); (case zqkB => exact rfl); (case zqkD => decide +kernel); (case zqc2 => exact rfl); (case zqc3 => exact rfl); (case zqc4 => exact rfl); k_whole; intro g' L' h' tk' cells' FG' F' N' Y' B' X' T' G'; k_cells Y'; (try simp only [List.cons_append, List.nil_append] at N'); (try dsimp only); (try k_lift B'); (try k_fold))
  k_with "compareOp Eq ref ref" => (k_here; (with_reducible show wpAny _ _ (compareOp CmpOp.Eq (Value.ref _) (Value.ref _)) _ _ _); k_dflt (refine' eq_opts ?zqk1 ?zqk2 ?zqk3 ?zqk4 ?zqk5 ?_; (case zqk1 => is_list); (case zqk2 => first | assumption | exact opts_of_strs (by assumption)); (case zqk3 => is_list); (case zqk4 => first | assumption | exact opts_of_strs (by assumption)); (case zqk5 => ktr_units); k_whole))
  k_with "exec For Name Attribute cons nil" => (k_here; (rename Fr _ _ _ _ => lF'); (with_unfolding_all refine' For_invVF lF' ?zqk1 ?zqk2 ?_; (case zqk1 => exact rfl); (case zqk2 => exact rfl); k_whole))
  k_with "call builtin:len" => (k_here; (with_reducible show wpAny _ _ (call (Value.builtin "len") [Value.str _ _]) _ _ _); k_dflt (refine len_str (by omega) ?_))
  k_with "call builtin:len" => (k_here; (with_reducible show wpAny _ _ (call (Value.builtin "len") [Value.ref _]) _ _ _); k_dflt (refine' len_strsA ?zqk1 ?zqk2 ?zqk3 ?_; (case zqk1 => is_list); (case zqk2 => assumption); (case zqk3 => first | assumption | omega); k_whole))
  k_with "call builtin:list.append" => (k_here; (with_reducible show wpAny _ _ (call (Value.builtin _) [Value.ref _, _]) _ _ _); k_dflt (refine' append_K ?zqk1 ?zqk2 ?zqk3 ?_ ?zqz; (case zqk1 => k_asm); (case zqk2 => k_asm); (case zqk3 => k_upd); (case zqz => exact append_room (by omega)); k_whole); intro h' F' N'; (try k_sweep))
  k_with "binaryOp Add str str" => (k_here; (with_reducible show wpAny _ _ (binaryOp Operator.Add (Value.str _ _) (Value.str _ _)) _ _ _); k_dflt (refine' add_strL ?zqz ?_; (case zqz => first | assumption | omega); k_whole; intro t' tk' hl9))
  k_with "call builtin:len" => (k_here; (with_reducible show wpAny _ _ (call (Value.builtin "len") [Value.ref _]) _ _ _); k_dflt (refine' len_opts ?zqk1 ?zqk2 ?zqk3 ?_; (case zqk1 => is_list); (case zqk2 => assumption); (case zqk3 => first | assumption | omega); k_whole))
  k_with "subscriptTail Name Name ref int" => (k_here; (with_reducible show wpAny _ _ (subscriptTail _ _ (Value.ref _) (Value.int _ _)) _ _ _); k_dflt (refine' item_strsB ?zqk1 ?zqk2 ?zqk3 ?zqk4 ?zqk5 ?zqk6 ?_ ?zqk7; (case zqk1 => is_list); (case zqk2 => assumption); (case zqk3 => assumption); (case zqk4 => first | assumption | omega); (case zqk5 => first | assumption | omega); (case zqk6 => first | assumption | omega); (case zqk7 => with_unfolding_all rfl); k_whole; intro t' hg9))
  k_with "exec Raise some none" => (k_here; (with_reducible show wpAny _ _ (exec (Stmt.Raise (some (Expr.Call (Expr.Name _ _) [_] [] _)) none _) _) _ _ _); k_dflt (refine' raise_refusal ?zqk1 ?zqk2 ?zqk3 ?zqk4 ?zqk5 ?zqk6 ?zqk7 ?zqk8 ?_ ?zqk9 ?zqk10 ?zqk11 ?zqk12; (case zqk1 => k_asm); (case zqk2 => k_asm); (case zqk3 => k_asm); (case zqk4 => k_asm); (case zqk5 => k_is); (case zqk6 => exact rfl); (case zqk7 => exact rfl); (case zqk8 => ktr_room); (case zqk9 => exact rfl); (case zqk10 => exact rfl); (case zqk11 => exact rfl); (case zqk12 => exact rfl); k_whole))
  k_with "RefEnd" => (k_here; k_dflt (refine' RefEnd.intro ?zqF ?_; (case zqF => k_asm); intro h' tk' e' dx' t' od' MR'; (try k_sweep)))
  k_with "leaving ref" => (k_here; (rename MadeRef _ _ _ _ _ _ _ _ => mrX); k_dflt (refine' leave_D ?zqk1 ?zqk2 ?zqk3 mrX ?zqk5 ?_; (case zqk1 => k_asm); (case zqk2 => assumption); (case zqk3 => k_asm); (case zqk5 => exact rfl); k_whole; intro h' B' FL'))
  k_with "pyIter ref" => (k_here; k_dflt (refine' iter_growO ?zqkW ?zqk1 ?zqk2 ?zqk3 ?zqk4 ?zqk5 ?zqk6 ?_ ?_ ?_; (case zqkW => assumption); (case zqk1 => exact rfl); (case zqk2 => assumption); (case zqk3 => assumption); (case zqk4 => k_asm); (case zqk5 => k_asm); (case zqk6 => first | assumption | exact StrsAre.nil); intro ys' acc' n' u' h' tk' I' oI' hY' hD' hp' F' N' hk' hl'; (try simp only [List.length_nil, Nat.zero_add] at hk'); (have hD9 := neN hD'); (try k_sweep); rotate_left; intro c' t' ys' acc' n' u' h' tk' I' oI' hc' hY' hD' hp' F' N' hk' hl'; (try simp only [List.length_nil, Nat.zero_add] at hk'); (have hD9 := neN hD'); (try k_sweep); rotate_left; intro u' v' ys' n' h' tk' acc' ha' hl' hn' hY' F' N'; (try simp only [List.length_nil, Nat.zero_add] at hl'); (try k_sweep); rotate_left))
  k_with "GenPost" => (k_here; (rename News _ _ _ _ => nE'); (try simp only [List.push_toArray] at nE'); k_dflt (first
    | (refine' grow_hit ?zqF ?zqN ?zqf ?zqY ?zqD ?zqo ?zqm; (case zqF => k_asm); (case zqN => k_asm); (case zqY => assumption); (case zqD => assumption); (case zqo => first | assumption | k_all); (case zqm => (intro z9 h8 h9; simp only [if_neg h8, if_neg h9])); (case zqf => exact pick_hit (by assumption)))
    | (refine' grow_miss ?zqF ?zqN ?zqf ?zqY ?zqD ?zqo ?zqm; (case zqF => k_asm); (case zqN => k_asm); (case zqY => assumption); (case zqD => assumption); (case zqo => first | assumption | k_all); (case zqm => (intro z9 h8 h9; simp only [if_neg h8, if_neg h9])); (case zqf => first | exact rfl | exact pick_miss (by assumption)))))
  k_with "subscriptTail Attribute Name Name ref int" => (k_here; (with_reducible show wpAny _ _ (subscriptTail _ _ (Value.ref _) (Value.int _ _)) _ _ _); k_dflt (refine' item_strsB ?zqk1 ?zqk2 ?zqk3 ?zqk4 ?zqk5 ?zqk6 ?_ ?zqk7; (case zqk1 => is_list); (case zqk2 => assumption); (case zqk3 => assumption); (case zqk4 => first | assumption | omega); (case zqk5 => first | assumption | omega); (case zqk6 => first | assumption | omega); (case zqk7 => with_unfolding_all rfl); k_whole; intro t' hg9))
  k_with "subscriptTail Attribute Name Constant ref int" => (k_here; (with_reducible show wpAny _ _ (subscriptTail _ _ (Value.ref _) (Value.int _ _)) _ _ _); k_dflt (refine' item_strsB ?zqk1 ?zqk2 ?zqk3 ?zqk4 ?zqk5 ?zqk6 ?_ ?zqk7; (case zqk1 => is_list); (case zqk2 => assumption); (case zqk3 => assumption); (case zqk4 => first | assumption | omega); (case zqk5 => first | assumption | omega); (case zqk6 => first | assumption | omega); (case zqk7 => with_unfolding_all rfl); k_whole; intro t' hg9))
  k_with "call ref" => (k_here; (with_reducible show wpAny _ _ (call (Value.ref 131) _) _ _ _); k_dflt (refine' text_call ?zqkH ?zqk1 ?zqk2 ?zqk3 ?zqk5 ?zqkK ?zqkd ?zqku  ?_; (case zqkH => exact fun _ _ => trivial); (case zqk1 => k_asm); (case zqk2 => k_asm); (case zqk3 => k_asm); (case zqk5 => k_asm); (case zqkK => first | exact rfl | assumption); (case zqkd => ktr_room); (case zqku => ktr_units);  k_whole; intro v' l' t' h' tk' mv' ml'; (have mv9 := vec_from (by k_asm) mv'); (have ml9 := lst_from (by k_asm) ml'); (have kp' := mv'.kept); clear mv' ml'; (have F' := Fr.keeps (by k_asm) kp'); (have N' := news_kept (by k_asm) kp'); (try k_sweep)))
  k_with "call ref" => (k_here; (with_reducible show wpAny _ _ (call (Value.ref 180) _) _ _ _); k_dflt (refine' identical_call ?zqkH ?zqk1 ?zqk2 ?zqk3 ?zqk5 ?zqkK ?zqkd ?zqku ?zqp0 ?zqp1 ?zqp2 ?zqp3 ?zqp4 ?zqp5 ?zqp6 ?zqp7 ?_; (case zqkH => exact fun _ _ => trivial); (case zqk1 => k_asm); (case zqk2 => k_asm); (case zqk3 => k_asm); (case zqk5 => k_asm); (case zqkK => first | exact rfl | assumption); (case zqkd => ktr_room); (case zqku => ktr_units); (case zqp0 => exact Fr.keep (by k_asm) _ _ (by assumption)); (case zqp1 => exact Fr.keep (by k_asm) _ _ (by assumption)); (case zqp2 => exact Fr.keep (by k_asm) _ _ (by assumption)); (case zqp3 => exact Fr.keep (by k_asm) _ _ (by assumption)); (case zqp4 => exact Fr.keep (by k_asm) _ _ (by assumption)); (case zqp5 => exact Fr.keep (by k_asm) _ _ (by assumption)); (case zqp6 => first | assumption | exact opts_of_strs (by assumption)); (case zqp7 => first | assumption | exact opts_of_strs (by assumption)); k_whole; intro h' tk' kp'; (have F' := Fr.keeps (by k_asm) kp'); (have N' := news_kept (by k_asm) kp'); (try k_sweep)))
  k_with "call ref" => (k_here; (with_reducible show wpAny _ _ (call (Value.ref 185) _) _ _ _); k_dflt (refine' place_callB ?zqkH ?zqk1 ?zqk2 ?zqk3 ?zqk5 ?zqkK ?zqkd ?zqku ?zqp0 ?zqp1 ?zqp2 ?_; (case zqkH => exact fun _ _ => trivial); (case zqk1 => k_asm); (case zqk2 => k_asm); (case zqk3 => k_asm); (case zqk5 => k_asm); (case zqkK => first | exact rfl | assumption); (case zqkd => ktr_room); (case zqku => ktr_units); (case zqp0 => exact Fr.keep (by k_asm) _ _ (by assumption)); (case zqp1 => assumption); (case zqp2 => assumption); k_whole; intro t' h' tk' hb9 kp'; (have F' := Fr.keeps (by k_asm) kp'); (have N' := news_kept (by k_asm) kp'); (try k_sweep)))
  k_with "eval ListComp" => (k_here; k_dflt (refine' comp_quote ?zqk0 ?zqk00 ?zqk1 ?zqk2 ?zqk3 ?zqk4 ?zqk5 ?zqk6 ?zqk7 ?_ ?zqk8; (case zqk0 => assumption); (case zqk00 => assumption); (case zqk1 => with_unfolding_all rfl); (case zqk2 => with_unfolding_all rfl); (case zqk3 => decide); (case zqk4 => with_unfolding_all rfl); (case zqk5 => decide); (case zqk6 => with_unfolding_all rfl); (case zqk7 => decide); (case zqk8 => intro _; with_unfolding_all rfl); k_whole))
  k_with "QuoteEnd" => (k_here; k_dflt (refine' QuoteEnd.intro ?zqk1 ?zqk2 ?zqk3 ?zqk4 ?_; (case zqk1 => is_list); (case zqk2 => assumption); (case zqk3 => k_asm); (case zqk4 => k_asm); intro D' ys' h' tk' F' N' hL' hY'; (try k_sweep)))
  k_with "call builtin:str.join" => (k_here; (with_reducible show wpAny _ _ (call (Value.builtin "str.join") [Value.str _ _, Value.ref _]) _ _ _); k_dflt (refine' join_quote ?zqk1 ?zqk2 ?zqk3 ?zqk4 ?_; (case zqk1 => assumption); (case zqk2 => assumption); (case zqk3 => assumption); (case zqk4 => assumption); k_whole; intro t' tk' hq9))
  k_with "last call builtin:str.join" => (k_here; (with_reducible show wpAny _ _ (call (Value.builtin "str.join") [Value.str _ _, Value.ref _]) _ _ _); k_dflt (refine' join_quote ?zqk1 ?zqk2 ?zqk3 ?zqk4 ?_; (case zqk1 => assumption); (case zqk2 => assumption); (case zqk3 => assumption); (case zqk4 => assumption); k_whole; intro t' tk' hq9))
  trivial
theorem vec_ret1 {w : World} {s : Shared} {Q : Value → Shared → Prop} {g h' : Heap} {x l : Addr} {ks c : Str} {t : Tok} {tk' : Nat} {D : Due}
    (ret : ∀ (x l' : Addr) (us' : List Value) (ss : List Str) (h' : Heap) (tk' : Nat), D = .list ss → MadeVec w s.heap h' x ks l' → MadeList s.heap h' l' us'.toArray → StrsAre us' ss → Q (.ref x) { s with heap := h', toks := tk' }) (kG : Kept s.heap g)
    (M : MadeVec w g h' x ks l) (N : MadeList g h' l #[.str c t]) (e : D = .list [c]) : Q (.ref x) { s with heap := h', toks := tk' } :=
  ret _ _ [.str c t] _ _ _ e (MadeVec.from kG M) (MadeList.from kG N) (.cons _ _ .nil)
theorem vec_retN {w : World} {s : Shared} {Q : Value → Shared → Prop} {g h' : Heap} {L' x dx l : Addr} {m' : Str → Option Value} {news : List (Addr × Obj)} {ks : Str} {a1 a2 b1 c1 d1 e1 : Tok} {n n' : Nat} {us : List Value} {ss : List Str} {tk' : Nat} {D : Due}
    (ret : ∀ (x l' : Addr) (us' : List Value) (ss : List Str) (h' : Heap) (tk' : Nat), D = .list ss → MadeVec w s.heap h' x ks l' → MadeList s.heap h' l' us'.toArray → StrsAre us' ss → Q (.ref x) { s with heap := h', toks := tk' }) (kG : Kept s.heap g)
    (F : Fr g L' h' m') (N : News g L' h' news) (m1 : (x, instObj 99 dx) ∈ news) (m2 : (dx, dictOf (vecD w ks l a1 a2 b1 c1 d1 e1) n) ∈ news) (m3 : (l, listOf us.toArray n') ∈ news) (hs : StrsAre us ss) (e : D = .list ss) : Q (.ref x) { s with heap := h', toks := tk' } :=
  ret _ _ us _ _ _ e (vec_endM kG F N m1 m2) (list_endM kG N m3) hs
section
variable {w : World} {dp un : Nat} {gd : Option (List Code)} {cn : Str} {cs : Scope} {a : Addr} {ccd : Value} {cl : List (Str × Addr)} {outer : List Env} {A₀ : Around} {base h₀ : Heap} {L : Addr} {m : Str → Option Value} {s : Shared} {Q E : Value → Shared → Prop}
  {mean : ExcName → Option Value} {mg mb : Str → Option Value} {loose : List Str}
set_option maxHeartbeats 8000000 in
theorem chosen_chr 
    {xc dc lc xa da la : Addr} {a1 a2 b1 c1 d1 e1 a3 a4 b3 c3 d3 e3 : Tok} {n1 n2 n3 n4 : Nat} {vs us : List Value} {ch : List Str} {os : List (Option Str)} {sev : Bool}
    (hK : ∀ h : Heap, (top.heap_1 w.params).In h → True)
    (B : Below A₀ base outer h₀) (F : Fr h₀ L s.heap m) (X : (top.heap_1 w.params).In h₀)
    (T : Top hd.view_39 loose mean mg mb h₀) (hk : cs.kind = .function)
    (hd1 : dp + 15 < recursionLimit) (hu : un + 120 < cLine)
    (u1 : s.heap.get? xc = some (instObj 99 dc)) (u2 : s.heap.get? dc = some (dictOf (vecD w (Str.ofString "character") lc a1 a2 b1 c1 d1 e1) n1))
    (ul : s.heap.get? lc = some (listOf vs.toArray n3)) (hI : StrsAre vs ch) (hl2 : ch.length ≤ 40) (hl1 : 0 < ch.length) (hS : ShortAll ch)
    (v1 : s.heap.get? xa = some (instObj 99 da)) (v2 : s.heap.get? da = some (dictOf (vecD w (Str.ofString "character") la a3 a4 b3 c3 d3 e3) n2))
    (vl : s.heap.get? la = some (listOf us.toArray n4)) (hJ : OptsAre us os) (hl3 : os.length ≤ 40) (hos : TextsShort os)
    (ret : ∀ (x l' : Addr) (us' : List Value) (ss : List Str) (h' : Heap) (tk' : Nat), dueTexts ch os sev = .list ss → MadeVec w s.heap h' x (Str.ofString "character") l' → MadeList s.heap h' l' us'.toArray → StrsAre us' ss → Q (.ref x) { s with heap := h', toks := tk' })
    (retE : ∀ (e dx : Addr) (od : Obj) (msg : Str) (t : Tok) (B : Heap) (h' : Heap) (tk' : Nat), dueTexts ch os sev = .msg msg → Flown s.heap h' (envX cn cs L a ccd cl :: outer) e dx od msg t B → E (.ref e) { s with heap := h', toks := tk' }) :
    wpAny (model PySem.Challenge.rw_nz0469_01.row.prog w) (ktrTop dp un gd cn cs L a ccd cl outer) (call (.ref 190) [.ref xc, .ref xa, .bool sev]) Q E s := by
  revert hK; k_fill; intro hK; clear hK
  refine wpAny_call ?_
  k_dflt cell_enter
  rename Kept _ _ => kG
  replace u1 := kG _ _ u1
  replace u2 := kG _ _ u2
  replace v1 := kG _ _ v1
  replace v2 := kG _ _ v2
  replace ul := kG _ _ ul
  replace vl := kG _ _ vl
  have hl : Heap.IsList _ lc vs.toArray := ⟨_, ul, rfl, n3, rfl⟩
  have hm : Heap.IsList _ la us.toArray := ⟨_, vl, rfl, n4, rfl⟩
  have e5 : (Str.ofString "'arg' should be ").length = 16 := by decide
  have e7 : (Str.ofString "'arg' should be one of ").length = 23 := by decide
  have hg : GrowW (pickF ch) (Str.ofString "place") := ⟨pick_short ch⟩
  k_with "execs cons If cons" => ((with_reducible show wpAny _ _ (execs (Stmt.If _ _ _ _ :: Stmt.Assign [Expr.Name (Str.ofString "found") _] _ _ :: _) _) _ _ _); k_dflt (refine' join1 (C := sev = true ∨ (sev = false ∧ ¬ os = List.map some ch ∧ (os.length : Int) = 1)) ?jq1 ?jq2 ?_ ?_; (case jq1 => k_asm); (case jq2 => k_asm); rotate_left; intro h' tk' hC' F' N'; (try k_sweep); rotate_right))
  k_with "JoinEnd" => (first | (refine join_ret ?_) | (k_dflt (refine' join_next ?jq1 ?jq2 ?jq3; (case jq2 => k_asm); (case jq3 => k_asm); (case jq1 => first | exact .inl (by assumption) | exact .inr ⟨by assumption, by assumption, by assumption⟩))))
  k_steps
  all_goals first
    | exact vec_ret1 ret kG (by assumption) (by assumption) (ct_s (by assumption) (by assumption))
    | exact vec_retN ret kG (by assumption) (by assumption) (by k_mem) (by k_mem) (by k_mem) (by assumption) (ct_f (by first | assumption | exact .inl (by assumption) | exact .inr ⟨by assumption, by assumption, by assumption⟩) (by assumption) (by assumption))
    | exact retE _ _ _ _ _ _ _ _ (ct_l (by assumption) (by assumption) (by assumption)) (by assumption)
    | exact retE _ _ _ _ _ _ _ _ (ct_m (by first | assumption | exact .inl (by assumption) | exact .inr ⟨by assumption, by assumption, by assumption⟩) (by assumption) (by assumption) (said_one (by assumption))) (by assumption)
    | exact retE _ _ _ _ _ _ _ _ (ct_m (by first | assumption | exact .inl (by assumption) | exact .inr ⟨by assumption, by assumption, by assumption⟩) (by assumption) (by assumption) (said_more (by assumption) (by assumption))) (by assumption)

end

end
end Mine
end
-- part NzLoop
noncomputable section
open PySem PySem.W PyProof.Rows PySem.Calls PyProof.V PySem.Spec
set_option maxRecDepth 100000
namespace Mine
abbrev poolO (c : Addr) (sp v : Int) (t1 t2 : Tok) (n : Nat) : Obj := listOf #[.ref c, .int sp t1, .int v t2] n
/-- the pool's numbers are within bounds -/
structure PoolOk (sp v : Int) (k : Nat) : Prop where
  a : 0 ≤ sp
  b : sp ≤ (k : Int)
  c : 0 ≤ v
  d : v < 10 ^ 60
theorem pool0 : PoolOk 0 0 0 := ⟨by decide, by decide, by decide, by decide⟩
section
variable {w : World} {dp un : Nat} {gd : Option (List Code)} {cn : Str} {cs : Scope} {a : Addr} {ccd : Value} {cl : List (Str × Addr)} {outer : List Env} {A₀ : Around} {base h₀ : Heap} {L : Addr} {m : Str → Option Value} {s : Shared} {Q E : Value → Shared → Prop}
  {mean : ExcName → Option Value} {mg mb : Str → Option Value} {loose : List Str}
theorem digit_callU {p c : Addr} {ws : List Value} {ns : List Int} {sp v most : Int} {t1 t2 tm : Tok} {n1 n2 k : Nat} {news : List (Addr × Obj)} {g : Obj → List (Addr × Obj)}
    (hK : ∀ h : Heap, (top.heap_1 w.params).In h → True)
    (B : Below A₀ base outer h₀) (F : Fr h₀ L s.heap m) (X : (top.heap_1 w.params).In h₀)
    (N : News h₀ L s.heap news)
    (T : Top hd.view_39 loose mean mg mb h₀) (hk : cs.kind = .function)
    (hd1 : dp + 5 < recursionLimit) (hu : un + 40 < cLine)
    (U : UpdF p (poolO c sp v t1 t2 n1) news g) (mc : (c, listOf ws.toArray n2) ∈ news) (hpc : @Ne Nat p c) (ok : PoolOk sp v k) (hk9 : k ≤ 90)
    (hI : IntsAre ws ns) (hl1 : 1 ≤ ns.length) (hl2 : ns.length ≤ 40) (hm1 : 2 ≤ most) (hm2 : most ≤ 100)
    (ret : ∀ (d sp' v' : Int) (td t1' t2' : Tok) (h' : Heap) (tk' : Nat), 0 ≤ d → d < most → PoolOk sp' v' (k + 1) →
      Fr h₀ L h' m → News h₀ L h' (g (poolO c sp' v' t1' t2' n1)) → Q (.int d td) { s with heap := h', toks := tk' }) :
    wpAny (model PySem.Challenge.rw_nz0469_01.row.prog w) (ktrTop dp un gd cn cs L a ccd cl outer) (call (.ref 197) [.ref p, .int most tm]) Q E s := by
  obtain ⟨pre, post, rfl, hg, a1, a2⟩ := U.split
  have mem : ∀ q ∈ pre ++ post, q.1 ≠ p := fun q hq => (List.mem_append.mp hq).elim (a1 q) (a2 q)
  have back : ∀ (o : Obj) (q : Addr × Obj), q ∈ pre ++ (p, o) :: post → q = (p, o) ∨ q ∈ pre ++ post := fun o q hq => by
    rcases List.mem_append.mp hq with h | h
    · exact .inr (List.mem_append_left _ h)
    · rcases List.mem_cons.mp h with h | h
      · exact .inl h
      · exact .inr (List.mem_append_right _ h)
  have N0 : News h₀ L s.heap ((p, listOf #[.ref c, .int sp t1, .int v t2] n1) :: (c, listOf ws.toArray n2) :: (pre ++ post)) := fun q hq => by
    rcases List.mem_cons.mp hq with rfl | hq
    · exact N _ (List.mem_append_right _ (.head _))
    · rcases List.mem_cons.mp hq with rfl | hq
      · exact N _ mc
      · rcases List.mem_append.mp hq with h | h
        · exact N _ (List.mem_append_left _ h)
        · exact N _ (List.mem_append_right _ (.tail _ h))
  refine digit_call hK B F X N0 T hk hd1 hu hI hl1 hl2 hpc mem ok.a (by have := ok.b; omega) ok.c ok.d hm1 hm2 ?_
  intro d sp' v' td t1' t2' h' tk' h1 h2 h3 h4 h5 h6 F' N'
  refine ret d sp' v' td t1' t2' h' tk' h1 h2 ⟨h3, by have := ok.b; omega, h5, h6⟩ F' ?_
  rw [hg]
  intro q hq
  rcases back _ q hq with rfl | h
  · exact N' _ (.head _)
  · exact N' _ (.tail _ (.tail _ h))
end
section
variable {prog : Program} {w : World} {A : Around} {E : Value → Shared → Prop} {s : Shared} {env : Env} {h₀ : Heap} {x : Str} {body : List Stmt} {Q : Flow → Shared → Prop}
def PoolJ (x : Str) (m₀ : Str → Option Value) (P : Option Str → Prop) (p c D R : Addr) (n1 n2 : Nat) (ws : List Value) (oR : Obj) (k i : Nat) (m : Str → Option Value) (nx : List (Addr × Obj)) : Prop :=
  SameBut2 x x m₀ m ∧ ∃ sp v t1 t2 ys n acc, nx = [(p, poolO c sp v t1 t2 n1), (c, listOf ws.toArray n2), (D, listOf (List.toArray ys) n), (R, oR)] ∧ PoolOk sp v (k + i) ∧ OptsAre ys acc ∧ acc.length = i ∧ ∀ o ∈ acc, P o
theorem iter_pool {r : Addr} {b₀ : Int} {t₀ u₀ v₀ : Tok} {m₀ : Str → Option Value} {news : List (Addr × Obj)} (P : Option Str → Prop) {p c D R : Addr} {n0 n1 n2 k : Nat} {ws : List Value} {oR : Obj} {sp v : Int} {t1 t2 : Tok}
    (hh : A.handled = none) (hr : IsRange s.heap r 0 b₀ 1 t₀ u₀ v₀) (hb0 : 0 ≤ b₀) (hb : b₀ ≤ 40) (F : Fr h₀ env.locals s.heap m₀) (N : News h₀ env.locals s.heap news)
    (mp : (p, poolO c sp v t1 t2 n1) ∈ news) (mc : (c, listOf ws.toArray n2) ∈ news) (mD : (D, listOf #[] n0) ∈ news) (mR : (R, oR) ∈ news) (ok : PoolOk sp v k)
    (turn : ∀ (i : Nat) t sp v t1 t2 ys n acc h tk I oI, (i : Int) < b₀ → PoolOk sp v (k + i) → OptsAre ys acc → acc.length = i → ys.length = i → (∀ o ∈ acc, P o) → @Ne Nat p I → @Ne Nat c I → @Ne Nat D I → @Ne Nat R I →
      Fr h₀ env.locals h (fun y => if y = x then some (.int (i : Nat) t) else m₀ y) → News h₀ env.locals h [(I, oI), (p, poolO c sp v t1 t2 n1), (c, listOf ws.toArray n2), (D, listOf (List.toArray ys) n), (R, oR)] →
      wpAny (model prog w) A (execs body env) (GenPost h₀ env.locals (PoolJ x m₀ P p c D R n1 n2 ws oR k (i + 1)) I oI { s with heap := h, toks := tk } Q) E { s with heap := h, toks := tk })
    (done : ∀ u sp v t1 t2 ys n acc h tk, PoolOk sp v (k + b₀.toNat) → OptsAre ys acc → acc.length = b₀.toNat → (∀ o ∈ acc, P o) → Fr h₀ env.locals h (fun y => if y = x then u else m₀ y) →
      News h₀ env.locals h [(p, poolO c sp v t1 t2 n1), (c, listOf ws.toArray n2), (D, listOf (List.toArray ys) n), (R, oR)] → Q .next { s with heap := h, toks := tk }) :
    wpAny (model prog w) A (pyIter (.ref r)) (fun it s₂ => LoopAtV prog w A h₀ env x body Q E it s₂) E s := by
  obtain ⟨n, rfl⟩ : ∃ n : Nat, b₀ = (n : Int) := ⟨b₀.toNat, by omega⟩
  have N0 : News h₀ env.locals s.heap [(p, poolO c sp v t1 t2 n1), (c, listOf ws.toArray n2), (D, listOf (List.toArray []) n0), (R, oR)] := fun q hq => by
    rcases List.mem_cons.mp hq with rfl | hq
    · exact N _ mp
    · rcases List.mem_cons.mp hq with rfl | hq
      · exact N _ mc
      · rcases List.mem_cons.mp hq with rfl | hq
        · exact N _ mD
        · rcases List.mem_cons.mp hq with rfl | hq
          · exact N _ mR
          · cases hq
  refine iter_genR (PoolJ x m₀ P p c D R n1 n2 ws oR k) hh hr (small_one (by decide) (by decide) (by omega) (by omega)) (by rw [rangeSize_nat]) F N0
    ⟨fun _ _ _ => rfl, sp, v, t1, t2, [], n0, [], rfl, ok, .nil, rfl, by simp⟩ ?_ ?_
  · rintro i t m₁ nx h tk I oI hi hoff ⟨hm, sp, v, t1, t2, ys, n, acc, rfl, ok, hY, hl, hP⟩ F₁ N₁
    have e : (fun y => if y = x then some (Value.int (0 + (i : Nat)) t) else m₁ y) = fun y => if y = x then some (.int (i : Nat) t) else m₀ y := by
      funext z
      by_cases h1 : z = x
      · simp [h1]
      · simp only [if_neg h1]; exact hm z h1 h1
    rw [e] at F₁
    exact turn i t sp v t1 t2 ys n acc h tk I oI (by omega) ok hY hl (hY.length.trans hl) hP (hoff _ (.head _)) (hoff _ (.tail _ (.head _))) (hoff _ (.tail _ (.tail _ (.head _)))) (hoff _ (.tail _ (.tail _ (.tail _ (.head _))))) F₁ N₁
  · rintro m₁ nx h tk ⟨hm, sp, v, t1, t2, ys, n', acc, rfl, ok, hY, hl, hP⟩ F₁ N₁
    have e : m₁ = fun y => if y = x then m₁ x else m₀ y := by
      funext z
      by_cases h1 : z = x
      · simp [h1]
      · simp only [if_neg h1]; exact hm z h1 h1
    rw [e] at F₁
    exact done _ sp v t1 t2 ys n' acc h tk (by rw [Int.toNat_natCast]; exact ok) hY (by rw [Int.toNat_natCast]; exact hl) hP F₁ N₁
theorem pool_next {m₀ m' : Str → Option Value} {nx : List (Addr × Obj)} {P : Option Str → Prop} {p c D R I L : Addr} {n1 n2 k i n' : Nat} {ws ys : List Value} {oR oI : Obj} {sp v : Int} {t1 t2 : Tok} {val : Value} {o : Option Str} {acc : List (Option Str)} {s₁ : Shared} {h' : Heap} {tk : Nat}
    (F : Fr h₀ L h' m') (hm : SameBut2 x x m₀ m') (N : News h₀ L h' nx)
    (mI : (I, oI) ∈ nx) (mp : (p, poolO c sp v t1 t2 n1) ∈ nx) (mc : (c, listOf ws.toArray n2) ∈ nx) (mD : (D, listOf (ys ++ [val]).toArray n') ∈ nx) (mR : (R, oR) ∈ nx)
    (ok : PoolOk sp v (k + i + 1)) (hY : OptsAre ys acc) (hl : acc.length = i) (hP : ∀ o ∈ acc, P o) (ho : OptsAre [val] [o]) (hPo : P o)
    (x1 : @Ne Nat p I) (x2 : @Ne Nat c I) (x3 : @Ne Nat D I) (x4 : @Ne Nat R I) :
    GenPost h₀ L (PoolJ x m₀ P p c D R n1 n2 ws oR k (i + 1)) I oI s₁ Q .next { s₁ with heap := h', toks := tk } := by
  refine GenEnd.intro (news' := [(p, poolO c sp v t1 t2 n1), (c, listOf ws.toArray n2), (D, listOf (ys ++ [val]).toArray n'), (R, oR)]) F (fun q hq => ?_) (fun q hq => ?_)
    ⟨hm, sp, v, t1, t2, ys ++ [val], n', acc ++ [o], rfl, ok, hY.snoc ho, by simp [hl], fun o' ho' => (List.mem_append.mp ho').elim (hP o') (fun q => by rw [List.mem_singleton.mp q]; exact hPo)⟩
  · rcases List.mem_cons.mp hq with rfl | hq
    · exact N _ mI
    · rcases List.mem_cons.mp hq with rfl | hq
      · exact N _ mp
      · rcases List.mem_cons.mp hq with rfl | hq
        · exact N _ mc
        · rcases List.mem_cons.mp hq with rfl | hq
          · exact N _ mD
          · rcases List.mem_cons.mp hq with rfl | hq
            · exact N _ mR
            · cases hq
  · rcases List.mem_cons.mp hq with rfl | hq
    · exact x1
    · rcases List.mem_cons.mp hq with rfl | hq
      · exact x2
      · rcases List.mem_cons.mp hq with rfl | hq
        · exact x3
        · rcases List.mem_cons.mp hq with rfl | hq
          · exact x4
          · cases hq
def IsWord (o : Option Str) : Prop := ∃ c, o = some c ∧ c.length ≤ 1000
def IsText (o : Option Str) : Prop := ∀ c, o = some c → c.length ≤ 1000
theorem opts_words : ∀ {ys : List Value} {acc : List (Option Str)}, OptsAre ys acc → (∀ o ∈ acc, IsWord o) → ∃ ch, acc = ch.map some ∧ StrsAre ys ch ∧ ShortAll ch ∧ ch.length = acc.length
  | _, _, .nil, _ => ⟨[], rfl, .nil, ⟨by simp⟩, rfl⟩
  | _, _, .none _, hP => by obtain ⟨c, e, _⟩ := hP _ (.head _); cases e
  | _, _, .some y t h, hP => by
    obtain ⟨ch, rfl, h1, h2, h3⟩ := opts_words h fun o ho => hP o (.tail _ ho)
    obtain ⟨c, e, hc⟩ := hP _ (.head _)
    cases e
    exact ⟨y :: ch, rfl, .cons _ _ h1, ⟨fun z hz => by rcases List.mem_cons.mp hz with rfl | hz; exact hc; exact h2.of z hz⟩, by simp⟩
theorem texts_of {acc : List (Option Str)} (h : ∀ o ∈ acc, IsText o) : TextsShort acc := ⟨fun x hx => h _ hx x rfl⟩
theorem item_opts {value slice : Expr} {l : Addr} {vs : List Value} {os : List (Option Str)} {k : Int} {u : Tok} {Q : Value → Shared → Prop} (hl : s.heap.IsList l vs.toArray) (hi : OptsAre vs os) (h0 : 0 ≤ k) (h1 : k < os.length) (h2 : os.length ≤ 4000)
    (h : ∀ v o, o ∈ os → OptsAre [v] [o] → Q v s)
    (hs : subscripted slice false (.ref l) (.int k u) = operate [.ref l, .int k u] (getItem (.ref l) (.int k u)) := by with_unfolding_all rfl) :
    wpAny (model prog w) A (subscriptTail value slice (.ref l) (.int k u)) Q E s := by
  have hlen := hi.length
  have hv : vs[k.toNat]? = some (vs[k.toNat]'(by omega)) := List.getElem?_eq_getElem (by omega)
  obtain ⟨o, ho, hvo⟩ := opts_item hi hv
  exact tail_any hl.typeIs slot_list_getitem.lookup (wpAny_getItem_list hl h0 (by omega) (by simpa using hv) (h _ o (List.mem_of_getElem? ho) hvo)) hs
end
end Mine
end
-- part NzLoop2
noncomputable section
open PySem PySem.W PyProof.Rows PySem.Calls PyProof.V PySem.Spec
set_option maxRecDepth 100000
namespace Mine
section
variable {prog : Program} {w : World} {A : Around} {E : Value → Shared → Prop} {s : Shared} {env : Env} {h₀ : Heap} {x : Str} {body : List Stmt} {Q : Flow → Shared → Prop}
theorem iter_texts {r : Addr} {b₀ : Int} {t₀ u₀ v₀ : Tok} {m₀ : Str → Option Value} {news : List (Addr × Obj)} {p c D R : Addr} {n0 n1 n2 k : Nat} {ws : List Value} {oR : Obj} {sp v : Int} {t1 t2 : Tok}
    (hh : A.handled = none) (hr : IsRange s.heap r 0 b₀ 1 t₀ u₀ v₀) (hb0 : 0 ≤ b₀) (hb : b₀ ≤ 40) (F : Fr h₀ env.locals s.heap m₀) (N : News h₀ env.locals s.heap news)
    (np : m₀ (Str.ofString "pool") = some (.ref p)) (nD : m₀ (Str.ofString "texts") = some (.ref D)) (nR : m₀ (Str.ofString "choices") = some (.ref R))
    (mp : (p, poolO c sp v t1 t2 n1) ∈ news) (mc : (c, listOf ws.toArray n2) ∈ news) (mD : (D, listOf #[] n0) ∈ news) (mR : (R, oR) ∈ news) (ok : PoolOk sp v k)
    (turn : ∀ (i : Nat) t sp v t1 t2 ys n acc h tk I oI, (i : Int) < b₀ → PoolOk sp v (k + i) → OptsAre ys acc → acc.length = i → ys.length = i → (∀ o ∈ acc, IsText o) → @Ne Nat p I → @Ne Nat c I → @Ne Nat D I → @Ne Nat R I →
      Fr h₀ env.locals h (fun y => if y = x then some (.int (i : Nat) t) else m₀ y) → News h₀ env.locals h [(I, oI), (p, poolO c sp v t1 t2 n1), (c, listOf ws.toArray n2), (D, listOf (List.toArray ys) n), (R, oR)] →
      wpAny (model prog w) A (execs body env) (GenPost h₀ env.locals (PoolJ x m₀ IsText p c D R n1 n2 ws oR k (i + 1)) I oI { s with heap := h, toks := tk } Q) E { s with heap := h, toks := tk })
    (done : ∀ u sp v t1 t2 ys n acc h tk, PoolOk sp v (k + b₀.toNat) → OptsAre ys acc → acc.length ≤ 40 → ys.length ≤ 40 → TextsShort acc → Fr h₀ env.locals h (fun y => if y = x then u else m₀ y) →
      News h₀ env.locals h [(p, poolO c sp v t1 t2 n1), (c, listOf ws.toArray n2), (D, listOf (List.toArray ys) n), (R, oR)] → Q .next { s with heap := h, toks := tk }) :
    wpAny (model prog w) A (pyIter (.ref r)) (fun it s₂ => LoopAtV prog w A h₀ env x body Q E it s₂) E s :=
  iter_pool IsText hh hr hb0 hb F N mp mc mD mR ok turn fun u sp v t1 t2 ys n acc h tk ok hY hl hP F N => done u sp v t1 t2 ys n acc h tk ok hY (by omega) (by rw [hY.length]; omega) (texts_of hP) F N
theorem iter_words {r : Addr} {b₀ : Int} {t₀ u₀ v₀ : Tok} {m₀ : Str → Option Value} {news : List (Addr × Obj)} {p c D R : Addr} {n0 n1 n2 n3 k : Nat} {ws wv : List Value} {wds : List Str} {sp v : Int} {t1 t2 : Tok}
    (hh : A.handled = none) (hr : IsRange s.heap r 0 b₀ 1 t₀ u₀ v₀) (hb0 : 1 ≤ b₀) (hb : b₀ ≤ 40) (F : Fr h₀ env.locals s.heap m₀) (N : News h₀ env.locals s.heap news)
    (np : m₀ (Str.ofString "pool") = some (.ref p)) (nD : m₀ (Str.ofString "choices") = some (.ref D)) (nR : m₀ (Str.ofString "words") = some (.ref R))
    (mp : (p, poolO c sp v t1 t2 n1) ∈ news) (mc : (c, listOf ws.toArray n2) ∈ news) (mD : (D, listOf #[] n0) ∈ news) (mR : (R, listOf wv.toArray n3) ∈ news) (hW : StrsAre wv wds) (hS : ShortAll wds) (hWl : wds.length = 7) (ok : PoolOk sp v k)
    (turn : ∀ (i : Nat) t sp v t1 t2 ys n acc h tk I oI, (i : Int) < b₀ → PoolOk sp v (k + i) → OptsAre ys acc → acc.length = i → ys.length = i → (∀ o ∈ acc, IsWord o) → @Ne Nat p I → @Ne Nat c I → @Ne Nat D I → @Ne Nat R I → StrsAre wv wds → ShortAll wds → wds.length = 7 →
      Fr h₀ env.locals h (fun y => if y = x then some (.int (i : Nat) t) else m₀ y) → News h₀ env.locals h [(I, oI), (p, poolO c sp v t1 t2 n1), (c, listOf ws.toArray n2), (D, listOf (List.toArray ys) n), (R, listOf wv.toArray n3)] →
      wpAny (model prog w) A (execs body env) (GenPost h₀ env.locals (PoolJ x m₀ IsWord p c D R n1 n2 ws (listOf wv.toArray n3) k (i + 1)) I oI { s with heap := h, toks := tk } Q) E { s with heap := h, toks := tk })
    (done : ∀ u sp v t1 t2 ys n ch h tk, PoolOk sp v (k + 40) → StrsAre ys ch → ch.length ≤ 40 → ys.length ≤ 40 → 0 < ch.length → ShortAll ch → Fr h₀ env.locals h (fun y => if y = x then u else m₀ y) →
      News h₀ env.locals h [(p, poolO c sp v t1 t2 n1), (c, listOf ws.toArray n2), (D, listOf (List.toArray ys) n)] → Q .next { s with heap := h, toks := tk }) :
    wpAny (model prog w) A (pyIter (.ref r)) (fun it s₂ => LoopAtV prog w A h₀ env x body Q E it s₂) E s :=
  iter_pool IsWord hh hr (by omega) hb F N mp mc mD mR ok (fun i t sp v t1 t2 ys n acc h tk I oI hi ok hY hl hl9 hP x1 x2 x3 x4 F N => turn i t sp v t1 t2 ys n acc h tk I oI hi ok hY hl hl9 hP x1 x2 x3 x4 hW hS hWl F N)
    fun u sp v t1 t2 ys n acc h tk ok hY hl hP F N => by
      obtain ⟨ch, rfl, h1, h2, h3⟩ := opts_words hY hP
      have h4 := h1.len_eq
      refine done u sp v t1 t2 ys n ch h tk ⟨ok.a, by have := ok.b; omega, ok.c, ok.d⟩ h1 (by omega) (by omega) (by omega) h2 F fun q hq => N q ?_
      rcases List.mem_cons.mp hq with rfl | hq
      · exact .head _
      · rcases List.mem_cons.mp hq with rfl | hq
        · exact .tail _ (.head _)
        · rcases List.mem_cons.mp hq with rfl | hq
          · exact .tail _ (.tail _ (.head _))
          · cases hq
theorem item_words {value slice : Expr} {l : Addr} {vs : List Value} {ch : List Str} {k : Int} {u : Tok} {Q : Value → Shared → Prop} (hl : s.heap.IsList l vs.toArray) (hi : StrsAre vs ch) (hB : ShortAll ch) (h0 : 0 ≤ k) (h1 : k < ch.length) (h2 : ch.length ≤ 4000)
    (h : ∀ c t, c.length ≤ 1000 → Q (.str c t) s)
    (hs : subscripted slice false (.ref l) (.int k u) = operate [.ref l, .int k u] (getItem (.ref l) (.int k u)) := by with_unfolding_all rfl) :
    wpAny (model prog w) A (subscriptTail value slice (.ref l) (.int k u)) Q E s := by
  refine item_opts hl (opts_of_strs hi) h0 (by rw [List.length_map]; exact h1) (by rw [List.length_map]; exact h2) (fun v o ho hv => ?_) hs
  obtain ⟨c, hc, rfl⟩ := List.mem_map.mp ho
  cases hv with
  | some c t _ => exact h c t (hB.of c hc)
theorem word_ok {c : Str} (h : c.length ≤ 1000) : IsWord (some c) := ⟨c, rfl, h⟩
/-- nine texts and None, as the law writes them -/
structure Shorts (os : List (Option Str)) : Prop where
  of : ∀ o ∈ os, IsText o
theorem item_texts {value slice : Expr} {l : Addr} {vs : List Value} {os : List (Option Str)} {k : Int} {u : Tok} {Q : Value → Shared → Prop} (hl : s.heap.IsList l vs.toArray) (hi : OptsAre vs os) (hS : Shorts os) (h0 : 0 ≤ k) (h1 : k < os.length) (h2 : os.length ≤ 4000)
    (h : ∀ v o, OptsAre [v] [o] → IsText o → Q v s)
    (hs : subscripted slice false (.ref l) (.int k u) = operate [.ref l, .int k u] (getItem (.ref l) (.int k u)) := by with_unfolding_all rfl) :
    wpAny (model prog w) A (subscriptTail value slice (.ref l) (.int k u)) Q E s :=
  item_opts hl hi h0 h1 h2 (fun v o ho hv => h v o hv (hS.of o ho)) hs
theorem shorts_nil : Shorts [] := ⟨by simp⟩
theorem shorts_none {os : List (Option Str)} (h : Shorts os) : Shorts (none :: os) := ⟨fun o ho => by
  rcases List.mem_cons.mp ho with rfl | ho
  · intro c e; cases e
  · exact h.of o ho⟩
theorem shorts_some {os : List (Option Str)} {c : Str} (hc : Nat.ble c.length 1000 = true) (h : Shorts os) : Shorts (some c :: os) := ⟨fun o ho => by
  rcases List.mem_cons.mp ho with rfl | ho
  · intro c e; cases e; exact Nat.le_of_ble_eq_true hc
  · exact h.of o ho⟩
theorem shortAll_nil : ShortAll [] := ⟨by simp⟩
theorem shortAll_cons {ch : List Str} {c : Str} (hc : Nat.ble c.length 1000 = true) (h : ShortAll ch) : ShortAll (c :: ch) := ⟨fun o ho => by
  rcases List.mem_cons.mp ho with rfl | ho
  · exact Nat.le_of_ble_eq_true hc
  · exact h.of o ho⟩
end
end Mine
end
-- part NzSlice
noncomputable section
open PySem PySem.W PyProof.Rows PySem.Calls PyProof.V PySem.Spec
set_option maxRecDepth 100000
namespace Mine
section
variable {prog : Program} {w : World} {A : Around} {E : Value → Shared → Prop} {s : Shared} {h₀ : Heap} {L l : Addr} {m : Str → Option Value} {news : List (Addr × Obj)} {value slice : PySem.Expr} {vs : List Value} {ns : List Int} {vl vu : Value} {Q : Value → Shared → Prop}
theorem slice_40 (F : Fr h₀ L s.heap m) (N : News h₀ L s.heap news) (hl : s.heap.IsList l vs.toArray) (pl : IsPart vl none) (pu : IsPart vu (some 40)) (hi' : IntsAre vs (ns ++ [0])) (hn : ns.length ≤ 63)
    (h : ∀ D ws ms h', Fr h₀ L h' m → News h₀ L h' ((D, listOf (List.toArray ws) 0) :: news) → (∀ p ∈ news, p.1 < D) → IntsAre ws ms → 1 ≤ ms.length → ms.length ≤ 40 → Q (.ref D) { s with heap := h' })
    (hs : subscripted slice false (.ref l) (.ref s.heap.objs.size) = operate [.ref s.heap.objs.size, .ref l] (getItem (.ref l) (.ref s.heap.objs.size))) :
    wpAny (model prog w) A (subscriptTail value slice (.ref l) (.ref s.heap.objs.size)) Q E { s with heap := s.heap.push { cls := .type "slice", data := .fields #[vl, vu, .none] } } := by
  have hsz : vs.toArray.size ≤ sizeLine := by
    rw [kmk_size_eq hi', sizeLine_eq, List.length_append, List.length_singleton]
    omega
  have hm := kmk_upto hi' (y := 40) (by decide)
  refine tail_any (Heap.IsList.typeIs (s := { s with heap := s.heap.push { cls := .type "slice", data := .fields #[vl, vu, .none] } }) (hl.push _)) list_getitem_lookup
    (wpAny_getItem_list_slice (hl.push _) (Heap.IsSliceOf.new ..) pl pu .none (by simp) ?_ hsz) hs
  have N1 := News.push (F.push { cls := .type "slice", data := .fields #[vl, vu, .none] }) (N.grown fun _ _ e => Heap.get?_push_of_some _ e) { cls := .type "list", data := .seq (slicePick vs.toArray none (some 40) none) }
  rw [Heap.size_push] at N1
  show Q (.ref (s.heap.push _).objs.size) _
  rw [Heap.size_push]
  refine h _ (slicePick vs.toArray none (some 40) none).toList _ _ ((F.push _).push _) ?_ (fun p hp => Nat.lt_succ_of_lt (Heap.lt_size (N p hp).1)) hm ?_ ?_
  · rw [Array.toArray_toList]; exact N1
  · rw [List.length_take, List.length_append, List.length_singleton]
    show 1 ≤ min 40 _
    omega
  · rw [List.length_take]
    exact Nat.min_le_left _ _
end
end Mine
end
-- part NzMsg
noncomputable section
open PySem PySem.W PyProof.Rows PySem.Calls
set_option maxRecDepth 100000
namespace Mine
section
variable {w : World} {A : Around} {E : Value → Shared → Prop} {s : Shared} {g : Heap} {L e dx : Addr} {m : Str → Option Value} {oe od : Obj} {news : List (Addr × Obj)} {msg : Str} {tm : Tok} {Q : Value → Shared → Prop} {expr : Bool}
theorem msg_sub (w : World) : subIn (top.heap_1 w.params) (.ref 51) (.type "BaseException") = some true := by kernel_rfl
theorem msg_ga (w : World) : findIn (top.heap_1 w.params) (.ref 51) "__getattribute__" = some (some (.builtin "BaseException.__getattribute__")) := by kernel_rfl
theorem msg_gt (w : World) : findIn (top.heap_1 w.params) (.ref 51) "__getattr__" = some none := by kernel_rfl
theorem msg_cls (w : World) : (findIn (top.heap_1 w.params) (.ref 51) (Str.ofString "message") == some none && (clsIn (top.heap_1 w.params) 51).any (·.hasDict)) = true := by kernel_rfl
theorem msg_find (w : World) (h : lookIn (Str.ofString "message") od = some (some (.str msg tm))) : findObj (top.heap_1 w.params) 51 (some od) (Str.ofString "message") = some (.value (.str msg tm)) := by
  have h1 := msg_cls w
  simp only [Bool.and_eq_true, beq_iff_eq] at h1
  obtain ⟨h1, h2⟩ := h1
  unfold findObj
  cases q : clsIn (top.heap_1 w.params) 51 with
  | none => rw [q] at h2; cases h2
  | some cd =>
    rw [q] at h2
    have h3 : cd.hasDict = true := h2
    rw [Option.bind_some, h1]
    simp only [Option.bind_some]
    unfold W.ownOf
    rw [if_pos h3]
    dsimp only
    rw [h]
    rfl
theorem get_msg (F : Fr g L s.heap m) (N : News g L s.heap news) (X : (top.heap_1 w.params).In g) (m1 : (e, oe) ∈ news) (m2 : (dx, od) ∈ news) (hc : oe.cls = .ref 51) (hdx : oe.dict = some dx) (hn : notCls oe = true)
    (O : LCg.NsObj od (fun y => if y = (Str.ofString "message") then some (.str msg tm) else none)) (h : Q (.str msg tm) { s with toks := s.toks + 1 }) :
    wpAny (model PySem.Challenge.rw_nz0469_01.row.prog w) A (getAttr (.ref e) (Str.ofString "message") expr) Q E s :=
  get_exc (X.keeps F.keep) ⟨(N _ m1).1, hc, hn, by rw [hdx]; exact (N _ m2).1⟩ (msg_sub w) (msg_ga w) (msg_gt w) (msg_find w (lookIn_of O (by simp))) rfl h
end
theorem hide2 {h₀ h : Heap} {L : Addr} {m : Str → Option Value} {x y : Str} {vx vy : Value} (F : Fr h₀ L h m) (ex : m x = some vx) (ey : m y = some vy) : ∃ m₁ : Str → Option Value, Fr h₀ L h (fun z => if z = x then some vx else if z = y then some vy else m₁ z) :=
  ⟨m, by
    have e : (fun z => if z = x then some vx else if z = y then some vy else m z) = m := by
      funext z
      by_cases h1 : z = x
      · rw [if_pos h1, h1, ex]
      · rw [if_neg h1]
        by_cases h2 : z = y
        · rw [if_pos h2, h2, ey]
        · rw [if_neg h2]
    rw [e]; exact F⟩
theorem hide4 {h₀ h : Heap} {L : Addr} {m : Str → Option Value} {x y x' y' : Str} {vx vy vx' vy' : Value} (F : Fr h₀ L h m) (ex : m x = some vx) (ey : m y = some vy) (ex' : m x' = some vx') (ey' : m y' = some vy') :
    ∃ m₁ : Str → Option Value, Fr h₀ L h (fun z => if z = x then some vx else if z = y then some vy else if z = x' then some vx' else if z = y' then some vy' else m₁ z) :=
  ⟨m, by
    have e : (fun z => if z = x then some vx else if z = y then some vy else if z = x' then some vx' else if z = y' then some vy' else m z) = m := by
      funext z
      by_cases h1 : z = x
      · rw [if_pos h1, h1, ex]
      · rw [if_neg h1]
        by_cases h2 : z = y
        · rw [if_pos h2, h2, ey]
        · rw [if_neg h2]
          by_cases h3 : z = x'
          · rw [if_pos h3, h3, ex']
          · rw [if_neg h3]
            by_cases h4 : z = y'
            · rw [if_pos h4, h4, ey']
            · rw [if_neg h4]
    rw [e]; exact F⟩
def LawEnd (h₀ : Heap) (L : Addr) (s : Shared) (f : Flow) (s' : Shared) : Prop := ∃ h tk m, f = .ret (.bool true) ∧ s' = { s with heap := h, toks := tk } ∧ Fr h₀ L h m
theorem LawEnd.intro {h₀ : Heap} {L : Addr} {s : Shared} {h : Heap} {tk : Nat} {m : Str → Option Value} (F : Fr h₀ L h m) : LawEnd h₀ L s (.ret (.bool true)) { s with heap := h, toks := tk } := ⟨h, tk, m, rfl, rfl, F⟩
theorem law_cut {m₀ : Str → Option Value} {M : Model} {A : Around} {env : Env} {t : Sem Flow} {Q : Flow → Shared → Prop} {s : Shared} {X : Value → Unit → Shared → Prop} {Y : Value → Value → Shared → Prop} {h₀ : Heap} {L : Addr}
    (_ : Fr h₀ L s.heap m₀) (hQ : ∀ h tk m, Fr h₀ L h m → Q (.ret (.bool true)) { s with heap := h, toks := tk })
    (h : wpAny M A t (LawEnd h₀ L s) (fun e s' => wpAny M A (leaving env e) (fun _ _ => False) (fun _ _ => False) s') s) :
    wpAny M A t Q (fun e s' => wpAny M A (leaving env e) (X e) (Y e) s') s :=
  wpAny_mono h (fun f s' q => by obtain ⟨h, tk, m, rfl, rfl, F⟩ := q; exact hQ h tk m F) fun e s' q => wpAny_mono q (fun _ _ z => z.elim) fun _ _ z => z.elim
theorem nb0 {d : Int} (h : 2 < d) : ¬ (d == 0) = true := by rw [beq_iff_eq]; omega
theorem nb1 {d : Int} (h : 2 < d) : ¬ (d == 1) = true := by rw [beq_iff_eq]; omega
theorem nb2 {d : Int} (h : d = 0) : ¬ (d == 1) = true := by rw [beq_iff_eq]; omega
theorem ns0 {d : Int} (h : 2 < d) : d ≠ 0 := by omega
theorem ns1 {d : Int} (h : 2 < d) : d ≠ 1 := by omega
theorem ns2 {d : Int} (h : d = 1) : d ≠ 0 := by omega
theorem news_get {h₀ h : Heap} {L a : Addr} {o : Obj} {news : List (Addr × Obj)} (N : News h₀ L h news) (m : (a, o) ∈ news) : h.get? a = some o := (N _ m).1
theorem texts_map {ch : List Str} (h : ShortAll ch) : TextsShort (ch.map some) := ⟨fun x hx => by
  obtain ⟨c, hc, e⟩ := List.mem_map.mp hx
  cases e; exact h.of _ hc⟩
theorem flat_means_len (ch : List Str) : ∀ os : List (Option Str), (os.flatMap (meansF ch)).length ≤ os.length
  | [] => by simp
  | o :: r => by
    have h1 := meansF_short ch o
    have h2 := flat_means_len ch r
    simp only [List.flatMap_cons, List.length_append, List.length_cons]; omega
theorem due_len {ch : List Str} {os : List (Option Str)} {sev : Bool} {ss : List Str} {us : List Value} (h : dueTexts ch os sev = .list ss) (hs : StrsAre us ss) (hl : os.length ≤ 40) : us.length ≤ 40 := by
  rw [hs.len_eq]
  have h2 := flat_means_len ch os
  unfold dueTexts at h
  split at h
  · cases h; simp
  · split at h
    · cases h
    · split at h
      · cases h; omega
      · cases h
theorem map_len {ch : List Str} (h : ch.length ≤ 40) : (ch.map some).length ≤ 40 := by rw [List.length_map]; exact h
section
variable {prog : Program} {w : World} {A : Around} {E : Value → Shared → Prop} {s : Shared} {Q : Value → Shared → Prop}
theorem eq_same {a b : Addr} {us vs : List Value} {ss : List Str} (hl : s.heap.IsList a us.toArray) (hi : StrsAre us ss) (hl' : s.heap.IsList b vs.toArray) (hi' : StrsAre vs ss) (hu : A.units < cLine)
    (h : Q (.bool true) s) : wpAny (model prog w) A (compareOp .Eq (.ref a) (.ref b)) Q E s :=
  eq_opts hl (opts_of_strs hi) hl' (opts_of_strs hi') hu (by rw [decide_eq_true rfl]; exact h)
theorem ne_same {a b : Addr} {us vs : List Value} {ss : List Str} (hl : s.heap.IsList a us.toArray) (hi : StrsAre us ss) (hl' : s.heap.IsList b vs.toArray) (hi' : StrsAre vs ss) (hu : A.units < cLine)
    (h : Q (.bool false) s) : wpAny (model prog w) A (compareOp .NotEq (.ref a) (.ref b)) Q E s :=
  ne_opts hl (opts_of_strs hi) hl' (opts_of_strs hi') hu (by rw [decide_eq_true rfl]; exact h)
theorem eq_strS {a : Str} {t u : Tok} (h : Q (.bool true) s) : wpAny (model prog w) A (compareOp .Eq (.str a t) (.str a u)) Q E s :=
  eq_str (by rw [beq_self_eq_true]; exact h)
end
end Mine
end
-- part NzJoinS
noncomputable section
open PySem PySem.W PyProof.Rows
set_option maxRecDepth 100000
namespace Mine
theorem PoolOk.mono {sp v : Int} {k k' : Nat} (h : PoolOk sp v k) (hk : k ≤ k') : PoolOk sp v k' := ⟨h.a, by have := h.b; omega, h.c, h.d⟩
def JoinI (I : Heap → Prop) (s : Shared) (Q : Flow → Shared → Prop) (f : Flow) (s' : Shared) : Prop :=
  match f with
  | .next => ∃ h tk, s' = { s with heap := h, toks := tk } ∧ I h
  | f => Q f s'
/-- behind the law's choice of texts -/
def SortEnd (h₀ : Heap) (L p c C : Addr) (d : Int) (td : Tok) (n1 n2 n3 : Nat) (ws ys : List Value) (h : Heap) : Prop :=
  ∃ (D : Addr) (us : List Value) (n : Nat) (os : List (Option Str)) (sp v : Int) (t1 t2 : Tok) (m₁ : Str → Option Value), @Ne Nat p D ∧ OptsAre us os ∧ us.length ≤ 40 ∧ os.length ≤ 40 ∧ TextsShort os ∧ PoolOk sp v 80 ∧
    Fr h₀ L h (fun z => if z = Str.ofString "choices" then some (.ref C) else if z = Str.ofString "pool" then some (.ref p) else if z = Str.ofString "texts" then some (.ref D) else if z = Str.ofString "sort" then some (.int d td) else m₁ z) ∧
    News h₀ L h [(p, poolO c sp v t1 t2 n1), (c, listOf ws.toArray n2), (D, listOf us.toArray n), (C, listOf ys.toArray n3)]
section
variable {M : Model} {A : Around} {E : Value → Shared → Prop} {s : Shared} {env : Env} {S1 : Stmt} {tail : List Stmt} {Q : Flow → Shared → Prop} {h₀ : Heap} {L p c C D : Addr} {m : Str → Option Value} {news : List (Addr × Obj)}
  {d sp v : Int} {td t1 t2 : Tok} {n n1 n2 n3 k : Nat} {ws ys us : List Value} {os : List (Option Str)}
theorem join_sort (F : Fr h₀ L s.heap m) (N : News h₀ L s.heap news) (np : m (Str.ofString "pool") = some (.ref p)) (nC : m (Str.ofString "choices") = some (.ref C)) (ns : m (Str.ofString "sort") = some (.int d td))
    (mp : (p, poolO c sp v t1 t2 n1) ∈ news) (mc : (c, listOf ws.toArray n2) ∈ news) (mC : (C, listOf ys.toArray n3) ∈ news)
    (now : wpAny M A (exec S1 env) (JoinI (SortEnd h₀ L p c C d td n1 n2 n3 ws ys) s Q) E s)
    (rest : ∀ h tk D us n os sp v t1 t2 (m₁ : Str → Option Value), @Ne Nat p D → OptsAre us os → us.length ≤ 40 → os.length ≤ 40 → TextsShort os → PoolOk sp v 80 →
      Fr h₀ L h (fun z => if z = Str.ofString "choices" then some (.ref C) else if z = Str.ofString "pool" then some (.ref p) else if z = Str.ofString "texts" then some (.ref D) else if z = Str.ofString "sort" then some (.int d td) else m₁ z) →
      News h₀ L h [(p, poolO c sp v t1 t2 n1), (c, listOf ws.toArray n2), (D, listOf (List.toArray us) n), (C, listOf ys.toArray n3)] → wpAny M A (execs tail env) Q E { s with heap := h, toks := tk }) :
    wpAny M A (execs (S1 :: tail) env) Q E s := by
  refine wpAny_execs_cons (wpAny_mono now (fun f s' q => ?_) fun _ _ z => z)
  cases f with
  | next => obtain ⟨h, tk, rfl, D, us, n, os, sp, v, t1, t2, m₁, a0, a1, a2, a3, a4, a5, a6, a7⟩ := q; exact rest h tk D us n os sp v t1 t2 m₁ a0 a1 a2 a3 a4 a5 a6 a7
  | _ => exact q
theorem sort_next {h' : Heap} {tk : Nat} (F : Fr h₀ L h' m) (N : News h₀ L h' news) (nC : m (Str.ofString "choices") = some (.ref C)) (np : m (Str.ofString "pool") = some (.ref p)) (nD : m (Str.ofString "texts") = some (.ref D)) (ns : m (Str.ofString "sort") = some (.int d td))
    (mp : (p, poolO c sp v t1 t2 n1) ∈ news) (mc : (c, listOf ws.toArray n2) ∈ news) (mD : (D, listOf us.toArray n) ∈ news) (mC : (C, listOf ys.toArray n3) ∈ news)
    (hpD : @Ne Nat p D) (hJ : OptsAre us os) (l1 : us.length ≤ 40) (l2 : os.length ≤ 40) (hT : TextsShort os) (ok : PoolOk sp v k) (hk : k ≤ 80) :
    JoinI (SortEnd h₀ L p c C d td n1 n2 n3 ws ys) s Q .next { s with heap := h', toks := tk } := by
  obtain ⟨m₁, F'⟩ := hide4 F nC np nD ns
  refine ⟨h', tk, rfl, D, us, n, os, sp, v, t1, t2, m₁, hpD, hJ, l1, l2, hT, ok.mono hk, F', fun q hq => ?_⟩
  rcases List.mem_cons.mp hq with rfl | hq
  · exact N _ mp
  · rcases List.mem_cons.mp hq with rfl | hq
    · exact N _ mc
    · rcases List.mem_cons.mp hq with rfl | hq
      · exact N _ mD
      · rcases List.mem_cons.mp hq with rfl | hq
        · exact N _ mC
        · cases hq
end
end Mine
end
-- part NzLawT
noncomputable section
open PySem PySem.W PyProof.Rows
set_option maxRecDepth 100000
namespace Mine
local macro_rules | `(tactic| k_all) => `(tactic| assumption)
local macro_rules | `(tactic| walk_at $s:str) => `(tactic| k_extra $s)
theorem said_NzLawT : True := by
  k_with_none
  k_with "subscriptTail BinOp Name Add List Slice ref ref" => (k_here; k_dflt (refine' slice_40 ?zqk1 ?zqk2 ?zqk3 ?zqk4 ?zqk5 ?zqk6 ?zqk7 ?_ ?zqk8; (case zqk1 => k_asm); (case zqk2 => k_asm); (case zqk3 => kmk_list); (case zqk4 => kmk_part); (case zqk5 => kmk_part); (case zqk6 => assumption); (case zqk7 => first | assumption | omega); (case zqk8 => with_unfolding_all rfl); k_whole; intro D' ws' ms' h' F' N' l1 hI' h1' h2'; (try k_lt l1); (try k_sweep)))
  k_with "exec For Name Call cons nil" => (k_here; (rename Fr _ _ _ _ => lF'); (with_unfolding_all refine' For_invVF lF' ?zqk1 ?zqk2 ?_; (case zqk1 => exact rfl); (case zqk2 => exact rfl); k_whole))
  k_with "call ref" => (k_here; (with_reducible show wpAny _ _ (call (Value.ref 197) _) _ _ _); k_dflt (refine' digit_callU ?zqkH ?zqk1 ?zqk2 ?zqk3 ?zqk4 ?zqk5 ?zqkK ?zqkd ?zqku ?zqp0 ?zqp1 ?zqp2 ?zqp3 ?zqp4 ?zqp5 ?zqp6 ?zqp7 ?zqp8 ?zqp9 ?_; (case zqkH => exact fun _ _ => trivial); (case zqk1 => k_asm); (case zqk2 => k_asm); (case zqk3 => k_asm); (case zqk4 => k_asm); (case zqk5 => k_asm); (case zqkK => first | exact rfl | assumption); (case zqkd => ktr_room); (case zqku => ktr_units); (case zqp0 => k_updF); (case zqp1 => k_mem); (case zqp2 => first | assumption | omega); (case zqp3 => first | assumption | exact pool0); (case zqp4 => first | exact Nat.le_of_ble_eq_true rfl | omega); (case zqp5 => assumption); (case zqp6 => assumption); (case zqp7 => assumption); (case zqp8 => decide); (case zqp9 => decide); k_whole; intro d' sp' v' td' t1' t2' h' tk' hd1' hd2' ok' F' N'; (try dsimp only at N'); (try k_sweep)))
  k_with "execs cons Assign cons" => ((with_reducible refine wpAny_execs_cons ?_); try dsimp only)
  k_with "call type:range" => (k_here; k_dflt (refine' range1_rows ?zqk1 ?zqk2 ?_; (case zqk1 => k_asm); (case zqk2 => k_asm); k_whole; intro h' tk' t1' u1' v1' R' F' N' kR'; (try k_sweep)))
  k_with "pyIter ref" => (k_here; k_dflt (refine' iter_texts ?zqk1 ?zqk2 ?zqk3 ?zqk4 ?zqk5 ?zqk6 ?zqk7 ?zqk8 ?zqk9 ?zqk10 ?zqk11 ?zqk12 ?zqk13 ?zqk14 ?_ ?_; (case zqk1 => exact rfl); (case zqk2 => assumption); (case zqk3 => first | assumption | omega); (case zqk4 => first | assumption | omega); (case zqk5 => k_asm); (case zqk6 => k_asm); (case zqk7 => exact rfl); (case zqk8 => exact rfl); (case zqk9 => exact rfl); (case zqk10 => k_mem); (case zqk11 => k_mem); (case zqk12 => k_mem); (case zqk13 => k_mem); (case zqk14 => assumption); intro i' t' sp' v' t1' t2' ys' n' acc' h' tk' I' oI' hi' ok' hY' hl' hl9 hP' x1' x2' x3' x4' F' N'; (have y1 := neN x1'); (have y2 := neN x2'); (have y3 := neN x3'); (have y4 := neN x4'); (try k_sweep); rotate_left; intro u' sp' v' t1' t2' ys' n' acc' h' tk' ok' hY' hl' hl9 hS' F' N'; (try k_sweep); rotate_right))
  k_with "pyIter ref" => (k_here; k_dflt (refine' iter_words ?zqk1 ?zqk2 ?zqk3 ?zqk4 ?zqk5 ?zqk6 ?zqk7 ?zqk8 ?zqk9 ?zqk10 ?zqk11 ?zqk12 ?zqk13 ?zqk15 ?zqk16 ?zqk17 ?zqk14 ?_ ?_; (case zqk1 => exact rfl); (case zqk2 => assumption); (case zqk3 => first | assumption | omega); (case zqk4 => first | assumption | omega); (case zqk5 => k_asm); (case zqk6 => k_asm); (case zqk7 => exact rfl); (case zqk8 => exact rfl); (case zqk9 => exact rfl); (case zqk10 => k_mem); (case zqk11 => k_mem); (case zqk12 => k_mem); (case zqk13 => k_mem); (case zqk15 => exact (StrsAre.cons _ _ (StrsAre.cons _ _ (StrsAre.cons _ _ (StrsAre.cons _ _ (StrsAre.cons _ _ (StrsAre.cons _ _ (StrsAre.cons _ _ StrsAre.nil)))))))); (case zqk16 => (repeat (first | exact shortAll_nil | refine shortAll_cons (by decide) ?_))); (case zqk17 => exact rfl); (case zqk14 => assumption); intro i' t' sp' v' t1' t2' ys' n' acc' h' tk' I' oI' hi' ok' hY' hl' hl9 hP' x1' x2' x3' x4' hW' hS' hWl' F' N'; (have y1 := neN x1'); (have y2 := neN x2'); (have y3 := neN x3'); (have y4 := neN x4'); (try k_sweep); rotate_left; intro u' sp' v' t1' t2' ys' n' ch' h' tk' ok' hY' hl' hl9 hl0 hS' F0' N'; (obtain ⟨m9', F'⟩ := hide2 (x := Str.ofString "choices") (y := Str.ofString "pool") F0' rfl rfl); clear F0'; (try k_sweep); rotate_right))
  k_with "subscriptTail Name Call ref int" => (k_here; (with_reducible show wpAny _ _ (subscriptTail _ _ (Value.ref _) (Value.int _ _)) _ _ _); k_dflt (first
    | (refine' item_words ?zqk1 ?zqk2 ?zqk3 ?zqk4 ?zqk5 ?zqk6 ?_ ?zqk7; (case zqk1 => is_list); (case zqk2 => assumption); (case zqk3 => assumption); (case zqk4 => first | assumption | omega); (case zqk5 => first | assumption | omega); (case zqk6 => first | assumption | omega); (case zqk7 => with_unfolding_all rfl); k_whole; intro c' t' hc9)
    | (refine' item_texts ?zqk1 ?zqk2 ?zqk3 ?zqk4 ?zqk5 ?zqk6 ?_ ?zqk7; (case zqk1 => is_list); (case zqk2 => exact (OptsAre.none (OptsAre.some _ _ (OptsAre.some _ _ (OptsAre.some _ _ (OptsAre.some _ _ (OptsAre.some _ _ (OptsAre.some _ _ (OptsAre.some _ _ (OptsAre.some _ _ OptsAre.nil)))))))))); (case zqk3 => (repeat (first | exact shorts_nil | refine shorts_none ?_ | refine shorts_some (by decide) ?_))); (case zqk4 => first | assumption | omega); (case zqk5 => ((try simp only [List.length_cons, List.length_nil]); omega)); (case zqk6 => ((try simp only [List.length_cons, List.length_nil]); omega)); (case zqk7 => with_unfolding_all rfl); k_whole; intro v' o' hv9 hc9)))
  k_with "subscriptTail List cons Call ref int" => (k_here; (with_reducible show wpAny _ _ (subscriptTail _ _ (Value.ref _) (Value.int _ _)) _ _ _); k_dflt (first
    | (refine' item_words ?zqk1 ?zqk2 ?zqk3 ?zqk4 ?zqk5 ?zqk6 ?_ ?zqk7; (case zqk1 => is_list); (case zqk2 => assumption); (case zqk3 => assumption); (case zqk4 => first | assumption | omega); (case zqk5 => first | assumption | omega); (case zqk6 => first | assumption | omega); (case zqk7 => with_unfolding_all rfl); k_whole; intro c' t' hc9)
    | (refine' item_texts ?zqk1 ?zqk2 ?zqk3 ?zqk4 ?zqk5 ?zqk6 ?_ ?zqk7; (case zqk1 => is_list); (case zqk2 => exact (OptsAre.none (OptsAre.some _ _ (OptsAre.some _ _ (OptsAre.some _ _ (OptsAre.some _ _ (OptsAre.some _ _ (OptsAre.some _ _ (OptsAre.some _ _ (OptsAre.some _ _ OptsAre.nil)))))))))); (case zqk3 => (repeat (first | exact shorts_nil | refine shorts_none ?_ | refine shorts_some (by decide) ?_))); (case zqk4 => first | assumption | omega); (case zqk5 => ((try simp only [List.length_cons, List.length_nil]); omega)); (case zqk6 => ((try simp only [List.length_cons, List.length_nil]); omega)); (case zqk7 => with_unfolding_all rfl); k_whole; intro v' o' hv9 hc9)))
  k_with "GenPost" => (k_here; (rename News _ _ _ _ => nE'); (try simp only [List.push_toArray] at nE'); k_dflt (refine' pool_next ?zqk1 ?zqk2 ?zqk3 ?zqk4 ?zqk5 ?zqk6 ?zqk7 ?zqk8 ?zqk9 ?zqk10 ?zqk11 ?zqk12 ?zqk13 ?zqk14 ?zqk15 ?zqk16 ?zqk17 ?zqk18; (case zqk1 => k_asm); (case zqk2 => (intro z9 h8 h9; simp only [if_neg h8])); (case zqk3 => k_asm); (case zqk4 => k_mem); (case zqk5 => k_mem); (case zqk6 => k_mem); (case zqk7 => k_mem); (case zqk8 => k_mem); (case zqk9 => assumption); (case zqk10 => assumption); (case zqk11 => assumption); (case zqk12 => assumption); (case zqk13 => first | assumption | exact OptsAre.some _ _ OptsAre.nil); (case zqk14 => first | assumption | exact word_ok (by assumption)); (case zqk15 => assumption); (case zqk16 => assumption); (case zqk17 => assumption); (case zqk18 => assumption)))
  k_with "callWith builtin:list.append" => (refine callWith_method1 ?_)
  k_with "call ref" => (k_here; (with_reducible show wpAny _ _ (call (Value.ref 124) _) _ _ _); k_dflt (refine' character_call ?zqkH ?zqk1 ?zqk2 ?zqk3 ?zqk5 ?zqkK ?zqkd ?zqku ?zqk20 ?zqk21 ?_; (case zqkH => exact fun _ _ => trivial); (case zqk1 => k_asm); (case zqk2 => k_asm); (case zqk3 => k_asm); (case zqk5 => k_asm); (case zqkK => first | exact rfl | assumption); (case zqkd => ktr_room); (case zqku => ktr_units); (case zqk20 => exact news_get (by k_asm) (by k_mem)); (case zqk21 => first | assumption | omega); k_whole; intro x' l' h' tk' mv' ml'; (have vk' : VecKind x' (Str.ofString "character") := ⟨⟩); obtain ⟨kp', dx', a1', a2', b1', c1', d1', e1', n9', g1', g2', g3', g4'⟩ := mv'; obtain ⟨⟨n8', g5'⟩, g6'⟩ := ml'; (have N3' := news_add (by k_asm) (news_add (by k_asm) (news_add (by k_asm) (news_kept (by k_asm) kp') g5' g6') g2' g4') g1' g3'); (have F' := Fr.keeps (by k_asm) kp'); (try k_sweep)))
  k_with "call ref" => (k_here; (with_reducible show wpAny _ _ (call (Value.ref 117) _) _ _ _); k_dflt (refine' integer_call ?zqkH ?zqk1 ?zqk2 ?zqk3 ?zqk5 ?zqkK ?zqkd ?zqku ?zqk20 ?zqk21 ?_; (case zqkH => exact fun _ _ => trivial); (case zqk1 => k_asm); (case zqk2 => k_asm); (case zqk3 => k_asm); (case zqk5 => k_asm); (case zqkK => first | exact rfl | assumption); (case zqkd => ktr_room); (case zqku => ktr_units); (case zqk20 => exact news_get (by k_asm) (by k_mem)); (case zqk21 => exact Nat.le_of_ble_eq_true rfl); k_whole; intro x' l' h' tk' mv' ml'; (have vk' : VecKind x' (Str.ofString "integer") := ⟨⟩); obtain ⟨kp', dx', a1', a2', b1', c1', d1', e1', n9', g1', g2', g3', g4'⟩ := mv'; obtain ⟨⟨n8', g5'⟩, g6'⟩ := ml'; (have N3' := news_add (by k_asm) (news_add (by k_asm) (news_add (by k_asm) (news_kept (by k_asm) kp') g5' g6') g2' g4') g1' g3'); (have F' := Fr.keeps (by k_asm) kp'); (try k_sweep)))
  k_with "call ref" => (k_here; (with_reducible show wpAny _ _ (call (Value.ref 110) _) _ _ _); k_dflt (refine' null_call ?zqkH ?zqk1 ?zqk2 ?zqk3 ?zqk5 ?zqkK ?zqkd ?zqku  ?_; (case zqkH => exact fun _ _ => trivial); (case zqk1 => k_asm); (case zqk2 => k_asm); (case zqk3 => k_asm); (case zqk5 => k_asm); (case zqkK => first | exact rfl | assumption); (case zqkd => ktr_room); (case zqku => ktr_units);  k_whole; intro x' h' tk' mv'; (have vk' : VecKind x' (Str.ofString "NULL") := ⟨⟩); obtain ⟨kp', dx', a1', a2', c1', n9', g1', g2', g3', g4'⟩ := mv'; (have N3' := news_add (by k_asm) (news_add (by k_asm) (news_kept (by k_asm) kp') g2' g4') g1' g3'); (have F' := Fr.keeps (by k_asm) kp'); (try k_sweep)))
  k_with "call ref" => (k_here; (with_reducible show wpAny _ _ (call (Value.ref 190) _) _ _ _); k_dflt (first
    | ((refine kind_guard (ks := Str.ofString "character") (by with_reducible assumption) ?_); refine' chosen_chr ?zqkH ?zqk1 ?zqk2 ?zqk3 ?zqk5 ?zqkK ?zqkd ?zqku ?zqk20 ?zqk21 ?zqk22 ?zqk23 ?zqk24 ?zqk25 ?zqk26 ?zqk27 ?zqk28 ?zqk29 ?zqk30 ?zqk31 ?zqk32 ?_ ?_; (case zqk2 => k_asm); (case zqk27 => exact news_get (by k_asm) (by k_mem)); (case zqkH => exact fun _ _ => trivial); (case zqk1 => k_asm); (case zqk3 => k_asm); (case zqk5 => k_asm); (case zqkK => first | exact rfl | assumption); (case zqkd => ktr_room); (case zqku => ktr_units); (case zqk20 => exact news_get (by k_asm) (by k_mem)); (case zqk21 => exact news_get (by k_asm) (by k_mem)); (case zqk22 => exact news_get (by k_asm) (by k_mem)); (case zqk23 => assumption); (case zqk24 => assumption); (case zqk25 => assumption); (case zqk26 => assumption); (case zqk28 => exact news_get (by k_asm) (by k_mem)); (case zqk29 => exact news_get (by k_asm) (by k_mem)); (case zqk30 => first | assumption | exact opts_of_strs (by assumption)); (case zqk31 => first | assumption | exact map_len (by assumption)); (case zqk32 => first | assumption | exact texts_map (by assumption)); k_whole; rotate_left; intro e' dx' od' msg' t' B' h' tk' e9' FL'; rotate_right; intro x' l' us' ss' h' tk' e9' mv' ml' hs9'; (have z9' := due_len e9' hs9' (by first | assumption | exact map_len (by assumption))); obtain ⟨kp', dx', a1', a2', b1', c1', d1', e1', n9', g1', g2', g3', g4'⟩ := mv'; obtain ⟨⟨n8', g5'⟩, g6'⟩ := ml'; (have N3' := news_add (by k_asm) (news_add (by k_asm) (news_add (by k_asm) (news_kept (by k_asm) kp') g5' g6') g2' g4') g1' g3'); (have F' := Fr.keeps (by k_asm) kp'); (try k_sweep))
    | ((refine kind_guard (ks := Str.ofString "NULL") (by with_reducible assumption) ?_); refine' chosen_null ?zqkH ?zqk1 ?zqk2 ?zqk3 ?zqk5 ?zqkK ?zqkd ?zqku ?zqk20 ?zqk21 ?zqk22 ?zqk23 ?zqk24 ?zqk25 ?zqk26 ?zqk27 ?zqk28 ?_; (case zqkH => exact fun _ _ => trivial); (case zqk1 => k_asm); (case zqk2 => k_asm); (case zqk3 => k_asm); (case zqk5 => k_asm); (case zqkK => first | exact rfl | assumption); (case zqkd => ktr_room); (case zqku => ktr_units); (case zqk20 => exact news_get (by k_asm) (by k_mem)); (case zqk21 => exact news_get (by k_asm) (by k_mem)); (case zqk22 => exact news_get (by k_asm) (by k_mem)); (case zqk23 => assumption); (case zqk24 => assumption); (case zqk25 => assumption); (case zqk26 => assumption); (case zqk27 => exact news_get (by k_asm) (by k_mem)); (case zqk28 => exact news_get (by k_asm) (by k_mem)); k_whole; intro x' l' t' h' tk' mv' ml'; obtain ⟨kp', dx', a1', a2', b1', c1', d1', e1', n9', g1', g2', g3', g4'⟩ := mv'; obtain ⟨⟨n8', g5'⟩, g6'⟩ := ml'; (have N3' := news_add (by k_asm) (news_add (by k_asm) (news_add (by k_asm) (news_kept (by k_asm) kp') g5' g6') g2' g4') g1' g3'); (have F' := Fr.keeps (by k_asm) kp'); (try k_sweep))
    | ((refine kind_guard (ks := Str.ofString "integer") (by with_reducible assumption) ?_); refine' chosen_int ?zqkH ?zqk1 ?zqk2 ?zqk3 ?zqk5 ?zqkK ?zqkd ?zqku ?zqk20 ?zqk21 ?_; (case zqkH => exact fun _ _ => trivial); (case zqk1 => k_asm); (case zqk2 => k_asm); (case zqk3 => k_asm); (case zqk5 => k_asm); (case zqkK => first | exact rfl | assumption); (case zqkd => ktr_room); (case zqku => ktr_units); (case zqk20 => exact news_get (by k_asm) (by k_mem)); (case zqk21 => exact news_get (by k_asm) (by k_mem)); k_whole; intro e' dx' od' msg' t' B' h' tk' e9' FL'; subst e9')))
  k_with "noteFrame ref" => (k_here; (rename Flown _ _ _ _ _ _ _ _ _ => flX); k_dflt (refine' caught_D ?zqk1 ?zqk2 ?zqk3 flX ?zqk5 ?zqk6 ?zqk7 ?_ ?zqk8 ?zqk9 ?zqk10; (case zqk1 => k_asm); (case zqk2 => k_asm); (case zqk3 => k_asm); (case zqk5 => k_asm); (case zqk6 => k_asm); (case zqk7 => k_is); (case zqk8 => exact rfl); (case zqk9 => with_unfolding_all rfl); (case zqk10 => with_unfolding_all rfl); k_whole; (have O9' := flX.own); intro h' oe' tk' F' N' hc9' hd9' hn9'; (try k_sweep)))
  k_with "getAttr ref" => (k_here; (with_reducible show wpAny _ _ (getAttr _ (Str.ofString "message") _) _ _ _); k_dflt (refine' get_msg ?zqk1 ?zqk2 ?zqk3 ?zqk4 ?zqk5 ?zqk6 ?zqk7 ?zqk8 ?zqk9 ?_; (case zqk1 => k_asm); (case zqk2 => k_asm); (case zqk3 => k_asm); (case zqk4 => k_mem); (case zqk6 => assumption); (case zqk7 => assumption); (case zqk5 => k_mem); (case zqk8 => assumption); (case zqk9 => assumption); k_whole))
  k_with "compareOp NotEq ref ref" => (k_here; (with_reducible show wpAny _ _ (compareOp CmpOp.NotEq (Value.ref _) (Value.ref _)) _ _ _); k_dflt (refine' ne_same ?zqk1 ?zqk2 ?zqk3 ?zqk4 ?zqk5 ?_; (case zqk1 => is_list); (case zqk2 => assumption); (case zqk3 => is_list); (case zqk4 => assumption); (case zqk5 => first | decide | ktr_units); k_whole))
  k_with "compareOp Eq ref ref" => (k_here; (with_reducible show wpAny _ _ (compareOp CmpOp.Eq (Value.ref _) (Value.ref _)) _ _ _); k_dflt (refine' eq_same ?zqk1 ?zqk2 ?zqk3 ?zqk4 ?zqk5 ?_; (case zqk1 => is_list); (case zqk2 => first | assumption | exact StrsAre.cons _ _ StrsAre.nil); (case zqk3 => is_list); (case zqk4 => first | assumption | exact StrsAre.cons _ _ StrsAre.nil); (case zqk5 => first | decide | ktr_units); k_whole))
  k_with "compareOp Eq str str" => (k_here; with_reducible refine eq_strS ?_)
  k_with "ite" => (k_here; k_openite; (refine ite_neg (by first | exact nb0 (by assumption) | exact nb1 (by assumption) | exact nb2 (by assumption)) ?_))
  k_with "call ref" => (k_here; (with_reducible show wpAny _ _ (call (Value.ref 211) _) _ _ _); k_dflt (first
    | (refine' due_list ?zqkH ?zqk1 ?zqk2 ?zqk3 ?zqk5 ?zqkK ?zqkd ?zqku ?zqk20 ?zqk21 ?zqk22 ?zqk23 ?zqk24 ?zqk25 ?zqk26 ?zqk27 ?zqk28 ?zqk29 ?_; (case zqkH => exact fun _ _ => trivial); (case zqk1 => k_asm); (case zqk2 => k_asm); (case zqk3 => k_asm); (case zqk5 => k_asm); (case zqkK => first | exact rfl | assumption); (case zqkd => ktr_room); (case zqku => ktr_units); (case zqk20 => exact news_get (by k_asm) (by k_mem)); (case zqk21 => assumption); (case zqk22 => assumption); (case zqk23 => assumption); (case zqk24 => assumption); (case zqk25 => exact news_get (by k_asm) (by k_mem)); (case zqk26 => first | assumption | exact opts_of_strs (by assumption)); (case zqk27 => first | assumption | exact map_len (by assumption)); (case zqk28 => first | assumption | exact texts_map (by assumption)); (case zqk29 => first | exact due_0 (by assumption) | exact due_tx' (by assumption) (by first | assumption | exact ns0 (by assumption) | exact ns2 (by assumption) | omega) (by first | assumption | exact ns1 (by assumption) | omega)); k_whole; intro l' us' n' h' tk' kp' g1' g2' hs9'; (have N' := news_add (by k_asm) (news_kept (by k_asm) kp') g1' g2'); (have F' := Fr.keeps (by k_asm) kp'); (try k_sweep))
    | (refine' due_msg ?zqkH ?zqk1 ?zqk2 ?zqk3 ?zqk5 ?zqkK ?zqkd ?zqku ?zqk20 ?zqk21 ?zqk22 ?zqk23 ?zqk24 ?zqk25 ?zqk26 ?zqk27 ?zqk28 ?zqk29 ?_; (case zqkH => exact fun _ _ => trivial); (case zqk1 => k_asm); (case zqk2 => k_asm); (case zqk3 => k_asm); (case zqk5 => k_asm); (case zqkK => first | exact rfl | assumption); (case zqkd => ktr_room); (case zqku => ktr_units); (case zqk20 => exact news_get (by k_asm) (by k_mem)); (case zqk21 => assumption); (case zqk22 => assumption); (case zqk23 => assumption); (case zqk24 => assumption); (case zqk25 => exact news_get (by k_asm) (by k_mem)); (case zqk26 => first | assumption | exact opts_of_strs (by assumption)); (case zqk27 => first | assumption | exact map_len (by assumption)); (case zqk28 => first | assumption | exact texts_map (by assumption)); (case zqk29 => first | exact due_1 (by first | assumption | exact ns0 (by assumption) | exact ns2 (by assumption) | omega) (by assumption) | exact due_tx' (by assumption) (by first | assumption | exact ns0 (by assumption) | exact ns2 (by assumption) | omega) (by first | assumption | exact ns1 (by assumption) | omega)); k_whole; intro t' h' tk' kp'; (have N' := news_kept (by k_asm) kp'); (have F' := Fr.keeps (by k_asm) kp'); (try k_sweep))))
  k_with "LawEnd" => (k_here; k_dflt (refine' LawEnd.intro ?zqk1; (case zqk1 => k_asm)))
  k_with "execs cons If cons" => (k_here; (with_reducible show wpAny _ _ (execs (Stmt.If (Expr.Compare (Expr.Name (Str.ofString "sort") _) [CmpOp.Gt] _ _) _ _ _ :: _) _) _ _ _); k_dflt (refine' join_sort ?zqk1 ?zqk2 ?zqk3 ?zqk4 ?zqk5 ?zqk6 ?zqk7 ?zqk8 ?_ ?_; (case zqk1 => k_asm); (case zqk2 => k_asm); (case zqk3 => exact rfl); (case zqk4 => exact rfl); (case zqk5 => exact rfl); (case zqk6 => k_mem); (case zqk7 => k_mem); (case zqk8 => k_mem); rotate_left; intro h' tk' D' us' n' os' sp' v' t1' t2' m9' hpD' hY' hl' hl9 hS' ok' F' N'; (try k_sweep); rotate_right))
  k_with "JoinI" => (k_here; k_dflt (refine' sort_next ?zqk1 ?zqk2 ?zqk3 ?zqk4 ?zqk5 ?zqk6 ?zqk7 ?zqk8 ?zqk9 ?zqk10 ?zqk20 ?zqk11 ?zqk12 ?zqk13 ?zqk14 ?zqk15 ?zqk16; (case zqk1 => k_asm); (case zqk2 => k_asm); (case zqk3 => exact rfl); (case zqk4 => exact rfl); (case zqk5 => exact rfl); (case zqk6 => exact rfl); (case zqk7 => k_mem); (case zqk8 => k_mem); (case zqk9 => k_mem); (case zqk10 => k_mem); (case zqk20 => first | assumption | omega); (case zqk11 => first | assumption | exact opts_of_strs (by assumption)); (case zqk12 => assumption); (case zqk13 => first | assumption | exact map_len (by assumption)); (case zqk14 => first | assumption | exact texts_map (by assumption)); (case zqk15 => assumption); (case zqk16 => first | exact Nat.le_of_ble_eq_true rfl | omega)))
  trivial
set_option maxHeartbeats 8000000 in
theorem law_holds : PySem.Challenge.rw_nz0469_01.Holds := hd (by
  k_go0
  all_goals try k_fold
  all_goals (refine law_cut (by k_asm) ?_ ?_)
  k_steps
  all_goals try k_data
  all_goals w_report)
end Mine
end
theorem PySem.Challenge.cw_nz0469_01_holds : PySem.Challenge.rw_nz0469_01.Holds := by
  exact Mine.law_holds
