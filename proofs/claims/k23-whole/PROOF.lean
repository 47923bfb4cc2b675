import PyProof.Rows.All
import Wide.All
import OpenK.AllK
import Wide.FinOn
import KE.KStateDown
import HandS.ForMost
import HandS.Defaults
import HandS.Head0
import HandS.Head1
import HandS.Head2
import HandS.HeadEnd
import HandS.HeadHook1
import HandS.HeadHook2
import HandS.HeadHook3
import HandS.HeadHook4
import HandS.Wide
import HandS.TupAny
import HandS.IsInst
import HandS.Conv
import HandS.Style
import HandS.Walk
import HandS.DictComp
import HandS.WideBits
import HandS.TupLen
import HandS.Iter
import HandS.Zip
import KE.GoesMore
import KE.GoesEnum
import HandS.SortInts
import HandS.ListItems
import HandS.More
import KE.KDictDisplayH
import KE.SortData
import PyProof.ReprRoads
import PyProof.ReprBulk
import PyProof.CallFns
import KE.KDictZip
import HandS.TupLe
import PyProof.Rows.ReprOcc
import PySem.Challenge.RW_drawnbits_k23_whole_machines_that_run_th
set_option Elab.async false
set_option maxRecDepth 100000
set_option maxHeartbeats 4000000
namespace Dr
open PySem PySem.Spec PyProof.Rows L2
/-! ### the text by places -/
def top (i : Nat) : Stmt := PySem.Challenge.pw_drawnbits_k23_whole_machines_that_run_th.main.body.getD i (.Pass ⟨0, 0, 0, 0⟩)
abbrev FnP (K : PySem.W.Frag) (x : Str) (i : Nat) (fd : FuncData) : Prop := FunD K x x (defArgs (top i)) (defBody (top i)) (defScope (top i)) [] [] (He.ga K x) fd
def dOf (x : Str) (i : Nat) : He.DefD := ⟨(x, none), x, x, defArgs (top i), defBody (top i), defScope (top i), [], []⟩
def fn0 : List (Str × Nat) := [("is_integer", 6), ("is_between", 7), ("are_between", 8), ("is_word", 9), ("is_exactly", 10), ("are_bits_value", 11), ("divisor_of", 16), ("lowest", 17), ("plus", 18), ("minus", 19), ("times", 20), ("over", 21), ("is_standing", 26), ("is_machine_value", 27), ("need_machine", 28), ("run_from", 29), ("ways_from", 30), ("raw_reached", 31), ("ways_out", 32), ("first_level", 33)]
def fn1 : List (Str × Nat) := [("next_level", 34), ("ended", 35), ("unit_of", 36), ("equations_of", 37), ("put_in", 38), ("without_itself", 39), ("raw_values", 40), ("raw_chances", 41), ("lots_of", 43), ("raw_folded", 44), ("folded", 45), ("need_two", 46), ("parting_bits", 47), ("judge_runs", 48), ("runs_hold", 49), ("unlike_length", 50), ("judge_lengths", 51), ("are_alike", 52), ("need_bits", 54), ("run", 56)]
def fn2 : List (Str × Nat) := [("_law_deck", 58), ("_law_draw", 59), ("_law_pick", 60), ("_law_machine", 61), ("_law_reached", 62), ("_law_run", 63), ("_law_are_bits", 64), ("_law_folded", 65), ("_law_grown", 66), ("_law_changed", 67), ("_law_same", 68), ("_law_is_pair_right", 69), ("law", 70)]
def fnL : List (Str × Nat) := fn0 ++ fn1 ++ fn2
def freeL : List Str := ["abs", "all", "bool", "enumerate", "int", "isinstance", "len", "list", "max", "min", "range", "repr", "sorted", "str", "tuple", "zip"]
def lo0 : List PySem.Str := ["DrawError", "BadBits", "BadMachine", "OtherSize", "is_integer", "is_between", "are_between", "is_word", "is_exactly", "are_bits_value", "ZERO", "ONE", "HALF", "divisor_of", "lowest", "plus", "minus", "times", "over", "MOST_OUTCOMES"]
def lo1 : List PySem.Str := ["TOSS", "OUT", "is_standing", "is_machine_value", "need_machine", "run_from", "ways_from", "raw_reached", "ways_out", "first_level", "next_level", "ended", "unit_of", "equations_of", "put_in", "without_itself", "raw_values", "raw_chances", "lots_of", "raw_folded"]
def lo2 : List PySem.Str := ["folded", "need_two", "parting_bits", "judge_runs", "runs_hold", "unlike_length", "judge_lengths", "are_alike", "need_bits", "run", "_law_deck", "_law_draw", "_law_pick", "_law_machine", "_law_reached", "_law_run", "_law_are_bits", "_law_folded", "_law_grown", "_law_changed"]
def lo3 : List PySem.Str := ["_law_same", "_law_is_pair_right"]
def looseL : List PySem.Str := lo0 ++ lo1 ++ lo2 ++ lo3
def fn : List He.DefD := fnL.map fun p => dOf p.1 p.2
def fa : List He.Fa := (fnL.map fun p => He.Fa.glo p.1) ++ (freeL.map fun x => He.Fa.free x) ++ [He.Fa.str "TOSS" "toss", He.Fa.str "OUT" "out", He.Fa.int "MOST_OUTCOMES" 8, He.Fa.glo "ZERO", He.Fa.glo "ONE", He.Fa.glo "HALF"]
def exB (K : PySem.W.Frag) : Bool := He.tupB K "ZERO" [.int 0, .int 1] && (He.tupB K "ONE" [.int 1, .int 1] && He.tupB K "HALF" [.int 1, .int 2])
abbrev R : PySem.W.OpenRow := PySem.W.OpenLaw.row PySem.Challenge.rw_drawnbits_k23_whole_machines_that_run_th
abbrev hk : PySem.W.Hook := He.hookX 4 fa fn [] [] exB
def ob (s : PySem.W.SharedT) : He.AlX := He.obsX 4 fa fn [] [] exB (HandSHeadRun.getT s)
theorem ob_eq (s : PySem.W.SharedT) : ob s = hk.obs s.abs := He.obsX_eq (HandSHeadRun.getT_eq s)
end Dr
set_option Elab.async false
set_option maxRecDepth 100000
set_option maxHeartbeats 0
namespace Dr
open PySem PySem.Spec PyProof.Rows L2
theorem run (w : World) : HandSHeadRun.RunEq R (PySem.W.view R.prog [70]) hk ob 4000 looseL w := by
  intro os
  kernel_rfl
end Dr
set_option Elab.async false
set_option linter.all false
set_option maxRecDepth 100000
set_option maxHeartbeats 4000000
namespace Dr
open PySem PySem.Spec PyProof.Rows L2
/-! ### defs that run where no guard of a repr stands around -/
/-- room for k calls, no guard around -/
structure Rm (k : Nat) (A : Around) : Prop where
  room : Room k A
  gd : A.guards = some []
theorem Rm.mono {j k : Nat} {A : Around} (r : Rm k A) (h : j ≤ k) : Rm j A := ⟨r.room.mono h, r.gd⟩
structure FnG (P : Program) (w : World) (K : PySem.W.Frag) (mg : Str → Option Value) (base : Heap) (k : Nat) (f : Addr) (fd : FuncData) (ps : List Str) (sp : Sp) : Prop where
  len : ∀ vs H Q E, sp vs H Q E → vs.length = ps.length
  run : ∀ (A : Around) (outer : List Env) (s : Shared) (H : Hp) (args : Args) (us : List Value) (vs : List V) (Q : VK) (E : XK), Rm k A → Env0 P w K mg base A outer s H → BindsTo s fd args (ps.zip us) →
    Vals vs us → sp vs H Q E → codeAny (model P w) A (.call (.ref f) args) (CR CX0 outer P w H s Q E) s
section
variable {P : Program} {w : World} {K : PySem.W.Frag} {mg : Str → Option Value} {base : Heap} {k : Nat} {f : Addr} {fd : FuncData} {ps : List Str} {sp : Sp}
theorem FnG.mono {j : Nat} (F : FnG P w K mg base j f fd ps sp) (h : j ≤ k) : FnG P w K mg base k f fd ps sp :=
  ⟨F.len, fun A outer s H args us vs Q E r => F.run A outer s H args us vs Q E (r.mono h)⟩
/-- a def of the text by its body -/
theorem fnG_of {x : Str} {st : Stmt} {N : List Str} (F : FunD K x x (defArgs st) (defBody st) (defScope st) [] [] f fd) (S : FnScope N ps (defScope st)) (len : ∀ vs H Q E, sp vs H Q E → vs.length = ps.length)
    (body : ∀ (cdv : Value) (A : Around) (outer : List Env) (s : Shared) (H : Hp) (vs : List V) (Q : VK) (E : XK), Rm k (A.deeper (envOfC x (defScope st) s.heap.objs.size f cdv)) → sp vs H Q E →
      ∃ t, PSs (cxOf CX0 P w K mg base N x (defScope st) f cdv A outer s H E).nox (defBody st) t ∧ t { nx := fun _ H' => Q .non H', rt := Q } (start N vs) H) : FnG P w K mg base (k + 1) f fd ps sp := by
  obtain ⟨o1, o2, o3, o4, o5, o6, o7, cdv, o9, o10, rfl, look, code, _, _⟩ := F.ex
  refine ⟨len, ?_⟩
  intro A outer s H args us vs Q E room env bind rel want
  have old : ∀ b o, base.get? b = some o → s.heap.get? b = some o := fun b o e => (env.bs b o e).1
  have kin : K.In s.heap := env.mod.kin.keeps old
  have kinds : ∀ y ∈ ps.zip us, (defScope st).names.lookup y.1 = some .local ∨ ((defScope st).names.lookup y.1 = some .cell ∧ ((cellsFrom (s.heap.objs.size + 1) (defScope st).names []).lookup y.1).isSome = true) := by
    rintro ⟨n, v⟩ hy
    rcases S.par n (List.of_mem_zip hy).1 with q | q
    · exact .inl q
    · exact .inr ⟨q, PySem.W.cellsFrom_some _ _ _ (.inl q)⟩
  refine codeAny_call_function room.room.depth (kin _ _ look) rfl S.co S.gen rfl (PySem.W.codeRec_of kin code) (bind _ _ _ _ ?_)
  refine wpAny_newFunctionEnv_cells S.kind kinds fun en hen s1 inC => ?_
  subst hen
  refine ⟨(env.mod.nolimit.keeps old).keeps inC.toInCall.keep, codeAny_func ?_⟩
  obtain ⟨t, ht, hq⟩ := body cdv A outer s H vs Q E ⟨room.room.deeper _, room.gd⟩ want
  have I := inv_start (CX := CX0) (P := P) (w := w) (K := K) (mg := mg) (base := base) (f := f) (cd := cdv) (qual := x) (E := E) S room.room.hd env (len _ _ _ _ want) rel inC
  refine wpAny_mono (ht.nox.run [] s1 (start N vs) H _ I hq) ?_ fun e s2 hs => hs
  intro fl s2 hs
  cases fl with
  | next =>
    obtain ⟨_, H2, J, q⟩ := hs
    exact ⟨.non, H2, J.os, J.bare, J.base, J.hok, rfl, q⟩
  | ret u =>
    obtain ⟨v, _, H2, J, rv, q⟩ := hs
    exact ⟨v, H2, J.os, J.bare, J.base, J.hok, rv, q⟩
  | brk => exact hs.elim fun _ h => h.elim fun _ h => False.elim h.2
  | cont => exact hs.elim fun _ h => h.elim fun _ h => False.elim h.2
end
section
variable {X : Cx} {k : Nat} {f : Addr} {fd : FuncData} {ps : List Str} {sp : Sp} {x : Str} {p pos : Pos} {e : Expr} {es : List Expr} {t : TA}
theorem runG {pins : List (Addr × Obj)} {σ : L2.St} {H : Hp} {s : Shared} {Q : VK} {us : List Value} {kw : List (Str × Value)} {vs : List V} {al : List Value} (F : FnG X.prog X.w X.K X.mg X.base k f fd ps sp) (hr : Rm k X.A) (I : Inv X pins σ H s)
    (hb : BindsTo s fd ⟨us, kw⟩ (ps.zip al)) (r : Vals vs al) (h : sp vs H Q E0) : wpAny (model X.prog X.w) X.A (call (.ref f) us kw) (EP X pins σ Q) X.xe s := by
  refine wpAny_call (codeAny_mono (F.run X.A X.stack s H ⟨us, kw⟩ al vs Q E0 hr I.env0 hb r h) ?_)
  intro r s2 hq
  cases r with
  | error e => exact False.elim hq
  | ok fl => cases fl with
    | ret u => exact I.after hq
    | _ => exact False.elim hq
/-- f(e, ..) -/
theorem pe_callG (F : FnG X.prog X.w X.K X.mg X.base k f fd ps sp) (hr : Rm k X.A) (hm : X.mg x = some (.ref f)) (hk : PySem.W.keepIn X.K (.ref f) = true) (hb : Binds X.K fd ps []) (ha : PA X (e :: es) t) (hg : Gl X x := by rfl) (hdb : (x == ("__debug__" : Str)) = false := by decide)
    (he : starEach (e :: es) X.env = (false, eval e X.env) :: starEach es X.env := by rfl) (hpl : (backTo pos (starEach es X.env)).any (·.1) = false := by rfl) : PE X (.Call (.Name x p) (e :: es) [] pos) (fun σ H Q => t σ H fun vs H1 => sp vs H1 Q E0) := by
  refine ⟨fun pins s σ H Q I h => wpAny_Call_Name_kw (ld_glob I hg hm ?_ hdb)⟩
  refine PySem.W.callWith_K (h₀ := X.base) I.ok.mod.kin hk (thn (ha.run pos pins s σ H _ I h) ?_) he hpl
  rintro us s1 ⟨vs, H1, I1, r, q⟩
  refine ⟨I1.kIn, runG F hr I1 ?_ r q⟩
  have z := hb s1 us I1.kIn (by rw [List.append_nil, ← r.length]; exact F.len _ _ _ _ q)
  rw [List.append_nil] at z
  exact z
/-- f() -/
theorem pe_callG0 (F : FnG X.prog X.w X.K X.mg X.base k f fd ps sp) (hr : Rm k X.A) (hm : X.mg x = some (.ref f)) (hk : PySem.W.keepIn X.K (.ref f) = true) (hb : Binds X.K fd ps []) (hg : Gl X x := by rfl) (hdb : (x == ("__debug__" : Str)) = false := by decide) :
    PE X (.Call (.Name x p) [] [] pos) (fun σ H Q => sp [] H Q E0) := by
  refine ⟨fun pins s σ H Q I h => wpAny_Call_Name_kw (ld_glob I hg hm ?_ hdb)⟩
  refine PySem.W.callWith_K0 I.kIn hk (runG (us := []) F hr I ?_ .nil h)
  have z := hb s [] I.kIn (by rw [List.append_nil, ← F.len _ _ _ _ h]; rfl)
  exact z
/-- how a call by keywords alone binds: ws the keywords' values as they are written (names ks), g ws in the parameters' order -/
structure KwB (fd : FuncData) (ps ks : List Str) (g : List Value → List Value) (gV : List V → List V) : Prop where
  to : ∀ ws : List Value, ws.length = ks.length → bindArgs fd ⟨[], ks.zip ws⟩ = pure (ps.zip (g ws))
  rel : ∀ {zs : List V} {ws : List Value}, Vals zs ws → zs.length = ks.length → Vals (gV zs) (g ws)
/-- f(k = e, ..) -/
theorem pe_callGk {kws : List Keyword} {ks : List Str} {tk : TA} {g : List Value → List Value} {gV : List V → List V} (F : FnG X.prog X.w X.K X.mg X.base k f fd ps sp) (hr : Rm k X.A) (hm : X.mg x = some (.ref f)) (hk : PySem.W.keepIn X.K (.ref f) = true) (hb : KwB fd ps ks g gV)
    (hkw : PK X kws tk) (hg : Gl X x := by rfl) (hall : (backToKw pos (keywordEach kws X.env)).all (·.1.isSome) = true := by rfl) (hks : (backToKw pos (keywordEach kws X.env)).filterMap (·.1) = ks := by rfl) (hdb : (x == ("__debug__" : Str)) = false := by decide)
    (hpl : ((backTo pos (starEach [] X.env)).any (·.1) || (backToKw pos (keywordEach kws X.env)).any (·.1.isNone)) = false := by rfl) :
    PE X (.Call (.Name x p) [] kws pos) (fun σ H Q => tk σ H fun zs H1 => zs.length = ks.length ∧ sp (gV zs) H1 Q E0) := by
  refine ⟨fun pins s σ H Q I h => wpAny_Call_Name_kw (ld_glob I hg hm ?_ hdb)⟩
  refine PySem.W.callWith_KW0 (h₀ := X.base) I.ok.mod.kin hk hall (thn (hkw.run pos pins s σ H _ I h) ?_) hpl
  rintro ws s2 ⟨zs, H2, I2, rz, hl, q⟩
  refine ⟨I2.kIn, ?_⟩
  rw [hks]
  exact runG (us := []) F hr I2 (BindsTo.of_eq (hb.to ws (rz.length.symm.trans hl))) (hb.rel rz hl) q
end
end Dr
set_option Elab.async false
set_option linter.all false
set_option maxRecDepth 100000
set_option maxHeartbeats 4000000
namespace Dr
open PySem PySem.Spec PyProof.Rows L2
/-! ### immutable data and its standing in the abstract heap -/
inductive D where
  | non | bl (b : Bool) | int (i : Int) | str (x : Str) | tup (ds : List D) | lst (ds : List D) | dic (ks : List Nat) (ds : List D) | key (ks : List Nat)
mutual
inductive Im (K : PySem.W.Frag) (H : Hp) : V → D → Prop
  | non : Im K H .non .non
  | bl (b : Bool) : Im K H (.bl b) (.bl b)
  | int (i : Int) : Im K H (.int i) (.int i)
  | str (x : Str) : Im K H (.str x) (.str x)
  | tup {a : Addr} {xs : List V} {ds : List D} (h : SqT K H a xs) (hs : Ims K H xs ds) : Im K H (.ref a) (.tup ds)
  | lst {a : Addr} {xs : List V} {ds : List D} (h : Rd H a (.lst xs)) (hs : Ims K H xs ds) : Im K H (.ref a) (.lst ds)
  | dic {a : Addr} {kvs : List (Key × V)} {ks : List Nat} {ds : List D} (h : Rd H a (.dK kvs)) (hk : kvs.map (·.1) = ks.map fun k : Nat => Sum.inl (k : Int)) (hs : Ims K H (kvs.map (·.2)) ds) : Im K H (.ref a) (.dic ks ds)
  | key {a : Addr} {ks : List Nat} (h : H a = some (.tup (ks.map fun n : Nat => V.int n))) : Im K H (.ref a) (.key ks)
inductive Ims (K : PySem.W.Frag) (H : Hp) : List V → List D → Prop
  | nil : Ims K H [] []
  | cons {v : V} {vs : List V} {d : D} {ds : List D} (h : Im K H v d) (hs : Ims K H vs ds) : Ims K H (v :: vs) (d :: ds)
end
mutual
/-- no list, no dict in it -/
def D.pl : D → Bool
  | .lst _ => false
  | .dic _ _ => false
  | .tup ds => D.pls ds
  | _ => true
def D.pls : List D → Bool
  | [] => true
  | d :: ds => D.pl d && D.pls ds
end
theorem pls_map {α : Type} {f : α → D} (h : ∀ a, (f a).pl = true) : ∀ l : List α, D.pls (l.map f) = true
  | [] => rfl
  | a :: l => by
    show (D.pl (f a) && D.pls (l.map f)) = true
    rw [h a, pls_map h l]; rfl
theorem pls_all : ∀ {l : List D}, (∀ d ∈ l, d.pl = true) → D.pls l = true
  | [], _ => rfl
  | a :: l, h => by
    show (D.pl a && D.pls l) = true
    rw [h a (List.mem_cons_self ..), pls_all fun d m => h d (List.mem_cons_of_mem _ m)]; rfl
theorem pls_mem : ∀ {l : List D}, D.pls l = true → ∀ d ∈ l, d.pl = true
  | a :: l, h, d, m => by
    have q' : (a.pl && D.pls l) = true := h
    rw [Bool.and_eq_true] at q'
    rcases List.mem_cons.mp m with rfl | m
    · exact q'.1
    · exact pls_mem q'.2 d m
/-- the tuples of H stand in H' -/
structure Tx (K : PySem.W.Frag) (H H' : Hp) : Prop where
  sq : ∀ a xs, SqT K H a xs → SqT K H' a xs
  tp : ∀ a xs, H a = some (.tup xs) → H' a = some (.tup xs)
section
variable {K : PySem.W.Frag} {H H1 H2 : Hp}
theorem Tx.refl : Tx K H H := ⟨fun _ _ h => h, fun _ _ h => h⟩
theorem Tx.trans (a : Tx K H H1) (b : Tx K H1 H2) : Tx K H H2 := ⟨fun x xs h => b.sq x xs (a.sq x xs h), fun x xs h => b.tp x xs (a.tp x xs h)⟩
theorem Same.tx (e : Same H H1) : Tx K H H1 := by
  refine ⟨fun a xs h => ?_, fun a xs h => e _ _ h⟩
  rcases h with h | h
  · refine .inl ?_
    rcases h with h | ⟨o, h⟩
    · exact .inl (e _ _ h)
    · exact .inr ⟨o, e _ _ h⟩
  · exact .inr h
/-- what is no tuple may change -/
def NoT : HO → Prop
  | .tup _ => False
  | .frz _ _ => False
  | _ => True
theorem Tx.put {p : Addr} {o o' : HO} (h : H p = some o) (n : NoT o) : Tx K H (upd H p o') := by
  refine ⟨fun a xs q => ?_, fun a xs q => by
    have : a ≠ p := fun z => by subst z; rw [h] at q; obtain rfl := Option.some.inj q; exact n
    rw [upd_ne this]; exact q⟩
  rcases q with q | q
  · refine .inl ?_
    have ne : ∀ u, H a = some u → (∀ n : NoT u, False) → a ≠ p := fun u hu nn z => by
      subst z
      rw [h] at hu
      exact nn (by rw [← Option.some.inj hu]; exact n)
    rcases q with q | ⟨ob, q⟩
    · exact .inl (by rw [upd_ne (ne _ q fun n => n)]; exact q)
    · exact .inr ⟨ob, by rw [upd_ne (ne _ q fun n => n)]; exact q⟩
  · exact .inr q
theorem Same.new {p : Addr} {o : HO} (h : H p = none) : Same H (upd H p o) := fun b u e => by
  rw [upd_ne (ne_of_none e h)]
  exact e
/-- an object that H does not know may change -/
theorem Same.mut {p : Addr} {o : HO} (e : Same H H1) (h : H p = none) : Same H (upd H1 p o) := fun b u q => by
  rw [upd_ne (ne_of_none q h)]
  exact e _ _ q
mutual
theorem Im.up (e : Tx K H H1) : ∀ {v : V} {d : D}, d.pl = true → Im K H v d → Im K H1 v d
  | _, _, _, .non => .non
  | _, _, _, .bl b => .bl b
  | _, _, _, .int i => .int i
  | _, _, _, .str x => .str x
  | _, _, _, .key h => .key (e.tp _ _ h)
  | _, _, q, .tup h hs => .tup (e.sq _ _ h) (Ims.up e q hs)
  | _, _, q, .lst h hs => by cases q
  | _, _, q, .dic h hk hs => by cases q
theorem Ims.up (e : Tx K H H1) : ∀ {vs : List V} {ds : List D}, D.pls ds = true → Ims K H vs ds → Ims K H1 vs ds
  | _, _, _, .nil => .nil
  | _ :: _, d :: ds, q, .cons h hs => by
    have q' : (d.pl && D.pls ds) = true := q
    rw [Bool.and_eq_true] at q'
    exact .cons (Im.up e q'.1 h) (Ims.up e q'.2 hs)
end
/-- what is read in H is read in H1 -/
structure RS (H H1 : Hp) : Prop where
  rd : ∀ b u, (∀ o w, u ≠ HO.frz o w) → Rd H b u → Rd H1 b u
  tp : ∀ a xs, H a = some (.tup xs) → H1 a = some (.tup xs)
theorem Same.rd (e : Same H H1) {b : Addr} {u : HO} (h : Rd H b u) : Rd H1 b u := by
  rcases h with h | ⟨o, h⟩
  · exact .inl (e _ _ h)
  · exact .inr ⟨o, e _ _ h⟩
theorem Same.rs (e : Same H H1) : RS H H1 := ⟨fun b u _ h => Same.rd e h, fun _ _ h => e _ _ h⟩
theorem RS.refl : RS H H := ⟨fun _ _ _ h => h, fun _ _ h => h⟩
theorem RS.trans (a : RS H H1) (b : RS H1 H2) : RS H H2 := ⟨fun x u n h => b.rd x u n (a.rd x u n h), fun x u h => b.tp x u (a.tp x u h)⟩
theorem RS.tx (e : RS H H1) : Tx K H H1 := ⟨fun a xs h => h.imp (e.rd _ _ (fun _ _ z => nomatch z)) id, e.tp⟩
theorem nf_lst {xs : List V} : ∀ o w, HO.lst xs ≠ HO.frz o w := fun _ _ z => nomatch z
theorem nf_dk {xs : List (Key × V)} : ∀ o w, HO.dK xs ≠ HO.frz o w := fun _ _ z => nomatch z
mutual
theorem Im.rs (e : RS H H1) : ∀ {v : V} {d : D}, Im K H v d → Im K H1 v d
  | _, _, .non => .non
  | _, _, .bl b => .bl b
  | _, _, .int i => .int i
  | _, _, .str x => .str x
  | _, _, .key h => .key (e.tp _ _ h)
  | _, _, .tup h hs => .tup (e.tx.sq _ _ h) (Ims.rs e hs)
  | _, _, .lst h hs => .lst (e.rd _ _ nf_lst h) (Ims.rs e hs)
  | _, _, .dic h hk hs => .dic (e.rd _ _ nf_dk h) hk (Ims.rs e hs)
theorem Ims.rs (e : RS H H1) : ∀ {vs : List V} {ds : List D}, Ims K H vs ds → Ims K H1 vs ds
  | _, _, .nil => .nil
  | _, _, .cons h hs => .cons (Im.rs e h) (Ims.rs e hs)
end
theorem Im.ex {v : V} {d : D} (h : Im K H v d) (e : Same H H1) : Im K H1 v d := h.rs (Same.rs e)
theorem Ims.ex {vs : List V} {ds : List D} (h : Ims K H vs ds) (e : Same H H1) : Ims K H1 vs ds := h.rs (Same.rs e)
theorem Ims.len : ∀ {vs : List V} {ds : List D}, Ims K H vs ds → vs.length = ds.length
  | _, _, .nil => rfl
  | _, _, .cons _ hs => congrArg (· + 1) hs.len
theorem Ims.at_ : ∀ {vs : List V} {ds : List D} {i : Nat} {d : D}, Ims K H vs ds → ds[i]? = some d → ∃ v, vs[i]? = some v ∧ Im K H v d
  | _, _, _, _, .nil, e => by simp at e
  | _, _, 0, _, .cons h _, e => by simp at e; subst e; exact ⟨_, rfl, h⟩
  | _, _, i + 1, d, .cons _ hs, e => by
    obtain ⟨v, h1, h2⟩ := Ims.at_ (i := i) (d := d) hs (by simpa using e)
    exact ⟨v, by simpa using h1, h2⟩
theorem Ims.atV : ∀ {vs : List V} {ds : List D} {i : Nat} {v : V}, Ims K H vs ds → vs[i]? = some v → ∃ d, ds[i]? = some d ∧ Im K H v d
  | _, _, _, _, .nil, e => by simp at e
  | _, _, 0, _, .cons h _, e => by simp at e; subst e; exact ⟨_, rfl, h⟩
  | _, _, i + 1, d, .cons _ hs, e => by
    obtain ⟨v, h1, h2⟩ := Ims.atV (i := i) (v := d) hs (by simpa using e)
    exact ⟨v, by simpa using h1, h2⟩
theorem Ims.app : ∀ {vs : List V} {ds : List D} {ws : List V} {es : List D}, Ims K H vs ds → Ims K H ws es → Ims K H (vs ++ ws) (ds ++ es)
  | _, _, _, _, .nil, q => q
  | _, _, _, _, .cons h hs, q => .cons h (hs.app q)
theorem Ims.take : ∀ {vs : List V} {ds : List D} (n : Nat), Ims K H vs ds → Ims K H (vs.take n) (ds.take n)
  | _, _, 0, _ => by simp only [List.take_zero]; exact .nil
  | _, _, _ + 1, .nil => by simp only [List.take_nil]; exact .nil
  | _, _, n + 1, .cons h hs => .cons h (hs.take n)
theorem Ims.drop : ∀ {vs : List V} {ds : List D} (n : Nat), Ims K H vs ds → Ims K H (vs.drop n) (ds.drop n)
  | _, _, 0, q => q
  | _, _, _ + 1, .nil => .nil
  | _, _, n + 1, .cons _ hs => Ims.drop n hs
theorem Ims.rep {v : V} {d : D} (h : Im K H v d) : ∀ n : Nat, Ims K H (List.replicate n v) (List.replicate n d)
  | 0 => .nil
  | n + 1 => .cons h (Ims.rep h n)
theorem Ims.set {v : V} {d : D} (h : Im K H v d) : ∀ {vs : List V} {ds : List D} (n : Nat), Ims K H vs ds → Ims K H (vs.set n v) (ds.set n d)
  | _, _, _, .nil => .nil
  | _, _, 0, .cons _ t => .cons h t
  | _, _, n + 1, .cons q t => .cons q (Ims.set h n t)
theorem Im.intI {v : V} {i : Int} (h : Im K H v (.int i)) : v = .int i := by cases h; rfl
theorem Im.blI {v : V} {b : Bool} (h : Im K H v (.bl b)) : v = .bl b := by cases h; rfl
theorem Im.strI {v : V} {x : Str} (h : Im K H v (.str x)) : v = .str x := by cases h; rfl
theorem Im.nonI {v : V} (h : Im K H v .non) : v = .non := by cases h; rfl
theorem Im.tupI {v : V} {ds : List D} (h : Im K H v (.tup ds)) : ∃ a xs, v = .ref a ∧ SqT K H a xs ∧ Ims K H xs ds := by cases h with | tup h hs => exact ⟨_, _, rfl, h, hs⟩
theorem Ims.ints : ∀ {vs : List V} {is : List Int}, Ims K H vs (is.map D.int) → vs = is.map V.int
  | _, [], h => by cases h; rfl
  | _, i :: is, h => by
    cases h with
    | cons h hs => rw [h.intI, hs.ints]; rfl
theorem ims_ints : ∀ (is : List Int), Ims K H (is.map V.int) (is.map D.int)
  | [] => .nil
  | i :: is => .cons (.int i) (ims_ints is)
theorem Ims.bls : ∀ {vs : List V} {is : List Bool}, Ims K H vs (is.map D.bl) → vs = is.map V.bl
  | _, [], h => by cases h; rfl
  | _, i :: is, h => by
    cases h with
    | cons h hs => rw [h.blI, hs.bls]; rfl
end
/-! ### the readings that are the weakest -/
section
variable {X : Cx}
def WE (X : Cx) (e : Expr) : TE := fun σ H Q => ∃ t, PE X e t ∧ t σ H Q
def WT (X : Cx) (e : Expr) : TT := fun σ H Q => ∃ t, PT X e t ∧ t σ H Q
def WA (X : Cx) (es : List Expr) : TA := fun σ H Q => ∃ t, PA X es t ∧ t σ H Q
def WS (X : Cx) (st : Stmt) : TS := fun Z σ H => ∃ t, PS X st t ∧ t Z σ H
def WSs (X : Cx) (st : List Stmt) : TS := fun Z σ H => ∃ t, PSs X st t ∧ t Z σ H
def WG (X : Cx) (tg : Expr) : TG := fun v σ H Q => ∃ t, PG X tg t ∧ t v σ H Q
def WGs (X : Cx) (tg : List Expr) : TGs := fun v σ H Q => ∃ t, PGs X tg t ∧ t v σ H Q
def WTs (X : Cx) (ifs : List Expr) : TT := fun σ H Q => ∃ t, PTs X ifs t ∧ t σ H Q
theorem pe_W {e : Expr} : PE X e (WE X e) := ⟨fun pins s σ H Q I ⟨_, h, q⟩ => h.run pins s σ H Q I q⟩
theorem pt_W {e : Expr} : PT X e (WT X e) := ⟨fun pins s σ H Q I ⟨_, h, q⟩ => h.run pins s σ H Q I q⟩
theorem pa_W {es : List Expr} : PA X es (WA X es) := ⟨fun pos pins s σ H Q I ⟨_, h, q⟩ => h.run pos pins s σ H Q I q⟩
theorem ps_W {st : Stmt} : PS X st (WS X st) := ⟨fun pins s σ H Z I ⟨_, h, q⟩ => h.run pins s σ H Z I q⟩
theorem pss_W {st : List Stmt} : PSs X st (WSs X st) := ⟨fun pins s σ H Z I ⟨_, h, q⟩ => h.run pins s σ H Z I q⟩
theorem pg_W {tg : Expr} : PG X tg (WG X tg) := ⟨fun pins s σ H v u Q I r ⟨_, h, q⟩ => h.run pins s σ H v u Q I r q⟩
theorem pgs_W {tg : List Expr} : PGs X tg (WGs X tg) := ⟨fun pins s σ H v u Q I r ⟨_, h, q⟩ => h.run pins s σ H v u Q I r q⟩
theorem pts_W {ifs : List Expr} : PTs X ifs (WTs X ifs) := ⟨fun pins s σ H Q I ⟨_, h, q⟩ => h.run pins s σ H Q I q⟩
/-! ### what evaluates to what -/
/-- the expression gives data, what was tracked stays -/
def Ev (X : Cx) (e : Expr) (σ : L2.St) (H : Hp) (d : D) : Prop := ∀ H1, Same H H1 → ∀ Q : VK, (∀ v H2, Same H1 H2 → Im X.K H2 v d → Q v H2) → WE X e σ H1 Q
def EvT (X : Cx) (e : Expr) (σ : L2.St) (H : Hp) (b : Bool) : Prop := ∀ H1, Same H H1 → ∀ Q : Bool → Hp → Prop, (∀ H2, Same H1 H2 → Q b H2) → WT X e σ H1 Q
def EvA (X : Cx) (es : List Expr) (σ : L2.St) (H : Hp) (ds : List D) : Prop := ∀ H1, Same H H1 → ∀ Q : List V → Hp → Prop, (∀ vs H2, Same H1 H2 → Ims X.K H2 vs ds → Q vs H2) → WA X es σ H1 Q
/-- the value v itself -/
def EvV (X : Cx) (e : Expr) (σ : L2.St) (H : Hp) (v : V) : Prop := ∀ H1, Same H H1 → ∀ Q : VK, (∀ H2, Same H1 H2 → Q v H2) → WE X e σ H1 Q
/-- a new list of data -/
def EvL (X : Cx) (e : Expr) (σ : L2.St) (H : Hp) (ds : List D) : Prop := ∀ H1, Same H H1 → ∀ Q : VK, (∀ p xs H2, H1 p = none → Same H1 H2 → H2 p = some (.lst xs) → Ims X.K H2 xs ds → Q (.ref p) H2) → WE X e σ H1 Q
variable {σ : L2.St} {H H' : Hp} {a b c e : Expr} {es : List Expr} {pos : Pos} {d d1 d2 : D} {ds es' : List D} {i j : Int}
theorem Ev.mono (h : Ev X e σ H d) (s : Same H H') : Ev X e σ H' d := fun H1 s1 => h H1 (s.trans s1)
theorem Ev.cast (h : Ev X e σ H d) (q : d = d1) : Ev X e σ H d1 := q ▸ h
theorem EvT.cast {b b' : Bool} (h : EvT X e σ H b) (q : b = b') : EvT X e σ H b' := q ▸ h
theorem Ev.val (h : Ev X e σ H d) {v : V} (hv : ∀ w H2, Im X.K H2 w d → w = v) : EvV X e σ H v := fun H1 s Q q => h H1 s Q fun w H2 s2 hw => by rw [hv w H2 hw]; exact q H2 s2
theorem Ev.int (h : Ev X e σ H (.int i)) : EvV X e σ H (.int i) := h.val fun _ _ q => q.intI
theorem Ev.bl {k : Bool} (h : Ev X e σ H (.bl k)) : EvV X e σ H (.bl k) := h.val fun _ _ q => q.blI
theorem Ev.str {k : Str} (h : Ev X e σ H (.str k)) : EvV X e σ H (.str k) := h.val fun _ _ q => q.strI
theorem Ev.non (h : Ev X e σ H .non) : EvV X e σ H .non := h.val fun _ _ q => q.nonI
theorem EvV.ev {v : V} (h : EvV X e σ H v) (hd : ∀ H2, Same H H2 → Im X.K H2 v d) : Ev X e σ H d := fun H1 s Q q => h H1 s Q fun H2 s2 => q v H2 s2 (hd H2 (s.trans s2))
/-- by a rule of values -/
theorem WE.of {t : TE} {Q : VK} (h : PE X e t) (q : t σ H Q) : WE X e σ H Q := ⟨t, h, q⟩
theorem WT.of {t : TT} {Q : Bool → Hp → Prop} (h : PT X e t) (q : t σ H Q) : WT X e σ H Q := ⟨t, h, q⟩
/-! names, constants -/
theorem vv_var (i : Nat) {x : Str} {v : V} (h : σ[i]? = some (some v)) (hN : X.N[i]? = some x := by rfl) (hv : Vis X.env.scope x := by first | exact Or.inl rfl | exact Or.inr (Or.inl rfl) | exact Or.inr (Or.inr rfl))
    (hd : (x == ("__debug__" : Str)) = false := by decide) (hcd : (x == ("__classdict__" : Str)) = false := by decide) : EvV X (.Name x pos) σ H v :=
  fun H1 s Q q => .of (pe_var hN hv hd hcd) ⟨v, h, q H1 (Same.refl _)⟩
theorem ev_var (i : Nat) {x : Str} {v : V} (h : σ[i]? = some (some v)) (hd : Im X.K H v d) (hN : X.N[i]? = some x := by rfl) (hv : Vis X.env.scope x := by first | exact Or.inl rfl | exact Or.inr (Or.inl rfl) | exact Or.inr (Or.inr rfl))
    (hdb : (x == ("__debug__" : Str)) = false := by decide) (hcd : (x == ("__classdict__" : Str)) = false := by decide) : Ev X (.Name x pos) σ H d :=
  (vv_var i h hN hv hdb hcd).ev fun _ s => hd.ex s
theorem ev_int {k : Nat} : Ev X (.Constant (.int i) k pos) σ H (.int i) := fun H1 s Q q => .of pe_int (q _ H1 (Same.refl _) (.int i))
theorem ev_bl {k : Nat} {t : Bool} : Ev X (.Constant (.bool t) k pos) σ H (.bl t) := fun H1 s Q q => .of pe_bl (q _ H1 (Same.refl _) (.bl t))
theorem ev_str {k : Nat} {x : Str} : Ev X (.Constant (.str x) k pos) σ H (.str x) := fun H1 s Q q => .of pe_str (q _ H1 (Same.refl _) (.str x))
theorem ev_non {k : Nat} : Ev X (.Constant .none k pos) σ H .non := fun H1 s Q q => .of pe_non (q _ H1 (Same.refl _) .non)
/-- a module's constant -/
theorem ev_glob {x : Str} {v : V} {u : Value} (hm : X.mg x = some u) (r : RelV v u) (hd : ∀ H2, Im X.K H2 v d) (hg : Gl X x := by rfl) (hdb : (x == ("__debug__" : Str)) = false := by decide) : Ev X (.Name x pos) σ H d :=
  fun H1 s Q q => .of (pe_glob hg hm r hdb) (q v H1 (Same.refl _) (hd _))
/-! two places -/
theorem ev_op2 {op : Operator} {r : R2} {x y : V} (ho : OpR X (binaryOp op) r) (ha : EvV X a σ H x) (hb : EvV X b σ H y) (hr : ∀ H1, Same H H1 → ∀ Q : VK, (∀ v H2, Same H1 H2 → Im X.K H2 v d → Q v H2) → r x y H1 Q) : Ev X (.BinOp a op b pos) σ H d :=
  fun H1 s Q q => .of (pe_op ho pe_W pe_W) (ha H1 s _ fun H2 s2 => hb H2 (s.trans s2) _ fun H3 s3 => hr H3 ((s.trans s2).trans s3) Q fun v H4 s4 hv => q v H4 ((s2.trans s3).trans s4) hv)
theorem ev_add (ha : Ev X a σ H (.int i)) (hb : Ev X b σ H (.int j)) : Ev X (.BinOp a .Add b pos) σ H (.int (i + j)) :=
  ev_op2 op_add ha.int hb.int fun H1 s Q q => ⟨i, j, rfl, rfl, q _ H1 (Same.refl _) (.int _)⟩
theorem ev_sub (ha : Ev X a σ H (.int i)) (hb : Ev X b σ H (.int j)) : Ev X (.BinOp a .Sub b pos) σ H (.int (i - j)) :=
  ev_op2 op_sub ha.int hb.int fun H1 s Q q => ⟨i, j, rfl, rfl, q _ H1 (Same.refl _) (.int _)⟩
theorem ev_mulW (ha : Ev X a σ H (.int i)) (hb : Ev X b σ H (.int j)) (hc : CMulW i j) : Ev X (.BinOp a .Mult b pos) σ H (.int (i * j)) :=
  ev_op2 op_mulW ha.int hb.int fun H1 s Q q => ⟨i, j, rfl, rfl, hc, q _ H1 (Same.refl _) (.int _)⟩
theorem ev_fdivW (ha : Ev X a σ H (.int i)) (hb : Ev X b σ H (.int j)) (hc : CDivW i j) : Ev X (.BinOp a .FloorDiv b pos) σ H (.int (i / j)) :=
  ev_op2 op_fdivW ha.int hb.int fun H1 s Q q => ⟨i, j, rfl, rfl, hc, q _ H1 (Same.refl _) (.int _)⟩
theorem ev_mod (ha : Ev X a σ H (.int i)) (hb : Ev X b σ H (.int j)) (hc : 0 < j) : Ev X (.BinOp a .Mod b pos) σ H (.int (i % j)) :=
  ev_op2 op_mod ha.int hb.int fun H1 s Q q => ⟨i, j, rfl, rfl, hc, q _ H1 (Same.refl _) (.int _)⟩
/-- both places data -/
theorem ev_op2D {op : Operator} {r : R2} (ho : OpR X (binaryOp op) r) (ha : Ev X a σ H d1) (hb : Ev X b σ H d2) (hr : ∀ H1 x y, Im X.K H1 x d1 → Im X.K H1 y d2 → ∀ Q : VK, (∀ v H2, Same H1 H2 → Im X.K H2 v d → Q v H2) → r x y H1 Q) : Ev X (.BinOp a op b pos) σ H d :=
  fun H1 s Q q => .of (pe_op ho pe_W pe_W) (ha H1 s _ fun x H2 s2 hx => hb H2 (s.trans s2) _ fun y H3 s3 hy => hr H3 x y (hx.ex s3) hy Q fun v H4 s4 hv => q v H4 ((s2.trans s3).trans s4) hv)
/-- t + u -/
theorem ev_cat (ha : Ev X a σ H (.tup ds)) (hb : Ev X b σ H (.tup es')) (hl : ds.length + es'.length ≤ sizeLine) : Ev X (.BinOp a .Add b pos) σ H (.tup (ds ++ es')) :=
  ev_op2D op_catA ha hb fun H1 x y hx hy Q q => by
    obtain ⟨p, xs, rfl, h1, h2⟩ := hx.tupI
    obtain ⟨r, ys, rfl, h3, h4⟩ := hy.tupI
    have l1 := h2.len
    have l2 := h4.len
    refine ⟨p, r, xs, ys, rfl, rfl, h1, h3, by omega, fun e => ?_, fun _ e => ?_, fun _ _ z hz => ?_⟩
    · subst e
      cases h2
      exact q _ H1 (Same.refl _) hy
    · subst e
      cases h4
      rw [List.append_nil] at q
      exact q _ H1 (Same.refl _) hx
    · exact q _ _ (Same.new hz) (.tup (.of upd_same) ((h2.app h4).ex (Same.new hz)))
/-! subscripts -/
theorem ev_ixT (ha : Ev X a σ H (.tup ds)) (hb : Ev X b σ H (.int i)) (hx : atI ds i = some d) (hs : PlainIx b := by exact fun _ _ => rfl) : Ev X (.Subscript a b pos) σ H d :=
  fun H1 s Q q => .of (pe_ix ix_tup pe_W pe_W hs) (ha H1 s _ fun x H2 s2 hxv => hb.int H2 (s.trans s2) _ fun H3 s3 => by
    obtain ⟨p, xs, rfl, h1, h2⟩ := hxv.tupI
    obtain ⟨k, hk, hk2⟩ := Option.bind_eq_some_iff.mp hx
    obtain ⟨v, hv1, hv2⟩ := h2.at_ hk2
    refine ⟨p, xs, i, v, rfl, rfl, (Same.tx s3).sq _ _ h1, ?_, q _ H3 (s2.trans s3) (hv2.ex s3)⟩
    unfold atI
    rw [h2.len, hk]
    exact hv1)
/-! tuples -/
theorem ea_nil : EvA X [] σ H [] := fun H1 s Q q => ⟨_, pa_nil, q [] H1 (Same.refl _) .nil⟩
theorem ea_cons (h : Ev X e σ H d) (hr : EvA X es σ H ds) (hs : starEach (e :: es) X.env = (false, eval e X.env) :: starEach es X.env := by rfl) : EvA X (e :: es) σ H (d :: ds) :=
  fun H1 s Q q => ⟨_, pa_cons pe_W pa_W hs, h H1 s _ fun v H2 s2 hv => hr H2 (s.trans s2) _ fun vs H3 s3 hvs => q _ H3 (s2.trans s3) (.cons (hv.ex s3) hvs)⟩
theorem ev_tup {k : Nat} (h : EvA X es σ H ds) (hl : ds.length ≤ 100000 := by exact Nat.le_of_ble_eq_true rfl) : Ev X (.Tuple es k pos) σ H (.tup ds) :=
  fun H1 s Q q => .of (pe_tup pa_W) (h H1 s _ fun vs H2 s2 hvs => ⟨by rw [hvs.len]; exact Nat.le_trans hl (by decide), fun p hp => q _ _ (s2.trans (Same.new hp)) (.tup (.of upd_same) (hvs.ex (Same.new hp)))⟩)
/-! comparisons -/
theorem ev_cmp2 {op : CmpOp} {r : R2} {x y : V} (ho : OpR X (compareOp op) r) (ha : EvV X a σ H x) (hb : EvV X b σ H y) (hr : ∀ H1, Same H H1 → ∀ Q : VK, (∀ v H2, Same H1 H2 → Im X.K H2 v d → Q v H2) → r x y H1 Q) (hm : behindInMarks op b = false) : Ev X (.Compare a [op] [b] pos) σ H d :=
  fun H1 s Q q => .of (pe_cmpR ho pe_W pe_W hm) (ha H1 s _ fun H2 s2 => hb H2 (s.trans s2) _ fun H3 s3 => hr H3 ((s.trans s2).trans s3) Q fun v H4 s4 hv => q v H4 ((s2.trans s3).trans s4) hv)
theorem et_cmp2 {op : CmpOp} {r : R2} {x y : V} {t : Bool} (ho : OpR X (compareOp op) r) (ha : EvV X a σ H x) (hb : EvV X b σ H y) (hr : ∀ H1, Same H H1 → ∀ Q : VK, Q (.bl t) H1 → r x y H1 Q) (hm : behindInMarks op b = false) : EvT X (.Compare a [op] [b] pos) σ H t :=
  fun H1 s Q q => .of (pt_cmpR ho pe_W pe_W hm) (ha H1 s _ fun H2 s2 => hb H2 (s.trans s2) _ fun H3 s3 => hr H3 ((s.trans s2).trans s3) _ ⟨t, rfl, q H3 (s2.trans s3)⟩)
theorem et_lt (ha : Ev X a σ H (.int i)) (hb : Ev X b σ H (.int j)) : EvT X (.Compare a [.Lt] [b] pos) σ H (decide (i < j)) := et_cmp2 op_lt ha.int hb.int (fun H1 s Q q => ⟨i, j, rfl, rfl, q⟩) (nomark _)
theorem et_le (ha : Ev X a σ H (.int i)) (hb : Ev X b σ H (.int j)) : EvT X (.Compare a [.LtE] [b] pos) σ H (decide (i ≤ j)) := et_cmp2 op_le ha.int hb.int (fun H1 s Q q => ⟨i, j, rfl, rfl, q⟩) (nomark _)
theorem et_gt (ha : Ev X a σ H (.int i)) (hb : Ev X b σ H (.int j)) : EvT X (.Compare a [.Gt] [b] pos) σ H (decide (j < i)) := et_cmp2 op_gt ha.int hb.int (fun H1 s Q q => ⟨i, j, rfl, rfl, q⟩) (nomark _)
theorem et_ge (ha : Ev X a σ H (.int i)) (hb : Ev X b σ H (.int j)) : EvT X (.Compare a [.GtE] [b] pos) σ H (decide (j ≤ i)) := et_cmp2 op_ge ha.int hb.int (fun H1 s Q q => ⟨i, j, rfl, rfl, q⟩) (nomark _)
theorem et_eqI (ha : Ev X a σ H (.int i)) (hb : Ev X b σ H (.int j)) : EvT X (.Compare a [.Eq] [b] pos) σ H (decide (i = j)) :=
  et_cmp2 op_eq ha.int hb.int (fun H1 s Q q => ⟨rfl, by rw [show decide (V.int i = V.int j) = decide (i = j) by simp]; exact q⟩) (nomark _)
theorem et_neI (ha : Ev X a σ H (.int i)) (hb : Ev X b σ H (.int j)) : EvT X (.Compare a [.NotEq] [b] pos) σ H (!decide (i = j)) :=
  et_cmp2 op_ne ha.int hb.int (fun H1 s Q q => ⟨rfl, by rw [show decide (V.int i = V.int j) = decide (i = j) by simp]; exact q⟩) (nomark _)
theorem et_eqS {x y : Str} (ha : Ev X a σ H (.str x)) (hb : Ev X b σ H (.str y)) : EvT X (.Compare a [.Eq] [b] pos) σ H (decide (x = y)) :=
  et_cmp2 op_eq ha.str hb.str (fun H1 s Q q => ⟨rfl, by rw [show decide (V.str x = V.str y) = decide (x = y) by simp]; exact q⟩) (nomark _)
theorem ev_eqS {x y : Str} (ha : Ev X a σ H (.str x)) (hb : Ev X b σ H (.str y)) : Ev X (.Compare a [.Eq] [b] pos) σ H (.bl (decide (x = y))) :=
  ev_cmp2 op_eq ha.str hb.str (fun H1 s Q q => ⟨rfl, by rw [show decide (V.str x = V.str y) = decide (x = y) by simp]; exact q _ H1 (Same.refl _) (.bl _)⟩) (nomark _)
theorem ev_eqI (ha : Ev X a σ H (.int i)) (hb : Ev X b σ H (.int j)) : Ev X (.Compare a [.Eq] [b] pos) σ H (.bl (decide (i = j))) :=
  ev_cmp2 op_eq ha.int hb.int (fun H1 s Q q => ⟨rfl, by rw [show decide (V.int i = V.int j) = decide (i = j) by simp]; exact q _ H1 (Same.refl _) (.bl _)⟩) (nomark _)
theorem ev_ge (ha : Ev X a σ H (.int i)) (hb : Ev X b σ H (.int j)) : Ev X (.Compare a [.GtE] [b] pos) σ H (.bl (decide (j ≤ i))) := ev_cmp2 op_ge ha.int hb.int (fun H1 s Q q => ⟨i, j, rfl, rfl, q _ H1 (Same.refl _) (.bl _)⟩) (nomark _)
theorem ev_gt (ha : Ev X a σ H (.int i)) (hb : Ev X b σ H (.int j)) : Ev X (.Compare a [.Gt] [b] pos) σ H (.bl (decide (j < i))) := ev_cmp2 op_gt ha.int hb.int (fun H1 s Q q => ⟨i, j, rfl, rfl, q _ H1 (Same.refl _) (.bl _)⟩) (nomark _)
/-! truth -/
theorem et_val {t : Bool} (h : Ev X e σ H (.bl t)) (he : ∀ whole, isTrue e X.env whole = (do let v ← whole; standAt e.pos; holding [v] (truthy v)) := by intro _; rfl) : EvT X e σ H t :=
  fun H1 s Q q => .of (pt_val pe_W he) (h.bl H1 s _ fun H2 s2 => ⟨t, rfl, q H2 s2⟩)
theorem et_not {t : Bool} (h : EvT X e σ H t) : EvT X (.UnaryOp .Not e pos) σ H (!t) := fun H1 s Q q => .of (pt_not pt_W) (h H1 s _ fun H2 s2 => q H2 s2)
/-- and, or: whatever the whole is -/
def EvW (X : Cx) (e : Expr) (σ : L2.St) (H : Hp) (b : Bool) : Prop := ∀ H1, Same H H1 → ∀ Q : Bool → Hp → Prop, (∀ H2, Same H1 H2 → Q b H2) → ∃ t, PW X e t ∧ t σ H1 Q
theorem EvW.t {t : Bool} (h : EvW X e σ H t) : EvT X e σ H t := fun H1 s Q q => by
  obtain ⟨t, h1, h2⟩ := h H1 s Q q
  exact ⟨t, h1.pt, h2⟩
def WW (X : Cx) (e : Expr) : TT := fun σ H Q => ∃ t, PW X e t ∧ t σ H Q
theorem pw_W {e : Expr} : PW X e (WW X e) := ⟨fun wh pins s σ H Q I ⟨_, h, q⟩ => h.run wh pins s σ H Q I q⟩
theorem ew_and1 {t : Bool} (h : EvT X a σ H t) : EvW X (.BoolOp .And [a] pos) σ H t := fun H1 s Q q => ⟨_, pw_and1 pt_W, h H1 s Q q⟩
theorem ew_or1 {t : Bool} (h : EvT X a σ H t) : EvW X (.BoolOp .Or [a] pos) σ H t := fun H1 s Q q => ⟨_, pw_or1 pt_W, h H1 s Q q⟩
theorem ew_and {t u : Bool} {rest : List Expr} (h1 : EvT X a σ H t) (h2 : t = true → EvW X (.BoolOp .And (b :: rest) pos) σ H u) : EvW X (.BoolOp .And (a :: b :: rest) pos) σ H (t && u) := fun H1 s Q q =>
  ⟨_, pw_and pt_W pw_W, h1 H1 s _ fun H2 s2 => by
    cases t with
    | true => exact h2 rfl H2 (s.trans s2) Q fun H3 s3 => q H3 (s2.trans s3)
    | false => exact q H2 s2⟩
theorem ew_or {t u : Bool} {rest : List Expr} (h1 : EvT X a σ H t) (h2 : t = false → EvW X (.BoolOp .Or (b :: rest) pos) σ H u) : EvW X (.BoolOp .Or (a :: b :: rest) pos) σ H (t || u) := fun H1 s Q q =>
  ⟨_, pw_or pt_W pw_W, h1 H1 s _ fun H2 s2 => by
    cases t with
    | false => exact h2 rfl H2 (s.trans s2) Q fun H3 s3 => q H3 (s2.trans s3)
    | true => exact q H2 s2⟩
/-- .. as values -/
theorem ev_one {op : BoolOp} (h : Ev X a σ H d) : Ev X (.BoolOp op [a] pos) σ H d := fun H1 s Q q => .of (pe_one pe_W) (h H1 s Q q)
theorem ev_and {t u : Bool} {rest : List Expr} (h1 : Ev X a σ H (.bl t)) (h2 : t = true → Ev X (.BoolOp .And (b :: rest) pos) σ H (.bl u)) : Ev X (.BoolOp .And (a :: b :: rest) pos) σ H (.bl (t && u)) := fun H1 s Q q =>
  .of (pe_and pe_W pe_W) (h1.bl H1 s _ fun H2 s2 => ⟨t, rfl, by
    cases t with
    | true => exact h2 rfl H2 (s.trans s2) Q fun v H3 s3 hv => q v H3 (s2.trans s3) hv
    | false => exact q _ H2 s2 (.bl _)⟩)
theorem ev_or {t u : Bool} {rest : List Expr} (h1 : Ev X a σ H (.bl t)) (h2 : t = false → Ev X (.BoolOp .Or (b :: rest) pos) σ H (.bl u)) : Ev X (.BoolOp .Or (a :: b :: rest) pos) σ H (.bl (t || u)) := fun H1 s Q q =>
  .of (pe_or pe_W pe_W) (h1.bl H1 s _ fun H2 s2 => ⟨t, rfl, by
    cases t with
    | false => exact h2 rfl H2 (s.trans s2) Q fun v H3 s3 hv => q v H3 (s2.trans s3) hv
    | true => exact q _ H2 s2 (.bl _)⟩)
theorem ev_not {t : Bool} (h : Ev X e σ H (.bl t)) : Ev X (.UnaryOp .Not e pos) σ H (.bl (!t)) := fun H1 s Q q => .of (pe_not pe_W) (h.bl H1 s _ fun H2 s2 => ⟨t, rfl, q _ H2 s2 (.bl _)⟩)
theorem ev_if {t : Bool} (h : EvT X c σ H t) (h1 : t = true → Ev X a σ H d) (h2 : t = false → Ev X b σ H d) : Ev X (.IfExp c a b pos) σ H d := fun H1 s Q q =>
  .of (pe_ifExp pt_W pe_W pe_W) (h H1 s _ fun H2 s2 => by
    cases t with
    | true => exact h1 rfl H2 (s.trans s2) Q fun v H3 s3 hv => q v H3 (s2.trans s3) hv
    | false => exact h2 rfl H2 (s.trans s2) Q fun v H3 s3 hv => q v H3 (s2.trans s3) hv)
theorem ev_neg (h : Ev X e σ H (.int i)) : Ev X (.UnaryOp .USub e pos) σ H (.int (-i)) := fun H1 s Q q => .of (pe_un un_neg pe_W) (h.int H1 s _ fun H2 s2 => ⟨i, rfl, q _ H2 s2 (.int _)⟩)
/-- least <= x <= most -/
theorem ev_lele {k : Int} (ha : Ev X a σ H (.int i)) (hb : Ev X b σ H (.int j)) (hc : Ev X c σ H (.int k)) (hm : lastMarks [CmpOp.LtE, CmpOp.LtE] [b, c] = false := by rfl) : Ev X (.Compare a [.LtE, .LtE] [b, c] pos) σ H (.bl (decide (i ≤ j) && decide (j ≤ k))) := fun H1 s Q q =>
  .of (pe_chain op_le op_le pe_W pe_W pe_W hm) (ha.int H1 s _ fun H2 s2 => hb.int H2 (s.trans s2) _ fun H3 s3 => ⟨i, j, rfl, rfl, _, rfl, by
    by_cases e : i ≤ j
    · rw [decide_eq_true e] at q ⊢
      exact hc.int H3 ((s.trans s2).trans s3) _ fun H4 s4 => ⟨j, k, rfl, rfl, q _ H4 ((s2.trans s3).trans s4) (.bl _)⟩
    · rw [decide_eq_false e] at q ⊢
      exact q _ H3 (s2.trans s3) (.bl _)⟩)
theorem et_lele {k : Int} (ha : Ev X a σ H (.int i)) (hb : Ev X b σ H (.int j)) (hc : Ev X c σ H (.int k)) (hm : lastMarks [CmpOp.LtE, CmpOp.LtE] [b, c] = false := by rfl) : EvT X (.Compare a [.LtE, .LtE] [b, c] pos) σ H (decide (i ≤ j) && decide (j ≤ k)) := fun H1 s Q q =>
  .of (pt_chain op_le op_le pe_W pe_W pe_W hm) (ha.int H1 s _ fun H2 s2 => hb.int H2 (s.trans s2) _ fun H3 s3 => ⟨i, j, rfl, rfl, _, rfl, by
    by_cases e : i ≤ j
    · rw [decide_eq_true e] at q ⊢
      exact hc.int H3 ((s.trans s2).trans s3) _ fun H4 s4 => ⟨j, k, rfl, rfl, _, rfl, q H4 ((s2.trans s3).trans s4)⟩
    · rw [decide_eq_false e] at q ⊢
      exact ⟨_, rfl, q H3 (s2.trans s3)⟩⟩)
/-! calls of built-ins -/
theorem ev_cb {x : Str} {id : String} {p : Pos} {r : List V → Hp → VK → Prop} (hc : CallR X (.builtin id) r) (hm : X.mg x = none) (hv : bootBuiltins x = some (.builtin id)) (ha : EvA X (e :: es) σ H ds)
    (hr : ∀ vs H1, Same H H1 → Ims X.K H1 vs ds → ∀ Q : VK, (∀ v H2, Same H1 H2 → Im X.K H2 v d → Q v H2) → r vs H1 Q) (hg : Gl X x := by rfl) (hn : x ≠ "__name__" := by decide) (hdb : (x == ("__debug__" : Str)) = false := by decide)
    (he : starEach (e :: es) X.env = (false, eval e X.env) :: starEach es X.env := by rfl) (hpl : (backTo pos (starEach es X.env)).any (·.1) = false := by rfl) : Ev X (.Call (.Name x p) (e :: es) [] pos) σ H d :=
  fun H1 s Q q => .of (pe_callB hc hg hm hv pa_W hn hdb he hpl) (ha H1 s _ fun vs H2 s2 hvs => hr vs H2 (s.trans s2) hvs Q fun v H3 s3 hv => q v H3 (s2.trans s3) hv)
theorem ev_ct {x : Str} {id : String} {p : Pos} {r : List V → Hp → VK → Prop} (hc : CallR X (.type id) r) (hm : X.mg x = none) (hv : bootBuiltins x = some (.type id)) (ha : EvA X (e :: es) σ H ds)
    (hr : ∀ vs H1, Same H H1 → Ims X.K H1 vs ds → ∀ Q : VK, (∀ v H2, Same H1 H2 → Im X.K H2 v d → Q v H2) → r vs H1 Q) (hg : Gl X x := by rfl) (hn : x ≠ "__name__" := by decide) (hdb : (x == ("__debug__" : Str)) = false := by decide)
    (he : starEach (e :: es) X.env = (false, eval e X.env) :: starEach es X.env := by rfl) (hpl : (backTo pos (starEach es X.env)).any (·.1) = false := by rfl) : Ev X (.Call (.Name x p) (e :: es) [] pos) σ H d :=
  fun H1 s Q q => .of (pe_callTy hc hg hm hv pa_W hn hdb he hpl) (ha H1 s _ fun vs H2 s2 hvs => hr vs H2 (s.trans s2) hvs Q fun v H3 s3 hv => q v H3 (s2.trans s3) hv)
theorem ea_one (h : Ev X e σ H d) (hs : starEach [e] X.env = (false, eval e X.env) :: starEach [] X.env := by rfl) : EvA X [e] σ H [d] := ea_cons h ea_nil hs
/-- abs of an int, len of a tuple -/
theorem ev_abs {x : Str} {p : Pos} (hm : X.mg x = none) (ha : EvA X (e :: es) σ H [.int i]) (hv : bootBuiltins x = some (.builtin "abs") := by decide +kernel) (hg : Gl X x := by rfl) (hn : x ≠ "__name__" := by decide) (hdb : (x == ("__debug__" : Str)) = false := by decide)
    (he : starEach (e :: es) X.env = (false, eval e X.env) :: starEach es X.env := by rfl) (hpl : (backTo pos (starEach es X.env)).any (·.1) = false := by rfl) : Ev X (.Call (.Name x p) (e :: es) [] pos) σ H (.int (if i < 0 then -i else i)) :=
  ev_cb call_abs hm hv ha (fun vs H1 s hvs Q q => by
    cases hvs with
    | cons h hs =>
      cases hs
      exact ⟨i, by rw [h.intI], q _ H1 (Same.refl _) (.int _)⟩) hg hn hdb he hpl
theorem ev_lenT {x : Str} {p : Pos} (hm : X.mg x = none) (ha : EvA X (e :: es) σ H [.tup ds]) (hv : bootBuiltins x = some (.builtin "len") := by exact PySem.boot_len) (hg : Gl X x := by rfl) (hn : x ≠ "__name__" := by decide) (hdb : (x == ("__debug__" : Str)) = false := by decide)
    (he : starEach (e :: es) X.env = (false, eval e X.env) :: starEach es X.env := by rfl) (hpl : (backTo pos (starEach es X.env)).any (·.1) = false := by rfl) : Ev X (.Call (.Name x p) (e :: es) [] pos) σ H (.int ds.length) :=
  ev_cb call_len_seq hm hv ha (fun vs H1 s hvs Q q => by
    cases hvs with
    | cons h hs =>
      cases hs
      obtain ⟨a, xs, rfl, h1, h2⟩ := h.tupI
      exact ⟨a, xs, rfl, .inr h1, by rw [h2.len]; exact q _ H1 (Same.refl _) (.int _)⟩) hg hn hdb he hpl
end
/-! ### defs and their promises -/
/-- fd is the def x, the i-th statement of the top -/
def Shp (fd : FuncData) (x : Str) (i : Nat) : Prop := ∃ (kV doc pm : Value) (an : Option Addr) (cdv ct : Value), fd = PySem.W.fnOf x x (defArgs (top i)) (defBody (top i)) (defScope (top i)) .none kV doc pm an cdv ct
/-- the def x keeps the promise sp, by at most level k -/
def PrB (P : Program) (w : World) (K : PySem.W.Frag) (mg : Str → Option Value) (base : Heap) (x : Str) (i k : Nat) (ps : List Str) (sp : Sp) : Prop :=
  ∃ fd, FnG P w K mg base k (He.ga K x) fd ps sp ∧ Binds K fd ps [] ∧ PySem.W.keepIn K (.ref (He.ga K x)) = true ∧ mg x = some (.ref (He.ga K x)) ∧ Shp fd x i
def Pr (P : Program) (w : World) (K : PySem.W.Frag) (mg : Str → Option Value) (base : Heap) (x : Str) (k : Nat) (ps : List Str) (sp : Sp) : Prop :=
  ∃ fd, FnG P w K mg base k (He.ga K x) fd ps sp ∧ Binds K fd ps [] ∧ PySem.W.keepIn K (.ref (He.ga K x)) = true ∧ mg x = some (.ref (He.ga K x))
theorem PrB.pr {P : Program} {w : World} {K : PySem.W.Frag} {mg : Str → Option Value} {base : Heap} {x : Str} {i k : Nat} {ps : List Str} {sp : Sp} (F : PrB P w K mg base x i k ps sp) : Pr P w K mg base x k ps sp := by
  obtain ⟨fd, h1, h2, h3, h4, _⟩ := F
  exact ⟨fd, h1, h2, h3, h4⟩
/-- data in, data out -/
def spD (K : PySem.W.Frag) (pre : List D → D → Prop) : Sp := fun vs H Q _ => ∃ ds d, pre ds d ∧ Ims K H vs ds ∧ ∀ v H', Same H H' → Im K H' v d → Q v H'
section
variable {X : Cx} {σ : L2.St} {H H' : Hp} {e : Expr} {es : List Expr} {pos p : Pos} {d : D} {ds : List D} {x : Str} {k : Nat} {ps : List Str} {sp : Sp}
theorem we_call {Q : VK} (F : Pr X.prog X.w X.K X.mg X.base x k ps sp) (hr : Rm k X.A) (ha : WA X (e :: es) σ H fun vs H1 => sp vs H1 Q E0) (hg : Gl X x := by rfl) (hdb : (x == ("__debug__" : Str)) = false := by decide)
    (he : starEach (e :: es) X.env = (false, eval e X.env) :: starEach es X.env := by rfl) (hpl : (backTo pos (starEach es X.env)).any (·.1) = false := by rfl) : WE X (.Call (.Name x p) (e :: es) [] pos) σ H Q := by
  obtain ⟨fd, F, hb, hk, hm⟩ := F
  exact .of (pe_callG F hr hm hk hb pa_W hg hdb he hpl) ha
theorem we_call0 {Q : VK} (F : Pr X.prog X.w X.K X.mg X.base x k ps sp) (hr : Rm k X.A) (h : sp [] H Q E0) (hg : Gl X x := by rfl) (hdb : (x == ("__debug__" : Str)) = false := by decide) : WE X (.Call (.Name x p) [] [] pos) σ H Q := by
  obtain ⟨fd, F, hb, hk, hm⟩ := F
  exact .of (pe_callG0 F hr hm hk hb hg hdb) h
theorem ev_call {pre : List D → D → Prop} (F : Pr X.prog X.w X.K X.mg X.base x k ps (spD X.K pre)) (hr : Rm k X.A) (ha : EvA X (e :: es) σ H ds) (hp : pre ds d) (hg : Gl X x := by rfl) (hdb : (x == ("__debug__" : Str)) = false := by decide)
    (he : starEach (e :: es) X.env = (false, eval e X.env) :: starEach es X.env := by rfl) (hpl : (backTo pos (starEach es X.env)).any (·.1) = false := by rfl) : Ev X (.Call (.Name x p) (e :: es) [] pos) σ H d :=
  fun H1 s Q q => we_call F hr (ha H1 s _ fun vs H2 s2 hvs => ⟨ds, d, hp, hvs, fun v H3 s3 hv => q v H3 (s2.trans s3) hv⟩) hg hdb he hpl
end
/-- what the top has left -/
structure Txt (K : PySem.W.Frag) (mg : Str → Option Value) : Prop where
  fn : ∀ (j : Nat) (x : Str) (i : Nat), fnL[j]? = some (x, i) → ∃ fd, FnP K x i fd
  glo : ∀ (j : Nat) (x : Str) (i : Nat), fnL[j]? = some (x, i) → mg x = some (.ref (He.ga K x))
  free : ∀ x ∈ freeL, mg x = none
  toss : ∃ t, mg "TOSS" = some (.str "toss" t)
  out : ∃ t, mg "OUT" = some (.str "out" t)
  most : ∃ t, mg "MOST_OUTCOMES" = some (.int 8 t)
  zero : mg "ZERO" = some (.ref (He.ga K "ZERO"))
  one : mg "ONE" = some (.ref (He.ga K "ONE"))
  half : mg "HALF" = some (.ref (He.ga K "HALF"))
  zeroT : ∀ H, SqT K H (He.ga K "ZERO") [.int 0, .int 1]
  oneT : ∀ H, SqT K H (He.ga K "ONE") [.int 1, .int 1]
  halfT : ∀ H, SqT K H (He.ga K "HALF") [.int 1, .int 2]
section
variable {P : Program} {w : World} {K : PySem.W.Frag} {mg : Str → Option Value} {base : Heap}
theorem mk_prB {x : Str} {i k : Nat} {N ps : List Str} {sp : Sp} (T : Txt K mg) (j : Nat) (hj : fnL[j]? = some (x, i)) (S : FnScope N ps (defScope (top i)))
    (hb : ∀ (kV doc pm : Value) (an : Option Addr) (cdv ct : Value) (us : List Value), us.length = ps.length → bindArgs (PySem.W.fnOf x x (defArgs (top i)) (defBody (top i)) (defScope (top i)) .none kV doc pm an cdv ct) ⟨us, []⟩ = pure (ps.zip us))
    (len : ∀ vs H Q E, sp vs H Q E → vs.length = ps.length)
    (body : ∀ (cdv : Value) (A : Around) (outer : List Env) (s : Shared) (H : Hp) (vs : List V) (Q : VK) (E : XK), Rm k (A.deeper (envOfC x (defScope (top i)) s.heap.objs.size (He.ga K x) cdv)) → sp vs H Q E →
      WSs (cxOf CX0 P w K mg base N x (defScope (top i)) (He.ga K x) cdv A outer s H E).nox (defBody (top i)) { nx := fun _ H' => Q .non H', rt := Q } (start N vs) H) : PrB P w K mg base x i (k + 1) ps sp := by
  obtain ⟨fd, F⟩ := T.fn j x i hj
  refine ⟨fd, fnG_of F S len fun cdv A outer s H vs Q E hr h => body cdv A outer s H vs Q E hr h, F.bindsN hb, F.kp, T.glo j x i hj, ?_⟩
  obtain ⟨_, _, dV, kV, doc, pm, an, cdv, ct, _, e, _, _, hd, _⟩ := F.ex
  rcases hd with ⟨_, hd⟩ | ⟨hd, _⟩
  · subst hd
    exact ⟨kV, doc, pm, an, cdv, ct, e⟩
  · exact absurd rfl hd
theorem mk_pr {x : Str} {i k : Nat} {N ps : List Str} {sp : Sp} (T : Txt K mg) (j : Nat) (hj : fnL[j]? = some (x, i)) (S : FnScope N ps (defScope (top i)))
    (hb : ∀ (kV doc pm : Value) (an : Option Addr) (cdv ct : Value) (us : List Value), us.length = ps.length → bindArgs (PySem.W.fnOf x x (defArgs (top i)) (defBody (top i)) (defScope (top i)) .none kV doc pm an cdv ct) ⟨us, []⟩ = pure (ps.zip us))
    (len : ∀ vs H Q E, sp vs H Q E → vs.length = ps.length)
    (body : ∀ (cdv : Value) (A : Around) (outer : List Env) (s : Shared) (H : Hp) (vs : List V) (Q : VK) (E : XK), Rm k (A.deeper (envOfC x (defScope (top i)) s.heap.objs.size (He.ga K x) cdv)) → sp vs H Q E →
      WSs (cxOf CX0 P w K mg base N x (defScope (top i)) (He.ga K x) cdv A outer s H E).nox (defBody (top i)) { nx := fun _ H' => Q .non H', rt := Q } (start N vs) H) : Pr P w K mg base x (k + 1) ps sp := (mk_prB T j hj S hb len body).pr
theorem Pr.mono {x : Str} {k k' : Nat} {ps : List Str} {sp : Sp} (F : Pr P w K mg base x k ps sp) (h : k ≤ k') : Pr P w K mg base x k' ps sp := by
  obtain ⟨fd, F, r⟩ := F
  exact ⟨fd, F.mono h, r⟩
end
/-! ### statements -/
section
variable {X : Cx} {σ : L2.St} {H H' : Hp} {a b c e : Expr} {es : List Expr} {st : Stmt} {rest A B : List Stmt} {pos p : Pos} {d : D} {ds : List D} {Z : Ends}
theorem w_nil (h : Z.nx σ H) : WSs X [] Z σ H := ⟨_, pss_nil, h⟩
theorem w_one (h : WS X st Z σ H) : WSs X [st] Z σ H := ⟨_, pss_one ps_W, h⟩
theorem w_cons (h : WS X st { Z with nx := fun σ1 H1 => WSs X rest Z σ1 H1 } σ H) : WSs X (st :: rest) Z σ H := ⟨_, pss_cons ps_W pss_W, h⟩
theorem s_ret (h : Ev X e σ H d) (k : ∀ v H1, Same H H1 → Im X.K H1 v d → Z.rt v H1) : WS X (.Return (some e) pos) Z σ H := ⟨_, ps_ret pe_W, h H (Same.refl _) _ k⟩
theorem s_retW (h : WE X e σ H Z.rt) : WS X (.Return (some e) pos) Z σ H := ⟨_, ps_ret pe_W, h⟩
theorem s_set {x : Str} (nd : X.N.Nodup) (i : Nat) (h : Ev X e σ H d) (k : ∀ v H1, Same H H1 → Im X.K H1 v d → Z.nx (σ.set i (some v)) H1) (hi : X.N[i]? = some x := by rfl) (hx : Loc X.env.scope x := by first | exact .inl rfl | exact .inr rfl)
    (hs : swapsWith e (some (.Name x p)) pos.line X.env = pure false := by rfl) (hf : X.fn x = true ∨ X.env.scope.names.lookup x = some .local := by first | exact .inl rfl | exact .inr rfl) : WS X (.Assign [.Name x p] e pos) Z σ H :=
  ⟨_, ps_set nd hi hx pe_W hs hf, h H (Same.refl _) _ k⟩
theorem s_setW {x : Str} (nd : X.N.Nodup) (i : Nat) (h : WE X e σ H fun v H1 => Z.nx (σ.set i (some v)) H1) (hi : X.N[i]? = some x := by rfl) (hx : Loc X.env.scope x := by first | exact .inl rfl | exact .inr rfl)
    (hs : swapsWith e (some (.Name x p)) pos.line X.env = pure false := by rfl) (hf : X.fn x = true ∨ X.env.scope.names.lookup x = some .local := by first | exact .inl rfl | exact .inr rfl) : WS X (.Assign [.Name x p] e pos) Z σ H :=
  ⟨_, ps_set nd hi hx pe_W hs hf, h⟩
theorem s_if {t : Bool} (h : EvT X c σ H t) (h1 : t = true → ∀ H1, Same H H1 → WSs X A Z σ H1) (h2 : t = false → ∀ H1, Same H H1 → WSs X B Z σ H1) : WS X (.If c A B pos) Z σ H :=
  ⟨_, ps_if pt_W pss_W pss_W, h H (Same.refl _) _ fun H1 s => by
    cases t with
    | true => exact h1 rfl H1 s
    | false => exact h2 rfl H1 s⟩
/-- a, b = x, y -/
theorem s_par {x y : Str} {px py pt : Pos} {kt k2 pt2} (nd : X.N.Nodup) (i j : Nat) {d1 d2 : D} (h1 : Ev X a σ H d1) (h2 : Ev X b σ H d2) (k : ∀ v1 v2 H1, Same H H1 → Im X.K H1 v1 d1 → Im X.K H1 v2 d2 → Z.nx ((σ.set i (some v1)).set j (some v2)) H1)
    (hij : i ≠ j := by decide) (hc : X.calm = true := by rfl) (hi : X.N[i]? = some x := by rfl) (hj : X.N[j]? = some y := by rfl) (hx : X.env.scope.names.lookup x = some .local := by rfl) (hy : X.env.scope.names.lookup y = some .local := by rfl)
    (hw : swappedStores [.Tuple [.Name x px, .Name y py] kt pt] (.Tuple [a, b] k2 pt2) X.env = pure (some [x, y]) := by rfl) (hs : swapsWithSole [.Tuple [.Name x px, .Name y py] kt pt] (.Tuple [a, b] k2 pt2) pos.line X.env = pure false := by rfl)
    (ha : starEach [a, b] X.env = (false, eval a X.env) :: starEach [b] X.env := by rfl) (hb : starEach [b] X.env = (false, eval b X.env) :: starEach [] X.env := by rfl) : WS X (.Assign [.Tuple [.Name x px, .Name y py] kt pt] (.Tuple [a, b] k2 pt2) pos) Z σ H :=
  ⟨_, ps_par hc nd hi hj hij hx hy pa_W hw hs, ea_cons h1 (ea_one h2 hb) ha H (Same.refl _) _ fun vs H1 s hvs => by
    cases hvs with
    | cons p q =>
      cases q with
      | cons q r =>
        cases r
        exact ⟨_, _, rfl, k _ _ H1 s p q⟩⟩
/-- while, by a word that falls -/
theorem s_while (W : Nat → L2.St → Hp → Prop) (m0 : Nat) (h0 : W m0 σ H)
    (hs : ∀ m σ H, W m σ H → ∃ t, EvT X c σ H t ∧ (t = true → ∀ H1, Same H H1 → WSs X A { Z with nx := fun σ' H' => ∃ m', m' < m ∧ W m' σ' H', ct := fun σ' H' => ∃ m', m' < m ∧ W m' σ' H', bk := Z.nx } σ H1) ∧ (t = false → ∀ H1, Same H H1 → Z.nx σ H1))
    (hp : PassesOwn (model X.prog X.w) X.A X.env X.xe := by exact PassesOwn.never) : WS X (.While c A [] pos) Z σ H :=
  ⟨_, ps_while hp pt_W pss_W, W, ⟨m0, h0⟩, fun m σ1 H1 w => by
    obtain ⟨t, h1, h2, h3⟩ := hs m σ1 H1 w
    refine h1 H1 (Same.refl _) _ fun H2 s => ?_
    cases t with
    | true => exact ⟨_, fun _ _ z => z, h2 rfl H2 s⟩
    | false => exact h3 rfl H2 s⟩
end
end Dr
set_option Elab.async false
set_option linter.all false
set_option maxRecDepth 100000
set_option maxHeartbeats 4000000
namespace Dr
open PySem PySem.Spec PyProof.Rows L2
/-! ### great ints -/
/-- how many binary digits a fraction of the elimination may have -/
def BW : Nat := 2000000
theorem BW_eq : BW = 2000000 := rfl
section
variable {X : Cx} {σ : L2.St} {H : Hp} {a b : Expr} {pos : Pos} {i j : Int}
/-- // of ints of any size, where there is room for the library's own division -/
theorem op_fdivP (hsee : X.base.NoSeer) (htree : X.prog.given.tree = none) (hd : X.A.depth + Builtin.pylongFrames < recursionLimit) (hst : X.stack = X.env :: X.outer) (hgen : X.env.scope.isGenerator = false) (hco : X.env.scope.isCoroutine = false) :
    OpR X (binaryOp .FloorDiv) (rI (fun _ j => 0 < j) fun i j => .int (i / j)) := by
  intro pins s σ H x y v u Q I rx ry h
  obtain ⟨i, j, rfl, rfl, hc, q⟩ := h
  obtain ⟨t, rfl⟩ := rx
  obtain ⟨t', rfl⟩ := ry
  refine floordiv_int (by omega) ?_ (.inr (PySem.PylongRoom.of I.nolimit hd (PySem.SeerAt.of (hsee.keeps I.bk) htree (env := X.env) (l := X.outer) (I.ok.frames.trans (congrArg some hst)) hgen hco I.ok.blt I.ok.glob)))
  rw [Int.fdiv_eq_ediv_of_nonneg i (by omega)]
  exact ⟨.int (i / j), H, I.tok _, ⟨_, rfl⟩, q⟩
theorem ev_mulX (ha : Ev X a σ H (.int i)) (hb : Ev X b σ H (.int j)) (hc : CMulX i j) : Ev X (.BinOp a .Mult b pos) σ H (.int (i * j)) :=
  ev_op2 op_mulX ha.int hb.int fun H1 s Q q => ⟨i, j, rfl, rfl, hc, q _ H1 (Same.refl _) (.int _)⟩
theorem ev_fdivP (hsee : X.base.NoSeer) (htree : X.prog.given.tree = none) (hd : X.A.depth + Builtin.pylongFrames < recursionLimit) (ha : Ev X a σ H (.int i)) (hb : Ev X b σ H (.int j)) (hc : 0 < j) (hst : X.stack = X.env :: X.outer := by rfl) (hgen : X.env.scope.isGenerator = false := by rfl) (hco : X.env.scope.isCoroutine = false := by rfl) :
    Ev X (.BinOp a .FloorDiv b pos) σ H (.int (i / j)) :=
  ev_op2 (op_fdivP hsee htree hd hst hgen hco) ha.int hb.int fun H1 s Q q => ⟨i, j, rfl, rfl, hc, q _ H1 (Same.refl _) (.int _)⟩
end
/-! ### fractions -/
def fr (q : Rat) : D := .tup [.int q.num, .int (q.den : Int)]
/-- from 0 on, small -/
def Sm (n : Nat) (q : Rat) : Prop := 0 ≤ q.num ∧ q.num.natAbs < 2 ^ n ∧ q.den < 2 ^ n
theorem lowest_num (a b : Nat) (hb : 0 < b) : (mkRat (a : Int) b).num = (a : Int) / ((Nat.gcd a b : Nat) : Int) ∧ ((mkRat (a : Int) b).den : Int) = (b : Int) / ((Nat.gcd a b : Nat) : Int) := by
  have h0 : b ≠ 0 := by omega
  refine ⟨?_, ?_⟩
  · rw [Rat.num_mkRat, if_neg h0, Int.natAbs_natCast, Nat.gcd_comm]
  · rw [Rat.den_mkRat, if_neg h0, Int.natAbs_natCast, Nat.gcd_comm]
    exact Int.natCast_ediv _ _
def preGcd (ds : List D) (d : D) : Prop := ∃ a b : Nat, ds = [.int a, .int b] ∧ d = .int (Nat.gcd a b : Nat)
def preLow (ds : List D) (d : D) : Prop := ∃ a b : Nat, ds = [.int a, .int b] ∧ 0 < b ∧ d = fr (mkRat (a : Int) b)
def preBin (C : Rat → Rat → Prop) (f : Rat → Rat → Rat) (ds : List D) (d : D) : Prop := ∃ p q : Rat, ds = [fr p, fr q] ∧ Sm (4 * BW) p ∧ Sm (4 * BW) q ∧ C p q ∧ d = fr (f p q)
theorem Sm.num {n : Nat} {q : Rat} (h : Sm n q) : q.num = (q.num.toNat : Int) ∧ q.num.toNat < 2 ^ n := by
  have h1 := h.1
  have h2 := h.2.1
  exact ⟨by omega, by omega⟩
theorem mulB {a b n m : Nat} (ha : a < 2 ^ n) (hb : b < 2 ^ m) : a * b < 2 ^ (n + m) := by
  rw [Nat.pow_add]
  exact Nat.mul_lt_mul_of_lt_of_le ha (Nat.le_of_lt hb) (Nat.pow_pos (by omega))
theorem bigW {a b : Nat} (ha : a < 2 ^ (4 * BW)) (hb : b < 2 ^ (4 * BW)) : CMulX (a : Int) (b : Int) :=
  mulx_ok (a := 4 * BW) (b := 4 * BW) (by rw [Int.natAbs_natCast]; exact ha) (by rw [Int.natAbs_natCast]; exact hb) (by have := BW_eq; omega)
theorem two_le {n m : Nat} (h : n ≤ m) : 2 ^ n ≤ 2 ^ m := Nat.pow_le_pow_right (by omega) h
theorem mk_plus (p q : Rat) (a b : Nat) (ha : p.num = (a : Int)) (hb : q.num = (b : Int)) : mkRat ((a * q.den + b * p.den : Nat) : Int) (p.den * q.den) = p + q := by
  rw [Rat.add_def', ha, hb]
  congr 1
theorem mk_times (p q : Rat) (a b : Nat) (ha : p.num = (a : Int)) (hb : q.num = (b : Int)) : mkRat ((a * b : Nat) : Int) (p.den * q.den) = p * q := by
  rw [Rat.mul_def', ha, hb]
  congr 1
theorem mk_over (p q : Rat) (a b : Nat) (ha : p.num = (a : Int)) (hb : q.num = (b : Int)) (h0 : 0 < b) : mkRat ((a * q.den : Nat) : Int) (p.den * b) = p / q := by
  rw [Rat.div_def, Rat.mul_def', Rat.num_inv, Rat.den_inv, hb, ha, if_neg (by omega), Int.sign_eq_one_of_pos (by omega), Int.natAbs_natCast, Int.one_mul]
  congr 1
theorem mk_minus (p q : Rat) (a b : Nat) (ha : p.num = (a : Int)) (hb : q.num = (b : Int)) (h : b * p.den ≤ a * q.den) : mkRat ((a * q.den - b * p.den : Nat) : Int) (p.den * q.den) = p - q := by
  rw [Rat.sub_def', ha, hb]
  congr 1
  rw [Int.ofNat_sub h]
  rfl
section
variable {P : Program} {w : World} {K : PySem.W.Frag} {mg : Str → Option Value} {base : Heap}
theorem sc16 : FnScope ["one", "other"] ["one", "other"] (defScope (top 16)) := ⟨rfl, rfl, rfl, by decide +kernel, rfl, by decide +kernel, by decide +kernel⟩
theorem pr_gcd (T : Txt K mg) : Pr P w K mg base "divisor_of" 1 ["one", "other"] (spD K preGcd) := by
  refine mk_pr T 6 rfl sc16 (fun _ _ _ _ _ _ us hl => match us, hl with | [_, _], _ => rfl) (fun vs H Q E h => ?_) (fun cdv A outer s H vs Q E hr h => ?_)
  · obtain ⟨ds, d, ⟨a, b, rfl, rfl⟩, hI, _⟩ := h
    exact hI.len
  · obtain ⟨ds, d, ⟨a, b, rfl, rfl⟩, hI, k⟩ := h
    cases hI with
    | cons h1 hI =>
    cases hI with
    | cons h2 hI =>
    cases hI
    refine w_cons (s_set sc16.nd 0 (ev_abs (T.free _ (by decide +kernel)) (ea_one (ev_var 0 rfl h1))) fun v H1 s1 hv => ?_)
    have e1 : v = .int (a : Int) := by
      rw [hv.intI]
      rw [if_neg (by omega)]
    subst e1
    have e2 := h2.intI
    subst e2
    refine w_cons (s_while (fun m σ H' => ∃ x y : Nat, σ = [some (.int (x : Int)), some (.int (y : Int))] ∧ Same H H' ∧ Nat.gcd x y = Nat.gcd a b ∧ m = y) b ⟨a, b, rfl, s1, rfl, rfl⟩ ?_)
    rintro m σ H' ⟨x, y, rfl, sH, hg, rfl⟩
    refine ⟨_, et_neI (ev_var 1 rfl (.int _)) ev_int, fun t H2 s2 => ?_, fun t H2 s2 => ?_⟩
    · have hy : 0 < m := by
        simp at t
        omega
      refine w_one (s_par sc16.nd 0 1 (ev_var 1 rfl (.int _)) (ev_mod (ev_var 0 rfl (.int _)) (ev_var 1 rfl (.int _)) (by omega)) fun v1 v2 H3 s3 hv1 hv2 => ?_)
      have e1 := hv1.intI
      have e2 := hv2.intI
      subst e1 e2
      refine ⟨x % m, Nat.mod_lt _ hy, m, x % m, ?_, (sH.trans s2).trans s3, ?_, rfl⟩
      · show [some (V.int (m : Int)), some (V.int ((x : Int) % (m : Int)))] = _
        rw [← Int.natCast_emod]
      · rw [← hg, Nat.gcd_comm, ← Nat.gcd_rec, Nat.gcd_comm]
    · have hy : m = 0 := by
        simp at t
        omega
      subst hy
      refine w_one (s_ret (ev_var 0 rfl (.int _)) fun v H3 s3 hv => ?_)
      refine k v H3 ((sH.trans s2).trans s3) ?_
      rw [Nat.gcd_zero_right] at hg
      rw [← hg]
      exact hv
theorem sc17 : FnScope ["top", "bottom", "common"] ["top", "bottom"] (defScope (top 17)) := ⟨rfl, rfl, rfl, by decide +kernel, rfl, by decide +kernel, by decide +kernel⟩
theorem pr_low (T : Txt K mg) (hsee : base.NoSeer) (htree : P.given.tree = none) (F : Pr P w K mg base "divisor_of" 1 ["one", "other"] (spD K preGcd)) : Pr P w K mg base "lowest" 35 ["top", "bottom"] (spD K preLow) := by
  refine mk_pr T 7 rfl sc17 (fun _ _ _ _ _ _ us hl => match us, hl with | [_, _], _ => rfl) (fun vs H Q E h => ?_) (fun cdv A outer s H vs Q E hr h => ?_)
  · obtain ⟨ds, d, ⟨a, b, rfl, _⟩, hI, _⟩ := h
    exact hI.len
  · obtain ⟨ds, d, ⟨a, b, rfl, hb, rfl⟩, hI, k⟩ := h
    cases hI with
    | cons h1 hI =>
    cases hI with
    | cons h2 hI =>
    cases hI
    have hg0 : 0 < Nat.gcd a b := Nat.gcd_pos_of_pos_right _ hb
    have hdp : ∀ env : Env, (A.deeper env).depth + 3 * 34 + 5 < recursionLimit → (A.deeper env).depth + Builtin.pylongFrames < recursionLimit := fun env h => by
      show _ + 100 < _
      omega
    refine w_cons (s_set sc17.nd 2 (ev_call F (hr.mono (by decide)) (ea_cons (ev_var 0 rfl h1) (ea_one (ev_var 1 rfl h2))) ⟨a, b, rfl, rfl⟩) fun v H1 s1 hv => ?_)
    refine w_one (s_ret (ev_tup (ea_cons (ev_fdivP hsee htree (hdp _ hr.room.dp) (ev_var 0 rfl (h1.ex s1)) (ev_var 2 rfl hv) (by omega)) (ea_one (ev_fdivP hsee htree (hdp _ hr.room.dp) (ev_var 1 rfl (h2.ex s1)) (ev_var 2 rfl hv) (by omega))))) fun v2 H2 s2 hv2 => ?_)
    refine k v2 H2 (s1.trans s2) ?_
    obtain ⟨e1, e2⟩ := lowest_num a b hb
    unfold fr
    rw [e1, e2]
    exact hv2
theorem sc18 : FnScope ["one", "other"] ["one", "other"] (defScope (top 18)) := ⟨rfl, rfl, rfl, by decide +kernel, rfl, by decide +kernel, by decide +kernel⟩
theorem pr_plus (T : Txt K mg) (F : Pr P w K mg base "lowest" 35 ["top", "bottom"] (spD K preLow)) : Pr P w K mg base "plus" 36 ["one", "other"] (spD K (preBin (fun _ _ => True) (· + ·))) := by
  refine mk_pr T 8 rfl sc18 (fun _ _ _ _ _ _ us hl => match us, hl with | [_, _], _ => rfl) (fun vs H Q E h => ?_) (fun cdv A outer s H vs Q E hr h => ?_)
  · obtain ⟨ds, d, ⟨a, b, rfl, _⟩, hI, _⟩ := h
    exact hI.len
  · obtain ⟨ds, d, ⟨p, q, rfl, hp, hq, hc, rfl⟩, hI, k⟩ := h
    cases hI with
    | cons h1 hI =>
    cases hI with
    | cons h2 hI =>
    cases hI
    obtain ⟨ep, lp⟩ := hp.num
    obtain ⟨eq, lq⟩ := hq.num
    generalize p.num.toNat = a at ep lp
    generalize q.num.toNat = b at eq lq
    have p1 : ∀ (X : Cx) (σ : L2.St) (e : Expr) (k : Nat) (ps ps2 : Pos), Ev X e σ H (fr p) → Ev X (.Subscript e (.Constant (.int 0) k ps) ps2) σ H (.int (a : Int)) := fun X σ e k ps ps2 z => ev_ixT z ev_int (by rw [← ep]; rfl)
    have q1 : ∀ (X : Cx) (σ : L2.St) (e : Expr) (k : Nat) (ps ps2 : Pos), Ev X e σ H (fr q) → Ev X (.Subscript e (.Constant (.int 0) k ps) ps2) σ H (.int (b : Int)) := fun X σ e k ps ps2 z => ev_ixT z ev_int (by rw [← eq]; rfl)
    have p2 : ∀ (X : Cx) (σ : L2.St) (e : Expr) (k : Nat) (ps ps2 : Pos), Ev X e σ H (fr p) → Ev X (.Subscript e (.Constant (.int 1) k ps) ps2) σ H (.int (p.den : Int)) := fun X σ e k ps ps2 z => ev_ixT z ev_int rfl
    have q2 : ∀ (X : Cx) (σ : L2.St) (e : Expr) (k : Nat) (ps ps2 : Pos), Ev X e σ H (fr q) → Ev X (.Subscript e (.Constant (.int 1) k ps) ps2) σ H (.int (q.den : Int)) := fun X σ e k ps ps2 z => ev_ixT z ev_int rfl
    refine w_one (s_ret (ev_call F hr (ea_cons (ev_add (ev_mulX (p1 _ _ _ _ _ _ (ev_var 0 rfl h1)) (q2 _ _ _ _ _ _ (ev_var 1 rfl h2)) (bigW lp hq.2.2)) (ev_mulX (q1 _ _ _ _ _ _ (ev_var 1 rfl h2)) (p2 _ _ _ _ _ _ (ev_var 0 rfl h1)) (bigW lq hp.2.2)))
      (ea_one (ev_mulX (p2 _ _ _ _ _ _ (ev_var 0 rfl h1)) (q2 _ _ _ _ _ _ (ev_var 1 rfl h2)) (bigW hp.2.2 hq.2.2)))) ⟨a * q.den + b * p.den, p.den * q.den, rfl, Nat.mul_pos p.den_pos q.den_pos, rfl⟩) ?_)
    rw [mk_plus p q a b ep eq]
    exact k
theorem sc19 : FnScope ["one", "other"] ["one", "other"] (defScope (top 19)) := ⟨rfl, rfl, rfl, by decide +kernel, rfl, by decide +kernel, by decide +kernel⟩
theorem pr_minus (T : Txt K mg) (F : Pr P w K mg base "lowest" 35 ["top", "bottom"] (spD K preLow)) : Pr P w K mg base "minus" 36 ["one", "other"] (spD K (preBin (fun p q => q ≤ p) (· - ·))) := by
  refine mk_pr T 9 rfl sc19 (fun _ _ _ _ _ _ us hl => match us, hl with | [_, _], _ => rfl) (fun vs H Q E h => ?_) (fun cdv A outer s H vs Q E hr h => ?_)
  · obtain ⟨ds, d, ⟨a, b, rfl, _⟩, hI, _⟩ := h
    exact hI.len
  · obtain ⟨ds, d, ⟨p, q, rfl, hp, hq, hc, rfl⟩, hI, k⟩ := h
    cases hI with
    | cons h1 hI =>
    cases hI with
    | cons h2 hI =>
    cases hI
    obtain ⟨ep, lp⟩ := hp.num
    obtain ⟨eq, lq⟩ := hq.num
    generalize p.num.toNat = a at ep lp
    generalize q.num.toNat = b at eq lq
    have p1 : ∀ (X : Cx) (σ : L2.St) (e : Expr) (k : Nat) (ps ps2 : Pos), Ev X e σ H (fr p) → Ev X (.Subscript e (.Constant (.int 0) k ps) ps2) σ H (.int (a : Int)) := fun X σ e k ps ps2 z => ev_ixT z ev_int (by rw [← ep]; rfl)
    have q1 : ∀ (X : Cx) (σ : L2.St) (e : Expr) (k : Nat) (ps ps2 : Pos), Ev X e σ H (fr q) → Ev X (.Subscript e (.Constant (.int 0) k ps) ps2) σ H (.int (b : Int)) := fun X σ e k ps ps2 z => ev_ixT z ev_int (by rw [← eq]; rfl)
    have p2 : ∀ (X : Cx) (σ : L2.St) (e : Expr) (k : Nat) (ps ps2 : Pos), Ev X e σ H (fr p) → Ev X (.Subscript e (.Constant (.int 1) k ps) ps2) σ H (.int (p.den : Int)) := fun X σ e k ps ps2 z => ev_ixT z ev_int rfl
    have q2 : ∀ (X : Cx) (σ : L2.St) (e : Expr) (k : Nat) (ps ps2 : Pos), Ev X e σ H (fr q) → Ev X (.Subscript e (.Constant (.int 1) k ps) ps2) σ H (.int (q.den : Int)) := fun X σ e k ps ps2 z => ev_ixT z ev_int rfl
    have hc2 : b * p.den ≤ a * q.den := by
      have z := (Rat.le_iff q p).mp hc
      rw [ep, eq] at z
      exact_mod_cast z
    refine w_one (s_ret (ev_call F hr (ea_cons (ev_sub (ev_mulX (p1 _ _ _ _ _ _ (ev_var 0 rfl h1)) (q2 _ _ _ _ _ _ (ev_var 1 rfl h2)) (bigW lp hq.2.2)) (ev_mulX (q1 _ _ _ _ _ _ (ev_var 1 rfl h2)) (p2 _ _ _ _ _ _ (ev_var 0 rfl h1)) (bigW lq hp.2.2)))
      (ea_one (ev_mulX (p2 _ _ _ _ _ _ (ev_var 0 rfl h1)) (q2 _ _ _ _ _ _ (ev_var 1 rfl h2)) (bigW hp.2.2 hq.2.2)))) ⟨a * q.den - b * p.den, p.den * q.den, by rw [Int.ofNat_sub hc2]; rfl, Nat.mul_pos p.den_pos q.den_pos, rfl⟩) ?_)
    rw [mk_minus p q a b ep eq hc2]
    exact k
theorem sc20 : FnScope ["one", "other"] ["one", "other"] (defScope (top 20)) := ⟨rfl, rfl, rfl, by decide +kernel, rfl, by decide +kernel, by decide +kernel⟩
theorem pr_times (T : Txt K mg) (F : Pr P w K mg base "lowest" 35 ["top", "bottom"] (spD K preLow)) : Pr P w K mg base "times" 36 ["one", "other"] (spD K (preBin (fun _ _ => True) (· * ·))) := by
  refine mk_pr T 10 rfl sc20 (fun _ _ _ _ _ _ us hl => match us, hl with | [_, _], _ => rfl) (fun vs H Q E h => ?_) (fun cdv A outer s H vs Q E hr h => ?_)
  · obtain ⟨ds, d, ⟨a, b, rfl, _⟩, hI, _⟩ := h
    exact hI.len
  · obtain ⟨ds, d, ⟨p, q, rfl, hp, hq, hc, rfl⟩, hI, k⟩ := h
    cases hI with
    | cons h1 hI =>
    cases hI with
    | cons h2 hI =>
    cases hI
    obtain ⟨ep, lp⟩ := hp.num
    obtain ⟨eq, lq⟩ := hq.num
    generalize p.num.toNat = a at ep lp
    generalize q.num.toNat = b at eq lq
    have p1 : ∀ (X : Cx) (σ : L2.St) (e : Expr) (k : Nat) (ps ps2 : Pos), Ev X e σ H (fr p) → Ev X (.Subscript e (.Constant (.int 0) k ps) ps2) σ H (.int (a : Int)) := fun X σ e k ps ps2 z => ev_ixT z ev_int (by rw [← ep]; rfl)
    have q1 : ∀ (X : Cx) (σ : L2.St) (e : Expr) (k : Nat) (ps ps2 : Pos), Ev X e σ H (fr q) → Ev X (.Subscript e (.Constant (.int 0) k ps) ps2) σ H (.int (b : Int)) := fun X σ e k ps ps2 z => ev_ixT z ev_int (by rw [← eq]; rfl)
    have p2 : ∀ (X : Cx) (σ : L2.St) (e : Expr) (k : Nat) (ps ps2 : Pos), Ev X e σ H (fr p) → Ev X (.Subscript e (.Constant (.int 1) k ps) ps2) σ H (.int (p.den : Int)) := fun X σ e k ps ps2 z => ev_ixT z ev_int rfl
    have q2 : ∀ (X : Cx) (σ : L2.St) (e : Expr) (k : Nat) (ps ps2 : Pos), Ev X e σ H (fr q) → Ev X (.Subscript e (.Constant (.int 1) k ps) ps2) σ H (.int (q.den : Int)) := fun X σ e k ps ps2 z => ev_ixT z ev_int rfl
    refine w_one (s_ret (ev_call F hr (ea_cons (ev_mulX (p1 _ _ _ _ _ _ (ev_var 0 rfl h1)) (q1 _ _ _ _ _ _ (ev_var 1 rfl h2)) (bigW lp lq))
      (ea_one (ev_mulX (p2 _ _ _ _ _ _ (ev_var 0 rfl h1)) (q2 _ _ _ _ _ _ (ev_var 1 rfl h2)) (bigW hp.2.2 hq.2.2)))) ⟨a * b, p.den * q.den, rfl, Nat.mul_pos p.den_pos q.den_pos, rfl⟩) ?_)
    rw [mk_times p q a b ep eq]
    exact k
theorem sc21 : FnScope ["one", "other"] ["one", "other"] (defScope (top 21)) := ⟨rfl, rfl, rfl, by decide +kernel, rfl, by decide +kernel, by decide +kernel⟩
theorem pr_over (T : Txt K mg) (F : Pr P w K mg base "lowest" 35 ["top", "bottom"] (spD K preLow)) : Pr P w K mg base "over" 36 ["one", "other"] (spD K (preBin (fun _ q => 0 < q.num) (· / ·))) := by
  refine mk_pr T 11 rfl sc21 (fun _ _ _ _ _ _ us hl => match us, hl with | [_, _], _ => rfl) (fun vs H Q E h => ?_) (fun cdv A outer s H vs Q E hr h => ?_)
  · obtain ⟨ds, d, ⟨a, b, rfl, _⟩, hI, _⟩ := h
    exact hI.len
  · obtain ⟨ds, d, ⟨p, q, rfl, hp, hq, hc, rfl⟩, hI, k⟩ := h
    cases hI with
    | cons h1 hI =>
    cases hI with
    | cons h2 hI =>
    cases hI
    obtain ⟨ep, lp⟩ := hp.num
    obtain ⟨eq, lq⟩ := hq.num
    generalize p.num.toNat = a at ep lp
    generalize q.num.toNat = b at eq lq
    have p1 : ∀ (X : Cx) (σ : L2.St) (e : Expr) (k : Nat) (ps ps2 : Pos), Ev X e σ H (fr p) → Ev X (.Subscript e (.Constant (.int 0) k ps) ps2) σ H (.int (a : Int)) := fun X σ e k ps ps2 z => ev_ixT z ev_int (by rw [← ep]; rfl)
    have q1 : ∀ (X : Cx) (σ : L2.St) (e : Expr) (k : Nat) (ps ps2 : Pos), Ev X e σ H (fr q) → Ev X (.Subscript e (.Constant (.int 0) k ps) ps2) σ H (.int (b : Int)) := fun X σ e k ps ps2 z => ev_ixT z ev_int (by rw [← eq]; rfl)
    have p2 : ∀ (X : Cx) (σ : L2.St) (e : Expr) (k : Nat) (ps ps2 : Pos), Ev X e σ H (fr p) → Ev X (.Subscript e (.Constant (.int 1) k ps) ps2) σ H (.int (p.den : Int)) := fun X σ e k ps ps2 z => ev_ixT z ev_int rfl
    have q2 : ∀ (X : Cx) (σ : L2.St) (e : Expr) (k : Nat) (ps ps2 : Pos), Ev X e σ H (fr q) → Ev X (.Subscript e (.Constant (.int 1) k ps) ps2) σ H (.int (q.den : Int)) := fun X σ e k ps ps2 z => ev_ixT z ev_int rfl
    have hb0 : 0 < b := by
      have z : 0 < q.num := hc
      rw [eq] at z
      omega
    refine w_one (s_ret (ev_call F hr (ea_cons (ev_mulX (p1 _ _ _ _ _ _ (ev_var 0 rfl h1)) (q2 _ _ _ _ _ _ (ev_var 1 rfl h2)) (bigW lp hq.2.2))
      (ea_one (ev_mulX (p2 _ _ _ _ _ _ (ev_var 0 rfl h1)) (q1 _ _ _ _ _ _ (ev_var 1 rfl h2)) (bigW hp.2.2 lq)))) ⟨a * q.den, p.den * b, rfl, Nat.mul_pos p.den_pos hb0, rfl⟩) ?_)
    rw [mk_over p q a b ep eq hb0]
    exact k
end
end Dr
set_option Elab.async false
set_option linter.all false
set_option maxRecDepth 100000
set_option maxHeartbeats 4000000
namespace Dr
open PySem PySem.Spec PyProof.Rows L2
section
variable {X : Cx} {σ : L2.St} {H H' : Hp} {a b c e : Expr} {es : List Expr} {pos : Pos} {d d1 d2 : D} {ds : List D} {i j : Int}
theorem wa_nil {Q : List V → Hp → Prop} (h : Q [] H) : WA X [] σ H Q := ⟨_, pa_nil, h⟩
theorem wa_cons {Q : List V → Hp → Prop} (h : WE X e σ H fun v H1 => WA X es σ H1 fun vs H2 => Q (v :: vs) H2) (hs : starEach (e :: es) X.env = (false, eval e X.env) :: starEach es X.env := by rfl) : WA X (e :: es) σ H Q := ⟨_, pa_cons pe_W pa_W hs, h⟩
/-! isinstance -/
def tyName : D → String
  | .non => "NoneType"
  | .bl _ => "bool"
  | .int _ => "int"
  | .str _ => "str"
  | .tup _ => "tuple"
  | .lst _ => "list"
  | .dic _ _ => "dict"
  | .key _ => "tuple"
theorem im_ty {K : PySem.W.Frag} {v : V} (h : Im K H v d) : TyX K H v (.type (tyName d)) := by
  cases h with
  | non => exact .base .non
  | bl b => exact .base (.bl b)
  | int i => exact .base (.int i)
  | str x => exact .base (.str x)
  | tup h hs =>
    rcases h with (h | ⟨o, h⟩) | ⟨o, its, n, h1, h2, _⟩
    · exact .base (.tup h)
    · exact .fTuple h
    · exact .kTuple h1 h2
  | key h => exact .base (.tup h)
  | lst h hs =>
    rcases h with h | ⟨o, h⟩
    · exact .base (.lst h)
    · exact .base (.frz h)
  | dic h hk hs =>
    rcases h with h | ⟨o, h⟩
    · exact .base (.dK h)
    · exact .fDict h
theorem ev_isi {T : String} {x : Str} {t : Bool} {p p1 : Pos} {f : Str} (hf : X.mg f = none) (hT : X.mg x = none) (he : Ev X e σ H d) (hk : kitB (tyName d) T = some t) (hb : bootBuiltins f = some (.builtin "isinstance") := by exact PyProof.Rows.boot_isinstance) (hv : bootBuiltins x = some (.type T) := by decide +kernel)
    (hg : Gl X f := by rfl) (hgx : Gl X x := by rfl) (hn : f ≠ "__name__" := by decide) (hdb : (f == ("__debug__" : Str)) = false := by decide) (hnx : x ≠ "__name__" := by decide) (hdx : (x == ("__debug__" : Str)) = false := by decide)
    (h1 : starEach [e, .Name x p1] X.env = (false, eval e X.env) :: starEach [.Name x p1] X.env := by rfl) (h2 : starEach [.Name x p1] X.env = (false, eval (.Name x p1) X.env) :: starEach [] X.env := by rfl)
    (hpl : (backTo pos (starEach [.Name x p1] X.env)).any (·.1) = false := by rfl) : Ev X (.Call (.Name f p) [e, .Name x p1] [] pos) σ H (.bl t) := fun H1 s Q q =>
  .of (pe_callB call_isi hg hf hb pa_W hn hdb h1 hpl) (wa_cons (he H1 s _ fun v H2 s2 hv2 => wa_cons ⟨_, pe_bltn (v := .ty T) hgx hT hv rfl hnx hdx, wa_nil ⟨v, .ty T, .type (tyName d), .type T, t, rfl, .ty T, im_ty hv2, kit_ty hk, q _ H2 s2 (.bl _)⟩⟩ h2) h1)
theorem atI_0 {α : Type} {d : α} {ds : List α} : atI (d :: ds) 0 = some d := atI_nat (j := 0) rfl
theorem atI_1 {α : Type} {d d2 : α} {ds : List α} : atI (d :: d2 :: ds) 1 = some d2 := atI_nat (j := 1) rfl
theorem ev_gs {x z : Str} {t : Tok} (hm : X.mg x = some (.str z t)) (hg : Gl X x := by rfl) (hdb : (x == ("__debug__" : Str)) = false := by decide) : Ev X (.Name x pos) σ H (.str z) := ev_glob hm (v := .str z) ⟨t, rfl⟩ (fun _ => .str z) hg hdb
theorem ev_gi {x : Str} {z : Int} {t : Tok} (hm : X.mg x = some (.int z t)) (hg : Gl X x := by rfl) (hdb : (x == ("__debug__" : Str)) = false := by decide) : Ev X (.Name x pos) σ H (.int z) := ev_glob hm (v := .int z) ⟨t, rfl⟩ (fun _ => .int z) hg hdb
/-! lists in the heap -/
/-- at p a list of data -/
def LsI (K : PySem.W.Frag) (H : Hp) (p : Addr) (ds : List D) : Prop := ∃ xs, H p = some (.lst xs) ∧ Ims K H xs ds
theorem LsI.im {K : PySem.W.Frag} {p : Addr} {ds : List D} (h : LsI K H p ds) : Im K H (.ref p) (.lst ds) := by
  obtain ⟨xs, h1, h2⟩ := h
  exact .lst (.of h1) h2
theorem Im.lstI {K : PySem.W.Frag} {v : V} {ds : List D} (h : Im K H v (.lst ds)) : ∃ p xs, v = .ref p ∧ Rd H p (.lst xs) ∧ Ims K H xs ds := by cases h with | lst h hs => exact ⟨_, _, rfl, h, hs⟩
theorem LsI.ex {K : PySem.W.Frag} {p : Addr} {ds : List D} (h : LsI K H p ds) (s : Same H H') : LsI K H' p ds := by
  obtain ⟨xs, h1, h2⟩ := h
  exact ⟨xs, s _ _ h1, h2.ex s⟩
/-- the value v at σ's place i -/
theorem vv_of {e : Expr} {v : V} (h : EvV X e σ H v) (s : Same H H') : EvV X e σ H' v := fun H1 s1 => h H1 (s.trans s1)
theorem ev_ixL {p : Addr} (ha : EvV X a σ H (.ref p)) (hp : LsI X.K H p ds) (hb : Ev X b σ H (.int i)) (hx : atI ds i = some d) (hs : PlainIx b := by exact fun _ _ => rfl) : Ev X (.Subscript a b pos) σ H d :=
  fun H1 s Q q => .of (pe_ix ix_list pe_W pe_W hs) (ha H1 s _ fun H2 s2 => hb.int H2 (s.trans s2) _ fun H3 s3 => by
    obtain ⟨xs, h1, h2⟩ := hp.ex ((s.trans s2).trans s3)
    obtain ⟨k, hk, hk2⟩ := Option.bind_eq_some_iff.mp hx
    obtain ⟨v, hv1, hv2⟩ := h2.at_ hk2
    refine ⟨p, xs, i, v, rfl, rfl, .of h1, ?_, q _ H3 (s2.trans s3) hv2⟩
    unfold atI
    rw [h2.len, hk]
    exact hv1)
theorem ev_lenL {x : Str} {p : Pos} {l : Addr} (hm : X.mg x = none) (ha : EvV X a σ H (.ref l)) (hl : LsI X.K H l ds) (hv : bootBuiltins x = some (.builtin "len") := by exact PySem.boot_len) (hg : Gl X x := by rfl) (hn : x ≠ "__name__" := by decide) (hdb : (x == ("__debug__" : Str)) = false := by decide)
    (he : starEach [a] X.env = (false, eval a X.env) :: starEach [] X.env := by rfl) (hpl : (backTo pos (starEach [] X.env)).any (·.1) = false := by rfl) : Ev X (.Call (.Name x p) [a] [] pos) σ H (.int ds.length) :=
  fun H1 s Q q => .of (pe_callB call_len_seq hg hm hv pa_W hn hdb he hpl) (wa_cons (ha H1 s _ fun H2 s2 => wa_nil (by
    obtain ⟨xs, h1, h2⟩ := hl.ex (s.trans s2)
    exact ⟨l, xs, rfl, .inl (.of h1), by rw [h2.len]; exact q _ H2 s2 (.int _)⟩)) he)
/-- a written list -/
theorem el_lst (h : EvA X es σ H ds) (hl : ds.length ≤ 100000 := by exact Nat.le_of_ble_eq_true rfl) : EvL X (.List es pos) σ H ds :=
  fun H1 s Q q => .of (pe_lst pa_W) (h H1 s _ fun vs H2 s2 hvs => ⟨by rw [hvs.len]; exact Nat.le_trans hl (by decide), fun p hp => q p vs _ (s2.free hp) (s2.trans (Same.new hp)) upd_same (hvs.ex (Same.new hp))⟩)
/-- [e] * n -/
theorem el_rep (ha : EvL X a σ H ds) (hb : Ev X b σ H (.int i)) (h0 : 0 ≤ i) (hl : ds.length * i.toNat ≤ 100000) (h1 : i ≤ 100000) : EvL X (.BinOp a .Mult b pos) σ H (List.replicate i.toNat ds).flatten :=
  fun H1 s Q q => .of (pe_op op_rep pe_W pe_W) (ha H1 s _ fun p xs H2 hp s2 h2 h3 => hb.int H2 (s.trans s2) _ fun H3 s3 => by
    refine ⟨p, i, xs, rfl, rfl, s3 _ _ h2, by omega, by omega, by rw [h3.len]; exact Nat.le_trans hl (by decide), fun r hr => ?_⟩
    refine q r _ _ (s2.free (s3.free hr)) ((s2.trans s3).trans (Same.new hr)) upd_same ?_
    have : ∀ n : Nat, Ims X.K H3 (List.replicate n xs).flatten (List.replicate n ds).flatten := fun n => by
      induction n with
      | zero => exact .nil
      | succ n ih =>
        rw [List.replicate_succ, List.flatten_cons, List.replicate_succ, List.flatten_cons]
        exact (h3.ex s3).app ih
    exact (this _).ex (Same.new hr))
/-- two new lists -/
theorem el_cat (ha : EvL X a σ H ds) (hb : EvL X b σ H es') (hl : ds.length + es'.length ≤ 100000) : EvL X (.BinOp a .Add b pos) σ H (ds ++ es') :=
  fun H1 s Q q => .of (pe_op op_cat pe_W pe_W) (ha H1 s _ fun p xs H2 hp s2 h2 h3 => hb H2 (s.trans s2) _ fun r ys H3 hr s3 h4 h5 =>
    ⟨p, r, xs, ys, rfl, rfl, s3 _ _ h2, h4, by rw [h3.len, h5.len]; exact Nat.le_trans hl (by decide), fun z hz => q z _ _ (s2.free (s3.free hz)) ((s2.trans s3).trans (Same.new hz)) upd_same (((h3.ex s3).app h5).ex (Same.new hz))⟩)
/-! what is walked -/
def WI (X : Cx) (tg it : Expr) : TI := fun σ H R => ∃ wi, PI X tg it wi ∧ wi σ H R
theorem pi_W {tg it : Expr} : PI X tg it (WI X tg it) := ⟨fun pins s σ H R I ⟨_, h, q⟩ => h.run pins s σ H R I q⟩
/-- data in a row: n = ds.length turns, each gives its item, perhaps in a new tuple; all this while what stood at the start of the walk stays in the sense of St -/
structure Row (K : PySem.W.Frag) (J : It) (H0 : Hp) (ds : List D) (G : Hp → Prop) : Prop where
  goes : ∀ i H, i < ds.length → G H → J.go i H
  stops : ∀ H, G H → J.stop ds.length H
  yields : ∀ i H x H', i < ds.length → G H → J.yld i H x H' → Same H H' ∧ ∃ d, ds[i]? = some d ∧ Im K H' x d
/-- the iterable gives the data ds in a row; N tells what must stay through the loop -/
def Wk (X : Cx) (tg it : Expr) (σ : L2.St) (H : Hp) (ds : List D) (N : Hp → Hp → Prop) : Prop :=
  ∀ H1, Same H H1 → ∀ R : It → Hp → Prop, (∀ J H2 G, Same H1 H2 → Row X.K J H2 ds G → (∀ H', N H2 H' → G H') → R J H2) → WI X tg it σ H1 R
theorem wk_tup {tg : Expr} (h : Ev X e σ H (.tup ds)) (hpl : D.pls ds = true) : Wk X tg e σ H ds (Tx X.K) := fun H1 s R r =>
  ⟨_, pi_tup pe_W, h H1 s _ fun v H2 s2 hv => by
    obtain ⟨a, xs, rfl, h1, h2⟩ := hv.tupI
    refine ⟨a, rfl, ⟨xs, h1⟩, r _ H2 (fun H' => Tx X.K H2 H') s2 ⟨fun i H' hi t => ?_, fun H' t => ⟨xs, t.sq _ _ h1, by rw [h2.len]; exact Nat.le_refl _⟩, fun i H' x H3 hi t y => ?_⟩ fun H' n => n⟩
    · have : i < xs.length := by rw [h2.len]; exact hi
      exact ⟨xs, xs[i], t.sq _ _ h1, by simp [this]⟩
    · obtain ⟨rfl, y⟩ := y
      have yy := y xs (t.sq _ _ h1)
      obtain ⟨d, hd1, hd2⟩ := h2.atV yy
      exact ⟨Same.refl _, d, hd1, hd2.up t (pls_mem hpl d (List.mem_of_getElem? hd1))⟩⟩
/-- a list that stays -/
theorem wk_lst {tg : Expr} {p : Addr} (h : EvV X e σ H (.ref p)) (hp : LsI X.K H p ds) (hpl : D.pls ds = true) : Wk X tg e σ H ds (fun H1 H2 => Tx X.K H1 H2 ∧ ∀ o, H1 p = some o → H2 p = some o) := fun H1 s R r =>
  ⟨_, pi_list pe_W, h H1 s _ fun H2 s2 => by
    obtain ⟨xs, h1, h2⟩ := hp.ex (s.trans s2)
    refine ⟨p, rfl, ⟨xs, .of h1⟩, r _ H2 (fun H' => Tx X.K H2 H' ∧ ∀ o, H2 p = some o → H' p = some o) s2 ⟨fun i H' hi t => ?_, fun H' t => ⟨xs, .of (t.2 _ h1), by rw [h2.len]; exact Nat.le_refl _⟩, fun i H' x H3 hi t y => ?_⟩ fun H' n => n⟩
    · have : i < xs.length := by rw [h2.len]; exact hi
      exact ⟨xs, xs[i], .of (t.2 _ h1), by simp [this]⟩
    · obtain ⟨rfl, y⟩ := y
      have yy := y xs (.of (t.2 _ h1))
      obtain ⟨d, hd1, hd2⟩ := h2.atV yy
      exact ⟨Same.refl _, d, hd1, hd2.up t.1 (pls_mem hpl d (List.mem_of_getElem? hd1))⟩⟩
/-- a new list -/
theorem wk_new {tg : Expr} (h : EvL X e σ H ds) : Wk X tg e σ H ds Same := fun H1 s R r =>
  ⟨_, pi_list pe_W, h H1 s _ fun p xs H2 _ s2 h1 h2 => by
    refine ⟨p, rfl, ⟨xs, .of h1⟩, r _ H2 (fun H' => Same H2 H') s2 ⟨fun i H' hi t => ?_, fun H' t => ⟨xs, .of (t _ _ h1), by rw [h2.len]; exact Nat.le_refl _⟩, fun i H' x H3 hi t y => ?_⟩ fun H' n => n⟩
    · have : i < xs.length := by rw [h2.len]; exact hi
      exact ⟨xs, xs[i], .of (t _ _ h1), by simp [this]⟩
    · obtain ⟨rfl, y⟩ := y
      have yy := y xs (.of (t _ _ h1))
      obtain ⟨d, hd1, hd2⟩ := h2.atV yy
      exact ⟨Same.refl _, d, hd1, hd2.ex t⟩⟩
/-- range(n) -/
def rgD (lo : Int) (n : Nat) : List D := (List.range n).map fun i : Nat => D.int (lo + (i : Int))
theorem rgD_at {lo : Int} {n i : Nat} (h : i < n) : (rgD lo n)[i]? = some (.int (lo + i)) := by simp [rgD, h]
theorem wk_rng {tg : Expr} {p : Pos} {n : Nat} (hm : X.mg "range" = none) (h : Ev X e σ H (.int (n : Int))) (hn : n ≤ 1000000) (hg : Gl X "range" := by rfl) (hs : starEach [e] X.env = [(false, eval e X.env)] := by rfl) :
    Wk X tg (.Call (.Name "range" p) [e] [] pos) σ H (rgD 0 n) (fun _ _ => True) := fun H1 s R r =>
  ⟨_, pi_range1 hg hm pa_W hs, wa_cons (h.int H1 s _ fun H2 s2 => wa_nil ⟨n, rfl, by omega, by omega, by
    rw [Int.toNat_natCast]
    refine r _ H2 (fun _ => True) s2 ⟨fun i H' hi t => by show i < n; simpa [rgD] using hi, fun H' t => by show n ≤ _; simp [rgD], fun i H' x H3 hi t y => ?_⟩ fun H' n => trivial
    obtain ⟨rfl, rfl⟩ := y
    have hi : i < n := by simpa [rgD] using hi
    exact ⟨Same.refl _, _, rgD_at hi, .int _⟩⟩) hs⟩
/-! for -/
theorem s_for {tg it : Expr} {body : List Stmt} {N : Hp → Hp → Prop} {Z : Ends} (h : Wk X tg it σ H ds N)
    (k : ∀ H1, Same H H1 → ∃ Pv : Nat → L2.St → Hp → Prop, Pv 0 σ H1 ∧ (∀ i σ' H', Pv i σ' H' → N H1 H') ∧
      (∀ i d v σ' H2 H3, ds[i]? = some d → Pv i σ' H2 → Same H2 H3 → Im X.K H3 v d → WG X tg v σ' H3 fun σ2 H4 => WSs X body { Z with nx := Pv (i + 1), ct := Pv (i + 1), bk := Z.nx } σ2 H4) ∧ (∀ σ' H', Pv ds.length σ' H' → Z.nx σ' H'))
    (hp : PassesOwn (model X.prog X.w) X.A X.env X.xe := by exact PassesOwn.never) (hc : X.calm = true := by rfl) (hs : ∀ x, foldedSetIterable it X.env x = pure x := by intro _; rfl) : WS X (.For tg it body [] pos) Z σ H :=
  ⟨_, ps_for hp hc pi_W pg_W pss_W hs, h H (Same.refl _) _ fun J H1 G s row st => by
    obtain ⟨Pv, h0, hN, hb, hd⟩ := k H1 s
    refine ⟨fun i m σ' H' => m = ds.length - i ∧ i ≤ ds.length ∧ Pv i σ' H', ⟨_, rfl, Nat.zero_le _, h0⟩, ?_⟩
    rintro i m σ' H' ⟨rfl, hi, p⟩
    have g := st H' (hN i σ' H' p)
    by_cases hlt : i < ds.length
    · refine .inr ⟨row.goes i H' hlt g, Pv (i + 1), fun σ2 H2 p2 => ⟨ds.length - (i + 1), by omega, rfl, hlt, p2⟩, fun x H2 y => ?_⟩
      obtain ⟨s2, d, hd1, hd2⟩ := row.yields i H' x H2 hlt g y
      exact hb i d x σ' H' H2 hd1 p s2 hd2
    · have e : i = ds.length := by omega
      subst e
      exact .inl ⟨row.stops H' g, hd σ' H' p⟩⟩
/-- a name as a target -/
theorem g_name {x : Str} {v : V} {Q : L2.St → Hp → Prop} (nd : X.N.Nodup) (j : Nat) (h : Q (σ.set j (some v)) H) (hi : X.N[j]? = some x := by rfl) (hx : Loc X.env.scope x := by first | exact .inl rfl | exact .inr rfl)
    (hf : X.fn x = true ∨ X.env.scope.names.lookup x = some .local := by first | exact .inl rfl | exact .inr rfl) : WG X (.Name x pos) v σ H Q := ⟨_, pg_name nd hi hx hf, h⟩
/-- two names as a target -/
theorem g_pair {x y : Str} {px py : Pos} {k : Nat} {v : V} {Q : L2.St → Hp → Prop} (nd : X.N.Nodup) (i j : Nat) (hv : Im X.K H v (.tup [d1, d2])) (h : ∀ v1 v2, Im X.K H v1 d1 → Im X.K H v2 d2 → Q ((σ.set i (some v1)).set j (some v2)) H)
    (hi : X.N[i]? = some x := by rfl) (hj : X.N[j]? = some y := by rfl) (hx : Loc X.env.scope x := by first | exact .inl rfl | exact .inr rfl) (hy : Loc X.env.scope y := by first | exact .inl rfl | exact .inr rfl)
    (hf : X.fn x = true ∨ X.env.scope.names.lookup x = some .local := by first | exact .inl rfl | exact .inr rfl) (hf2 : X.fn y = true ∨ X.env.scope.names.lookup y = some .local := by first | exact .inl rfl | exact .inr rfl) (hc : X.calm = true := by rfl)
    (hs : (assignEach [.Name x px, .Name y py] X.env).map (·.2) = assign (.Name x px) X.env :: (assignEach [.Name y py] X.env).map (·.2) := by rfl) (hs2 : (assignEach [.Name y py] X.env).map (·.2) = assign (.Name y py) X.env :: (assignEach [] X.env).map (·.2) := by rfl)
    (hn : (assignEach [.Name x px, .Name y py] X.env).length = 2 := by rfl) (hst : (assignEach [.Name x px, .Name y py] X.env).findIdx? (·.1) = none := by rfl) : WG X (.Tuple [.Name x px, .Name y py] k pos) v σ H Q := by
  obtain ⟨a, xs, rfl, h1, h2⟩ := hv.tupI
  cases h2 with
  | cons p1 h2 =>
  cases h2 with
  | cons p2 h2 =>
  cases h2
  exact ⟨_, pg_tup hc (pgs_cons (pg_name nd hi hx hf) (pgs_cons (pg_name nd hj hy hf2) pgs_nil hs2) hs) hn hst, a, _, rfl, h1, rfl, _, _, rfl, _, _, rfl, rfl, h _ _ p1 p2⟩
/-- the same, the values known -/
theorem g_pairV {x y : Str} {px py : Pos} {k : Nat} {a : Addr} {v1 v2 : V} {Q : L2.St → Hp → Prop} (nd : X.N.Nodup) (i j : Nat) (hv : SqT X.K H a [v1, v2]) (h : Q ((σ.set i (some v1)).set j (some v2)) H)
    (hi : X.N[i]? = some x := by rfl) (hj : X.N[j]? = some y := by rfl) (hx : Loc X.env.scope x := by first | exact .inl rfl | exact .inr rfl) (hy : Loc X.env.scope y := by first | exact .inl rfl | exact .inr rfl)
    (hf : X.fn x = true ∨ X.env.scope.names.lookup x = some .local := by first | exact .inl rfl | exact .inr rfl) (hf2 : X.fn y = true ∨ X.env.scope.names.lookup y = some .local := by first | exact .inl rfl | exact .inr rfl) (hc : X.calm = true := by rfl)
    (hs : (assignEach [.Name x px, .Name y py] X.env).map (·.2) = assign (.Name x px) X.env :: (assignEach [.Name y py] X.env).map (·.2) := by rfl) (hs2 : (assignEach [.Name y py] X.env).map (·.2) = assign (.Name y py) X.env :: (assignEach [] X.env).map (·.2) := by rfl)
    (hn : (assignEach [.Name x px, .Name y py] X.env).length = 2 := by rfl) (hst : (assignEach [.Name x px, .Name y py] X.env).findIdx? (·.1) = none := by rfl) : WG X (.Tuple [.Name x px, .Name y py] k pos) (.ref a) σ H Q :=
  ⟨_, pg_tup hc (pgs_cons (pg_name nd hi hx hf) (pgs_cons (pg_name nd hj hy hf2) pgs_nil hs2) hs) hn hst, a, _, rfl, hv, rfl, _, _, rfl, _, _, rfl, rfl, h⟩
/-! comprehensions -/
/-- in the block of a comprehension, wherever it runs -/
abbrev Bk (X : Cx) (scope : Scope) (F : Cx → Prop) : Prop := ∀ (s : Shared) (H : Hp) (C : Addr) (cl : List (Str × Addr)) (fp : List Addr), F (X.blk s H scope (compEnvC scope cl C X.env) fp)
def EvTs (X : Cx) (ifs : List Expr) (σ : L2.St) (H : Hp) (b : Bool) : Prop := ∀ H1, Same H H1 → ∀ Q : Bool → Hp → Prop, (∀ H2, Same H1 H2 → Q b H2) → WTs X ifs σ H1 Q
theorem et_nil : EvTs X [] σ H true := fun H1 s Q q => ⟨_, pts_nil, q H1 (Same.refl _)⟩
theorem et_one {t : Bool} (h : EvT X c σ H t) : EvTs X [c] σ H t := fun H1 s Q q => ⟨_, pts_one pt_W, h H1 s Q q⟩
/-- which turns give, and what -/
def kept (n : Nat) (t : Nat → Bool) (g : Nat → D) : List D := ((List.range n).filter t).map g
theorem kept_yes {n : Nat} {t : Nat → Bool} {g : Nat → D} (h : t n = true) : kept (n + 1) t g = kept n t g ++ [g n] := by simp [kept, List.range_succ, List.filter_append, h]
theorem kept_no {n : Nat} {t : Nat → Bool} {g : Nat → D} (h : t n = false) : kept (n + 1) t g = kept n t g := by simp [kept, List.range_succ, List.filter_append, h]
theorem kept_len (n : Nat) (t : Nat → Bool) (g : Nat → D) : (kept n t g).length ≤ n := by
  rw [kept, List.length_map]
  exact Nat.le_trans (List.length_filter_le _ _) (by simp)
/-- [elt for tg in iter if ..]: turn i keeps its item where t i, and gives g i -/
theorem kept_pl {n : Nat} {t : Nat → Bool} {g : Nat → D} (h : ∀ i, (g i).pl = true) : D.pls (kept n t g) = true := pls_map h _
theorem el_lc {tg iter elt : Expr} {ifs : List Expr} {scope : Scope} {N : Hp → Hp → Prop} {Ns ps : List Str} {sc : Scope} (S : FnScope Ns ps sc) (own : List (Str × Nat)) (t : Nat → Bool) (g : Nat → D) (hg : ∀ i, (g i).pl = true) (h : Wk X tg iter σ H ds N) (hNS : ∀ H1 H2, Same H1 H2 → N H1 H2) (hz : ds.length ≤ 100000)
    (turn : ∀ i d v H1, Same H H1 → ds[i]? = some d → Im X.K H1 v d → ∃ σ2, (∀ Q2 : L2.St → Hp → Prop, Q2 σ2 H1 → Bk X scope fun Y => WG Y tg v (wipe σ (own.map (·.2))) H1 Q2) ∧ wipe σ2 (own.map (·.2)) = wipe σ (own.map (·.2)) ∧
      (Bk X scope fun Y => EvTs Y ifs σ2 H1 (t i)) ∧ (t i = true → Bk X scope fun Y => Ev Y elt σ2 H1 (g i)))
    (hNs : X.N = Ns := by rfl) (hsc : X.env.scope = sc := by rfl) (ok : blkC Ns sc scope own = true := by decide +kernel) (hc : X.calm = true := by rfl) (hs : ∀ x, foldedSetIterable iter X.env x = pure x := by intro _; rfl) : EvL X (.ListComp elt [⟨tg, iter, ifs, 0⟩] scope pos) σ H (kept ds.length t g) := by
  intro H0 s0 Q q
  have hN : X.N.Nodup := by rw [hNs]; exact S.nd
  have ok : BlkOk X.N X.env.scope scope own := by rw [hNs, hsc]; exact blkOk_by ok
  refine .of (pe_lc (own := own) (g := fun v σ1 H1 Q => Bk X scope fun Y => WG Y tg v σ1 H1 Q) (tt := fun σ1 H1 Q => Bk X scope fun Y => WTs Y ifs σ1 H1 Q) (te := fun σ1 H1 Q => Bk X scope fun Y => WE Y elt σ1 H1 Q) hc hN pi_W ok
    (fun s H C cl fp => ⟨fun pins s' σ1 H1 v u Q I r z => (pg_W).run pins s' σ1 H1 v u Q I r (z s H C cl fp)⟩) (fun s H C cl fp => ⟨fun pins s' σ1 H1 Q I z => (pts_W).run pins s' σ1 H1 Q I (z s H C cl fp)⟩)
    (fun s H C cl fp => ⟨fun pins s' σ1 H1 Q I z => (pe_W).run pins s' σ1 H1 Q I (z s H C cl fp)⟩) hs) (h H0 s0 _ fun J H2 G s2 row st => ?_)
  intro p hp
  refine ⟨fun i m H' => m = ds.length - i ∧ i ≤ ds.length ∧ Same H2 H' ∧ ∃ acc, H' p = some (.lst acc) ∧ Ims X.K H' acc (kept i t g), ⟨_, rfl, Nat.zero_le _, Same.new hp, [], upd_same, .nil⟩, ?_⟩
  rintro i m H3 ⟨rfl, hi, s3, acc, hD, hacc⟩
  have gg := st H3 (hNS _ _ s3)
  by_cases hlt : i < ds.length
  · refine .inr ⟨row.goes i H3 hlt gg, _, fun H' z => ⟨ds.length - (i + 1), by omega, rfl, hlt, z⟩, fun x H4 y => ?_⟩
    obtain ⟨s4, d, hd1, hd2⟩ := row.yields i H3 x H4 hlt gg y
    obtain ⟨σ2, t1, t2, t3, t4⟩ := turn i d x H4 (((s0.trans s2).trans s3).trans s4) hd1 hd2
    refine t1 _ ⟨t2, fun s H C cl fp => t3 s H C cl fp H4 (Same.refl _) _ fun H5 s5 => ?_⟩
    cases e : t i with
    | false =>
      refine iteF ⟨(s3.trans s4).trans s5, acc, s5 _ _ (s4 _ _ hD), ?_⟩
      rw [kept_no e]
      exact (hacc.ex s4).ex s5
    | true =>
      refine iteT fun s H C cl fp => t4 e s H C cl fp H5 s5 _ fun v H6 s6 hv => ⟨acc, s6 _ _ (s5 _ _ (s4 _ _ hD)), ?_, ?_⟩
      · rw [hacc.len]
        have := kept_len i t g
        rw [sizeLine_eq]
        omega
      · have hD6 : H6 p = some (.lst acc) := s6 _ _ (s5 _ _ (s4 _ _ hD))
        refine ⟨?_, acc ++ [v], upd_same, ?_⟩
        · exact Same.mut (((s3.trans s4).trans s5).trans s6) hp
        · rw [kept_yes e]
          have q := kept_pl (n := i + 1) (t := t) hg
          rw [kept_yes e] at q
          exact (((((hacc.ex s4).ex s5).ex s6).app (.cons hv .nil))).up (Tx.put hD6 trivial) q
  · have e : i = ds.length := by omega
    subst e
    exact .inl ⟨row.stops H3 gg, q p acc H3 (s2.free hp) (s2.trans s3) hD hacc⟩
end
end Dr
set_option Elab.async false
set_option linter.all false
set_option maxRecDepth 100000
set_option maxHeartbeats 4000000
namespace Dr
open PySem PySem.Spec PyProof.Rows L2
/-! ### tables: keys are numbers -/
section
variable {κ α β : Type} [DecidableEq κ]
def lk (l : List (κ × α)) (k : κ) : Option α := (l.find? fun p => decide (p.1 = k)).map (·.2)
def hs (l : List (κ × α)) (k : κ) : Bool := l.any fun p => decide (p.1 = k)
def pt (l : List (κ × α)) (k : κ) (v : α) : List (κ × α) := if hs l k = true then l.map (fun p => if p.1 = k then (p.1, v) else p) else l ++ [(k, v)]
def mv (f : α → β) (l : List (κ × α)) : List (κ × β) := l.map fun p => (p.1, f p.2)
theorem lk_hs (l : List (κ × α)) (k : κ) : hs l k = (lk l k).isSome := by
  induction l with
  | nil => rfl
  | cons p r ih =>
    unfold hs lk at ih ⊢
    by_cases h : p.1 = k
    · simp [h]
    · simp only [List.any_cons, List.find?_cons, decide_eq_false h, Bool.false_or]
      exact ih
theorem mv_hs (f : α → β) (l : List (κ × α)) (k : κ) : hs (mv f l) k = hs l k := by
  unfold hs mv
  rw [List.any_map]; rfl
theorem mv_lk (f : α → β) (l : List (κ × α)) (k : κ) : lk (mv f l) k = (lk l k).map f := by
  induction l with
  | nil => rfl
  | cons p r ih =>
    unfold lk mv at ih ⊢
    by_cases h : p.1 = k
    · simp [h]
    · simp only [List.map_cons, List.find?_cons, decide_eq_false h]
      exact ih
theorem mv_pt (f : α → β) (l : List (κ × α)) (k : κ) (v : α) : mv f (pt l k v) = pt (mv f l) k (f v) := by
  unfold pt
  rw [mv_hs]
  split
  · unfold mv
    rw [List.map_map, List.map_map]
    refine List.map_congr_left fun p _ => ?_
    by_cases h : p.1 = k <;> simp [h]
  · simp [mv]
theorem pt_new {l : List (κ × α)} {k : κ} {v : α} (h : hs l k = false) : pt l k v = l ++ [(k, v)] := by
  unfold pt
  rw [h]
  rfl
end
def nk (k : Nat) : Key := Sum.inl (k : Int)
theorem nk_inj {i j : Nat} : nk i = nk j ↔ i = j := by
  unfold nk
  constructor
  · intro h
    injection h with h
    omega
  · rintro rfl; rfl
inductive KvI (K : PySem.W.Frag) (H : Hp) : List (Key × V) → List (Nat × D) → Prop
  | nil : KvI K H [] []
  | cons {v : V} {d : D} {r : List (Key × V)} {l : List (Nat × D)} {k : Nat} (h : Im K H v d) (t : KvI K H r l) : KvI K H ((nk k, v) :: r) ((k, d) :: l)
def dcD (l : List (Nat × D)) : D := .dic (l.map (·.1)) (l.map (·.2))
section
variable {K : PySem.W.Frag} {H H1 : Hp}
theorem KvI.rs (e : RS H H1) {kvs : List (Key × V)} {l : List (Nat × D)} (h : KvI K H kvs l) : KvI K H1 kvs l := by
  induction h with
  | nil => exact .nil
  | cons h t ih => exact .cons (h.rs e) ih
theorem KvI.ex {kvs : List (Key × V)} {l : List (Nat × D)} (h : KvI K H kvs l) (e : Same H H1) : KvI K H1 kvs l := h.rs (Same.rs e)
theorem KvI.up (e : Tx K H H1) {kvs : List (Key × V)} {l : List (Nat × D)} (h : KvI K H kvs l) (hp : ∀ p ∈ l, p.2.pl = true) : KvI K H1 kvs l := by
  induction h with
  | nil => exact .nil
  | cons h t ih => exact .cons (h.up e (hp _ (List.mem_cons_self ..))) (ih fun p m => hp p (List.mem_cons_of_mem _ m))
theorem KvI.len {kvs : List (Key × V)} {l : List (Nat × D)} (h : KvI K H kvs l) : kvs.length = l.length := by
  induction h with
  | nil => rfl
  | cons h t ih => exact congrArg (· + 1) ih
theorem KvI.val {kvs : List (Key × V)} {l : List (Nat × D)} (h : KvI K H kvs l) (k : Nat) : (lk l k = none ∧ valV kvs (nk k) = none) ∨ ∃ d v, lk l k = some d ∧ valV kvs (nk k) = some v ∧ Im K H v d := by
  induction h with
  | nil => exact .inl ⟨rfl, rfl⟩
  | @cons v d r l j h t ih =>
    by_cases e : j = k
    · subst e
      exact .inr ⟨d, v, by simp [lk], by simp [valV], h⟩
    · have e2 : ¬ nk j = nk k := fun z => e (nk_inj.mp z)
      have q1 : lk ((j, d) :: l) k = lk l k := by simp [lk, e]
      have q2 : valV ((nk j, v) :: r) (nk k) = valV r (nk k) := by simp [valV, e2]
      rw [q1, q2]
      exact ih
theorem KvI.any {kvs : List (Key × V)} {l : List (Nat × D)} (h : KvI K H kvs l) (k : Nat) : (kvs.any fun kv => decide (kv.1 = nk k)) = hs l k := by
  rw [lk_hs, valV_any]
  rcases h.val k with ⟨h1, h2⟩ | ⟨d, v, h1, h2, _⟩ <;> rw [h1, h2] <;> rfl
theorem KvI.app {kvs kvs' : List (Key × V)} {l l' : List (Nat × D)} (h : KvI K H kvs l) (h' : KvI K H kvs' l') : KvI K H (kvs ++ kvs') (l ++ l') := by
  induction h with
  | nil => exact h'
  | cons h t ih => exact .cons h ih
theorem KvI.repl {kvs : List (Key × V)} {l : List (Nat × D)} {v : V} {d : D} (h : KvI K H kvs l) (k : Nat) (hv : Im K H v d) : KvI K H (kvs.map fun kv => if kv.1 = nk k then (kv.1, v) else kv) (l.map fun p => if p.1 = k then (p.1, d) else p) := by
  induction h with
  | nil => exact .nil
  | @cons v' d' r l' j h t ih =>
    by_cases e : j = k
    · subst e
      simp only [List.map_cons, if_true]
      exact .cons hv ih
    · have e2 : ¬ nk j = nk k := fun z => e (nk_inj.mp z)
      simp only [List.map_cons, if_neg e, if_neg e2]
      exact .cons h ih
theorem KvI.put {kvs : List (Key × V)} {l : List (Nat × D)} {v : V} {d : D} (h : KvI K H kvs l) (k : Nat) (hv : Im K H v d) : KvI K H (putK kvs (nk k) v) (pt l k d) := by
  unfold putK pt
  rw [h.any]
  split
  · exact h.repl k hv
  · exact h.app (.cons hv .nil)
theorem KvI.parts {kvs : List (Key × V)} {l : List (Nat × D)} (h : KvI K H kvs l) : kvs.map (·.1) = (l.map (·.1)).map (fun k : Nat => Sum.inl (k : Int)) ∧ Ims K H (kvs.map (·.2)) (l.map (·.2)) := by
  induction h with
  | nil => exact ⟨rfl, .nil⟩
  | cons h t ih => exact ⟨by simp only [List.map_cons]; rw [ih.1]; rfl, .cons h ih.2⟩
theorem KvI.of : ∀ {kvs : List (Key × V)} {l : List (Nat × D)}, kvs.map (·.1) = (l.map (·.1)).map (fun k : Nat => Sum.inl (k : Int)) → Ims K H (kvs.map (·.2)) (l.map (·.2)) → KvI K H kvs l
  | [], [], _, _ => .nil
  | [], _ :: _, h, _ => by simp at h
  | _ :: _, [], h, _ => by simp at h
  | (k, v) :: kvs, (j, d) :: l, h1, h2 => by
    simp only [List.map_cons, List.cons.injEq] at h1
    obtain ⟨rfl, h1⟩ := h1
    cases h2 with
    | cons h2 h3 => exact .cons h2 (KvI.of h1 h3)
theorem Im.dcI {v : V} {l : List (Nat × D)} (h : Im K H v (dcD l)) : ∃ p kvs, v = .ref p ∧ Rd H p (.dK kvs) ∧ KvI K H kvs l := by
  cases h with
  | dic h hk hs => exact ⟨_, _, rfl, h, .of hk hs⟩
theorem Im.dc {p : Addr} {kvs : List (Key × V)} {l : List (Nat × D)} (h : Rd H p (.dK kvs)) (hk : KvI K H kvs l) : Im K H (.ref p) (dcD l) := .dic h hk.parts.1 hk.parts.2
/-- a dict that may be written -/
def Dk (K : PySem.W.Frag) (H : Hp) (p : Addr) (l : List (Nat × D)) : Prop := ∃ kvs, H p = some (.dK kvs) ∧ KvI K H kvs l
theorem Dk.im {p : Addr} {l : List (Nat × D)} (h : Dk K H p l) : Im K H (.ref p) (dcD l) := by
  obtain ⟨kvs, h1, h2⟩ := h
  exact .dc (.of h1) h2
theorem Dk.ex {p : Addr} {l : List (Nat × D)} (h : Dk K H p l) (s : Same H H1) : Dk K H1 p l := by
  obtain ⟨kvs, h1, h2⟩ := h
  exact ⟨kvs, s _ _ h1, h2.ex s⟩
/-- H without what stands at p -/
def rm (p : Addr) (H : Hp) : Hp := fun b => if b = p then none else H b
theorem rm_ne {p b : Addr} (h : b ≠ p) : rm p H b = H b := if_neg h
theorem rm_self {p : Addr} : rm p H p = none := if_pos rfl
theorem rm_le {p : Addr} : Same (rm p H) H := fun b o h => by
  by_cases e : b = p
  · subst e; rw [rm_self] at h; cases h
  · rwa [rm_ne e] at h
theorem rm_upd {p : Addr} {o : HO} : rm p (upd H p o) = rm p H := by
  funext b
  by_cases e : b = p
  · subst e; rw [rm_self, rm_self]
  · rw [rm_ne e, rm_ne e, upd_ne e]
theorem rm_same {p : Addr} (s : Same H H1) : Same (rm p H) (rm p H1) := fun b o h => by
  by_cases e : b = p
  · subst e; rw [rm_self] at h; cases h
  · rw [rm_ne e] at h ⊢; exact s _ _ h
theorem rm_new {p : Addr} {o : HO} (h : H p = none) : Same H (rm p (upd H p o)) := fun b u e => by
  have : b ≠ p := fun z => by subst z; rw [h] at e; cases e
  rw [rm_ne this, upd_ne this]; exact e
/-- p's object changed, nothing else but what is new -/
def Mu (p : Addr) (H H1 : Hp) : Prop := Same (rm p H) (rm p H1)
theorem Mu.refl {p : Addr} : Mu p H H := Same.refl _
theorem Mu.same {H0 : Hp} {p : Addr} (s : Same H0 H) (h : H0 p = none) (m : Mu p H H1) : Same H0 H1 := fun b o e => by
  have ne : b ≠ p := fun z => by subst z; rw [h] at e; cases e
  have := m b o (by rw [rm_ne ne]; exact s _ _ e)
  rwa [rm_ne ne] at this
theorem Mu.at {p b : Addr} {o : HO} (m : Mu p H H1) (ne : b ≠ p) (h : H b = some o) : H1 b = some o := by
  have := m b o (by rw [rm_ne ne]; exact h)
  rwa [rm_ne ne] at this
theorem Dk.mu {p q : Addr} {l : List (Nat × D)} (h : Dk K H q l) (ne : q ≠ p) (m : Mu p H H1) (t : Tx K H H1) (hp : ∀ x ∈ l, x.2.pl = true) : Dk K H1 q l := by
  obtain ⟨kvs, h1, h2⟩ := h
  exact ⟨kvs, m.at ne h1, h2.up t hp⟩
theorem Mu.tx {p : Addr} {o : HO} (h : H p = some o) (n : NoT o) (m : Mu p H H1) : Tx K H H1 := by
  refine ⟨fun a xs q => ?_, fun a xs q => m.at (fun z => by subst z; rw [h] at q; obtain rfl := Option.some.inj q; exact n) q⟩
  rcases q with q | q
  · have ne : a ≠ p := by
      rintro rfl
      rcases q with q | ⟨u, q⟩
      · rw [h] at q; obtain rfl := Option.some.inj q; exact n
      · rw [h] at q; obtain rfl := Option.some.inj q; exact n
    have st : ∀ u, H a = some u → H1 a = some u := fun u z => by
      have := m a u (by rw [rm_ne ne]; exact z)
      rwa [rm_ne ne] at this
    refine .inl ?_
    rcases q with q | ⟨u, q⟩
    · exact .inl (st _ q)
    · exact .inr ⟨u, st _ q⟩
  · exact .inr q
end
theorem LsI.mu {K : PySem.W.Frag} {H H1 : Hp} {p q : Addr} {l : List D} (h : LsI K H q l) (ne : q ≠ p) (m : Mu p H H1) (t : Tx K H H1) (hp : D.pls l = true) : LsI K H1 q l := by
  obtain ⟨kvs, h1, h2⟩ := h
  exact ⟨kvs, m.at ne h1, h2.up t hp⟩
section
variable {X : Cx} {σ : L2.St} {H H' : Hp} {a b c e f : Expr} {es : List Expr} {pos p1 apos cpos : Pos} {d d1 d2 : D} {ds : List D} {i j : Int} {l : List (Nat × D)} {n k : Nat} {Z : Ends}
/-! ### reading -/
theorem vv_ixT {p : Addr} {xs : List V} {v : V} (ha : EvV X a σ H (.ref p)) (hp : SqT X.K H p xs) (hb : Ev X b σ H (.int i)) (hx : atI xs i = some v) (hs : PlainIx b := by exact fun _ _ => rfl) : EvV X (.Subscript a b pos) σ H v :=
  fun H1 s Q q => .of (pe_ix ix_tup pe_W pe_W hs) (ha H1 s _ fun H2 s2 => hb.int H2 (s.trans s2) _ fun H3 s3 => ⟨p, xs, i, v, rfl, rfl, (Same.tx ((s.trans s2).trans s3)).sq _ _ hp, hx, q H3 (s2.trans s3)⟩)
theorem ev_dget (hr : Rm k X.A) (ha : Ev X a σ H (dcD l)) (hb : Ev X b σ H (.int (n : Int))) (hx : lk l n = some d) (hs : NoSl b := by exact fun _ _ => rfl) : Ev X (.Subscript a b pos) σ H d :=
  fun H1 s Q q => .of (pe_dget (by have := hr.room.un; omega) pe_W pe_W hs) (ha H1 s _ fun x H2 s2 hxv => hb.int H2 (s.trans s2) _ fun H3 s3 => by
    obtain ⟨p, kvs, rfl, h1, h2⟩ := hxv.dcI
    rcases h2.val n with ⟨h3, _⟩ | ⟨d', v, h3, h4, h5⟩
    · rw [hx] at h3; cases h3
    · rw [hx] at h3
      obtain rfl := Option.some.inj h3
      exact ⟨p, v, rfl, .inl ⟨kvs, nk n, Same.rd s3 h1, rfl, h4.symm⟩, q v H3 (s2.trans s3) (h5.ex s3)⟩)
theorem vv_dget {p : Addr} {kvs : List (Key × V)} {v : V} (hr : Rm k X.A) (ha : EvV X a σ H (.ref p)) (hp : Rd H p (.dK kvs)) (hb : Ev X b σ H (.int (n : Int))) (hx : valV kvs (nk n) = some v) (hs : NoSl b := by exact fun _ _ => rfl) : EvV X (.Subscript a b pos) σ H v :=
  fun H1 s Q q => .of (pe_dget (by have := hr.room.un; omega) pe_W pe_W hs) (ha H1 s _ fun H2 s2 => hb.int H2 (s.trans s2) _ fun H3 s3 =>
    ⟨p, v, rfl, .inl ⟨kvs, nk n, Same.rd ((s.trans s2).trans s3) hp, rfl, hx.symm⟩, q H3 (s2.trans s3)⟩)
theorem KvI.dget {K : PySem.W.Frag} {p : Addr} {kvs : List (Key × V)} (h : Rd H p (.dK kvs)) (hk : KvI K H kvs l) (n : Nat) : ∃ o : Option V, DGet H p (.int (n : Int)) o ∧ o.isSome = hs l n := by
  refine ⟨valV kvs (nk n), .inl ⟨kvs, nk n, h, rfl, rfl⟩, ?_⟩
  rw [lk_hs]
  rcases hk.val n with ⟨h1, h2⟩ | ⟨d, v, h1, h2, _⟩ <;> rw [h1, h2] <;> rfl
theorem et_in (hr : Rm k X.A) (ha : Ev X a σ H (.int (n : Int))) (hb : Ev X b σ H (dcD l)) (hm : behindInMarks .In b = false := by rfl) : EvT X (.Compare a [.In] [b] pos) σ H (hs l n) :=
  fun H1 s Q q => .of (pt_cmp (pc_din (by have := hr.room.un; omega) pe_W pe_W) hm) (ha.int H1 s _ fun H2 s2 => hb H2 (s.trans s2) _ fun x H3 s3 hx => by
    obtain ⟨p, kvs, rfl, h1, h2⟩ := hx.dcI
    obtain ⟨o, h3, h4⟩ := h2.dget h1 n
    exact ⟨p, o, rfl, h3, _, rfl, by rw [h4]; exact q H3 (s2.trans s3)⟩)
theorem et_notin (hr : Rm k X.A) (ha : Ev X a σ H (.int (n : Int))) (hb : Ev X b σ H (dcD l)) (hm : behindInMarks .NotIn b = false := by rfl) : EvT X (.Compare a [.NotIn] [b] pos) σ H (!hs l n) :=
  fun H1 s Q q => .of (pt_cmp (pc_dnotin (by have := hr.room.un; omega) pe_W pe_W) hm) (ha.int H1 s _ fun H2 s2 => hb H2 (s.trans s2) _ fun x H3 s3 hx => by
    obtain ⟨p, kvs, rfl, h1, h2⟩ := hx.dcI
    obtain ⟨o, h3, h4⟩ := h2.dget h1 n
    exact ⟨p, o, rfl, h3, _, rfl, by rw [h4]; exact q H3 (s2.trans s3)⟩)
/-- d.get(n, x) -/
theorem ev_dgetd (hr : Rm k X.A) (ha : Ev X a σ H (dcD l)) (hb : Ev X e σ H (.int (n : Int))) (hc : Ev X f σ H d) (m : M2 X a "get" apos e f cpos := by exact ⟨rfl, rfl, rfl, rfl⟩) : Ev X (.Call (.Attribute a "get" apos) [e, f] [] cpos) σ H ((lk l n).getD d) :=
  fun H1 s Q q => .of (pe_dget2 (by have := hr.room.un; omega) pe_W pe_W pe_W m) (ha H1 s _ fun x H2 s2 hx => by
    obtain ⟨p, kvs, rfl, h1, h2⟩ := hx.dcI
    refine ⟨p, rfl, .inl ⟨kvs, h1⟩, hb.int H2 (s.trans s2) _ fun H3 s3 => hc H3 ((s.trans s2).trans s3) _ fun z H4 s4 hz => ?_⟩
    have h1' := Same.rd (s3.trans s4) h1
    have h2' := h2.ex (s3.trans s4)
    refine ⟨valV kvs (nk n), .inl ⟨kvs, nk n, h1', rfl, rfl⟩, ?_⟩
    rcases h2'.val n with ⟨h3, h4⟩ | ⟨d', v, h3, h4, h5⟩
    · rw [h3] at q
      rw [h4]
      exact q _ H4 ((s2.trans s3).trans s4) hz
    · rw [h3] at q
      rw [h4]
      exact q _ H4 ((s2.trans s3).trans s4) h5)
/-! ### making, writing -/
/-- {} -/
theorem we_dnew {Q : VK} (h : ∀ p, H p = none → Q (.ref p) (upd H p (.dK []))) : WE X (.Dict [] [] pos) σ H Q := .of pe_dnewK h
/-- d[n] = e -/
theorem s_dput {p : Addr} (hr : Rm k X.A) (he : Ev X e σ H d) (ha : EvV X a σ H (.ref p)) (hp : Dk X.K H p l) (hb : Ev X b σ H (.int (n : Int))) (hpl : d.pl = true) (hlp : ∀ q ∈ l, q.2.pl = true) (hz : l.length < 100000)
    (h : ∀ H', Mu p H H' → Tx X.K H H' → Dk X.K H' p (pt l n d) → Z.nx σ H') (hs : swapsWith e (some (.Subscript a b p1)) pos.line X.env = pure false := by rfl) : WS X (.Assign [.Subscript a b p1] e pos) Z σ H :=
  ⟨_, ps_dput (by have := hr.room.un; omega) pe_W pe_W pe_W hs, he H (Same.refl _) _ fun v H1 s1 hv => ha H1 s1 _ fun H2 s2 => hb.int H2 (s1.trans s2) _ fun H3 s3 => by
    have s := (s1.trans s2).trans s3
    obtain ⟨kvs, h1, h2⟩ := hp.ex s
    refine ⟨p, _, rfl, .inl ⟨kvs, nk n, h1, rfl, by rw [h2.len, sizeLine_eq]; omega, rfl⟩, h _ ?_ ((Same.tx s).trans (Tx.put h1 trivial)) ⟨_, upd_same, ?_⟩⟩
    · unfold Mu
      rw [rm_upd]
      exact rm_same s
    · have t : Tx X.K H3 (upd H3 p (.dK (putK kvs (nk n) v))) := Tx.put h1 trivial
      refine ((h2.put n (hv.ex (s2.trans s3))).up t fun q m => ?_)
      have : q ∈ l ∨ q.2 = d := by
        unfold pt at m
        split at m
        · obtain ⟨q', m', rfl⟩ := List.mem_map.mp m
          split
          · exact .inr rfl
          · exact .inl m'
        · rcases List.mem_append.mp m with m | m
          · exact .inl m
          · rw [List.mem_singleton] at m
            exact .inr (by rw [m])
      rcases this with m | m
      · exact hlp q m
      · rw [m]; exact hpl⟩
/-- d[n] = e, whatever e is -/
def DTail (X : Cx) (a b : Expr) (σ : L2.St) (v : V) (Z : Ends) : Hp → Prop := fun H1 => WE X a σ H1 fun x H2 => WE X b σ H2 fun y H3 => ∃ a' H4, x = .ref a' ∧ DPut H3 a' y v H4 ∧ Z.nx σ H4
theorem dtail {p : Addr} {v : V} {kvs : List (Key × V)} (hp : H p = some (.dK kvs)) (hz : kvs.length < 100000) (ha : EvV X a σ H (.ref p)) (hb : Ev X b σ H (.int (n : Int))) (h : ∀ H2, Same H H2 → Z.nx σ (upd H2 p (.dK (putK kvs (nk n) v)))) : DTail X a b σ v Z H :=
  ha H (Same.refl _) _ fun H2 s2 => hb.int H2 s2 _ fun H3 s3 => ⟨p, _, rfl, .inl ⟨kvs, nk n, (s2.trans s3) _ _ hp, rfl, by rw [sizeLine_eq]; omega, rfl⟩, h H3 (s2.trans s3)⟩
theorem s_dputW (hr : Rm k X.A) (he : WE X e σ H fun v H1 => DTail X a b σ v Z H1) (hs : swapsWith e (some (.Subscript a b p1)) pos.line X.env = pure false := by rfl) : WS X (.Assign [.Subscript a b p1] e pos) Z σ H :=
  ⟨_, ps_dput (by have := hr.room.un; omega) (pe_W (e := a)) (pe_W (e := b)) pe_W hs, he⟩
/-- l.append(e) -/
theorem s_appW {p : Addr} {xs : List V} (ha : EvV X a σ H (.ref p)) (hp : H p = some (.lst xs)) (hz : xs.length < 100000) (he : ∀ H1, Same H H1 → WA X [e] σ H1 fun vs H2 => rAppend (.ref p) vs H2 fun _ H' => Z.nx σ H')
    (hbase : attributeBase a "append" X.env (eval a X.env) = eval a X.env := by rfl)
    (hfew : ((backTo cpos (starEach [e] X.env)).all (fun x => !x.1) && (backToKw cpos (keywordEach [] X.env)).all (fun x => x.1.isSome)
      && decide (([e]).length + ([] : List Keyword).length + (if ([] : List Keyword).isEmpty then 0 else 1) < 30)) = true := by rfl)
    (hline : (apos.endLine == cpos.line) = true := by rfl) (hs : starEach [e] X.env = (false, eval e X.env) :: starEach [] X.env := by rfl) (hplain : (backTo cpos (starEach [] X.env)).any (·.1) = false := by rfl)
    (hsw : swapsWith (.Call (.Attribute a "append" apos) [e] [] cpos) none pos.line X.env = pure false := by rfl) : WS X (.Expr (.Call (.Attribute a "append" apos) [e] [] cpos) pos) Z σ H :=
  ⟨_, ps_expr (pe_bm PySem.F.plainAttrs_list PySem.F.slot_list_append PySem.F.type_list_append (r := rAppend) mt_append pe_W pa_W hbase hfew hline hs hplain) hsw, ha H (Same.refl _) _ fun H1 s1 => ⟨.inl ⟨rfl, xs, .inl (.of (s1 _ _ hp))⟩, he H1 s1⟩⟩
theorem s_app {p : Addr} (ha : EvV X a σ H (.ref p)) (hp : LsI X.K H p ds) (he : Ev X e σ H d) (hpl : d.pl = true) (hlp : D.pls ds = true) (hz : ds.length < 100000) (h : ∀ H', Mu p H H' → Tx X.K H H' → LsI X.K H' p (ds ++ [d]) → Z.nx σ H')
    (hbase : attributeBase a "append" X.env (eval a X.env) = eval a X.env := by rfl)
    (hfew : ((backTo cpos (starEach [e] X.env)).all (fun x => !x.1) && (backToKw cpos (keywordEach [] X.env)).all (fun x => x.1.isSome)
      && decide (([e]).length + ([] : List Keyword).length + (if ([] : List Keyword).isEmpty then 0 else 1) < 30)) = true := by rfl)
    (hline : (apos.endLine == cpos.line) = true := by rfl) (hs : starEach [e] X.env = (false, eval e X.env) :: starEach [] X.env := by rfl) (hplain : (backTo cpos (starEach [] X.env)).any (·.1) = false := by rfl)
    (hsw : swapsWith (.Call (.Attribute a "append" apos) [e] [] cpos) none pos.line X.env = pure false := by rfl) : WS X (.Expr (.Call (.Attribute a "append" apos) [e] [] cpos) pos) Z σ H := by
  obtain ⟨xs, h1, h2⟩ := hp
  refine s_appW ha h1 (by rw [h2.len]; exact hz) (fun H1 s1 => wa_cons (he H1 s1 _ fun v H2 s2 hv => wa_nil ⟨p, xs, v, rfl, rfl, (s1.trans s2) _ _ h1, by rw [h2.len, sizeLine_eq]; omega, h _ ?_ ((Same.tx (s1.trans s2)).trans (Tx.put ((s1.trans s2) _ _ h1) trivial)) ⟨_, upd_same, ?_⟩⟩) hs) hbase hfew hline hs hplain hsw
  · unfold Mu
    rw [rm_upd]
    exact rm_same (s1.trans s2)
  · refine ((h2.ex (s1.trans s2)).app (.cons hv .nil)).up (Tx.put ((s1.trans s2) _ _ h1) trivial) (pls_all fun z m => ?_)
    rcases List.mem_append.mp m with m | m
    · exact pls_mem hlp z m
    · rw [List.mem_singleton.mp m]; exact hpl
end
end Dr
set_option Elab.async false
set_option linter.all false
set_option maxRecDepth 100000
set_option maxHeartbeats 4000000
namespace Dr
open PySem PySem.Spec PyProof.Rows L2
section
variable {X : Cx} {σ : L2.St} {H H' : Hp} {a b c e f : Expr} {es : List Expr} {pos p1 apos cpos : Pos} {d d1 d2 : D} {ds : List D} {i j : Int} {l : List (Nat × D)} {n k : Nat} {Z : Ends}
theorem s_expr (he : Ev X e σ H d) (h : ∀ H1, Same H H1 → Z.nx σ H1) (hs : swapsWith e none pos.line X.env = pure false := by rfl) : WS X (.Expr e pos) Z σ H :=
  ⟨_, ps_expr pe_W hs, he H (Same.refl _) _ fun v H1 s _ => h H1 s⟩
/-- a, b, c = x, y, z -/
theorem s_par3 {x y z : Str} {px py pz pt : Pos} {kt k2 pt2} (nd : X.N.Nodup) (i j l : Nat) (h : WA X [a, b, c] σ H fun vs H1 => ∃ u v w, vs = [u, v, w] ∧ Z.nx (((σ.set i (some u)).set j (some v)).set l (some w)) H1)
    (hij : i ≠ j := by decide) (hil : i ≠ l := by decide) (hjl : j ≠ l := by decide) (hc : X.calm = true := by rfl) (hi : X.N[i]? = some x := by rfl) (hj : X.N[j]? = some y := by rfl) (hl : X.N[l]? = some z := by rfl)
    (hx : X.env.scope.names.lookup x = some .local := by rfl) (hy : X.env.scope.names.lookup y = some .local := by rfl) (hz : X.env.scope.names.lookup z = some .local := by rfl)
    (hw : swappedStores [.Tuple [.Name x px, .Name y py, .Name z pz] kt pt] (.Tuple [a, b, c] k2 pt2) X.env = pure (some [x, y, z]) := by rfl)
    (hs : swapsWithSole [.Tuple [.Name x px, .Name y py, .Name z pz] kt pt] (.Tuple [a, b, c] k2 pt2) pos.line X.env = pure false := by rfl) : WS X (.Assign [.Tuple [.Name x px, .Name y py, .Name z pz] kt pt] (.Tuple [a, b, c] k2 pt2) pos) Z σ H :=
  ⟨_, ps_par3 hc nd hi hj hl hij hil hjl hx hy hz pa_W hw hs, h⟩
/-- a, b = x, y, whatever they are -/
theorem s_par2W {x y : Str} {px py pt : Pos} {kt k2 pt2} (nd : X.N.Nodup) (i j : Nat) (h : WA X [a, b] σ H fun vs H1 => ∃ u v, vs = [u, v] ∧ Z.nx ((σ.set i (some u)).set j (some v)) H1)
    (hij : i ≠ j := by decide) (hc : X.calm = true := by rfl) (hi : X.N[i]? = some x := by rfl) (hj : X.N[j]? = some y := by rfl) (hx : X.env.scope.names.lookup x = some .local := by rfl) (hy : X.env.scope.names.lookup y = some .local := by rfl)
    (hw : swappedStores [.Tuple [.Name x px, .Name y py] kt pt] (.Tuple [a, b] k2 pt2) X.env = pure (some [x, y]) := by rfl) (hs : swapsWithSole [.Tuple [.Name x px, .Name y py] kt pt] (.Tuple [a, b] k2 pt2) pos.line X.env = pure false := by rfl) : WS X (.Assign [.Tuple [.Name x px, .Name y py] kt pt] (.Tuple [a, b] k2 pt2) pos) Z σ H :=
  ⟨_, ps_par hc nd hi hj hij hx hy pa_W hw hs, h⟩
/-- a, b = x, y by way of the tuple (a name of these is a cell) -/
theorem s_parC {x y : Str} {px py pt : Pos} {kt k2 : Nat} {pt2 : Pos} (nd : X.N.Nodup) (i j : Nat) (h : WA X [a, b] σ H fun vs H1 => ∃ u v, vs = [u, v] ∧ ∀ p, H1 p = none → Z.nx ((σ.set i (some u)).set j (some v)) (upd H1 p (.tup [u, v])))
    (hc : X.calm = true := by rfl) (hi : X.N[i]? = some x := by rfl) (hj : X.N[j]? = some y := by rfl) (hx : Loc X.env.scope x := by first | exact .inl rfl | exact .inr rfl) (hy : Loc X.env.scope y := by first | exact .inl rfl | exact .inr rfl)
    (hf : X.fn x = true ∨ X.env.scope.names.lookup x = some .local := by first | exact .inl rfl | exact .inr rfl) (hf2 : X.fn y = true ∨ X.env.scope.names.lookup y = some .local := by first | exact .inl rfl | exact .inr rfl)
    (hs : (assignEach [.Name x px, .Name y py] X.env).map (·.2) = assign (.Name x px) X.env :: (assignEach [.Name y py] X.env).map (·.2) := by rfl) (hs2 : (assignEach [.Name y py] X.env).map (·.2) = assign (.Name y py) X.env :: (assignEach [] X.env).map (·.2) := by rfl)
    (hn : (assignEach [.Name x px, .Name y py] X.env).length = 2 := by rfl) (hst : (assignEach [.Name x px, .Name y py] X.env).findIdx? (·.1) = none := by rfl)
    (hsw : swapsWithSole [.Tuple [.Name x px, .Name y py] kt pt] (.Tuple [a, b] k2 pt2) pos.line X.env = pure false := by rfl) (hw : swappedStores [.Tuple [.Name x px, .Name y py] kt pt] (.Tuple [a, b] k2 pt2) X.env = pure none := by rfl)
    (h1 : (assignEach [.Tuple [.Name x px, .Name y py] kt pt] X.env).map (·.2) = [assign (.Tuple [.Name x px, .Name y py] kt pt) X.env] := by rfl) : WS X (.Assign [.Tuple [.Name x px, .Name y py] kt pt] (.Tuple [a, b] k2 pt2) pos) Z σ H := by
  obtain ⟨t, ht, q⟩ := h
  refine ⟨_, ps_asg (pe_tup (t := fun σ H Q => ∃ Q0 : List V → Hp → Prop, t σ H Q0 ∧ ∀ vs H1, Q0 vs H1 → Q vs H1) ⟨fun pos pins s σ H Q I ⟨Q0, h, hq⟩ => thn (ht.run pos pins s σ H Q0 I h) fun us s' ⟨vs, H', I', r, z⟩ => ⟨vs, H', I', r, hq _ _ z⟩⟩) (pg_tup hc (pgs_cons (pg_name nd hi hx hf) (pgs_cons (pg_name nd hj hy hf2) pgs_nil hs2) hs) hn hst) hsw hw h1, _, q, ?_⟩
  rintro vs H1 ⟨u, v, rfl, hq⟩
  exact ⟨by exact Nat.le_of_ble_eq_true rfl, fun p hp => ⟨p, [u, v], rfl, .of upd_same, rfl, _, _, rfl, _, _, rfl, rfl, hq p hp⟩⟩
/-- {n: e} -/
theorem we_disp1 {Q : VK} (ha : Ev X a σ H (.int (n : Int))) (hb : Ev X b σ H d) (h : ∀ p H1, H p = none → Same H H1 → Dk X.K H1 p [(n, d)] → Q (.ref p) H1) (hpl : d.pl = true := by rfl) : WE X (.Dict [some a] [b] pos) σ H Q :=
  ⟨_, pe_disp (pps_cons pe_W pe_W pps_nil) rfl rfl (by simp) (by exact Nat.le_of_ble_eq_true rfl), fun p hp => ha.int _ (Same.new hp) _ fun H2 s2 => hb H2 ((Same.new hp).trans s2) _ fun v H3 s3 hv => by
    have e : H3 p = some (.dK []) := (s2.trans s3) _ _ upd_same
    refine ⟨e, [(nk n, v)], rfl, by simp, h p _ hp (Same.mut ((Same.new hp).trans (s2.trans s3)) hp) ⟨_, upd_same, ?_⟩⟩
    exact .cons (hv.up (Tx.put e trivial) hpl) .nil⟩
theorem we_ev {Q : VK} (h : Ev X e σ H d) (k : ∀ v H1, Same H H1 → Im X.K H1 v d → Q v H1) : WE X e σ H Q := h H (Same.refl _) Q k
theorem we_evl {Q : VK} (h : EvL X e σ H ds) (k : ∀ p H1, H p = none → Same H H1 → LsI X.K H1 p ds → Q (.ref p) H1) : WE X e σ H Q := h H (Same.refl _) Q fun p xs H2 hp s h1 h2 => k p H2 hp s ⟨xs, h1, h2⟩
/-! ### ends may be weakened -/
theorem WE.mono {Q Q2 : VK} (h : WE X e σ H Q) (q : ∀ v H', Q v H' → Q2 v H') : WE X e σ H Q2 := by
  obtain ⟨t, ht, hq⟩ := h
  exact ⟨fun σ H Q2 => ∃ Q : VK, t σ H Q ∧ ∀ v H', Q v H' → Q2 v H', ⟨fun pins s σ H Q2 I ⟨Q, h, q⟩ => thn (ht.run pins s σ H Q I h) fun u s' ⟨v, H', I', r, z⟩ => ⟨v, H', I', r, q _ _ z⟩⟩, Q, hq, q⟩
theorem WA.mono {Q Q2 : List V → Hp → Prop} (h : WA X es σ H Q) (q : ∀ v H', Q v H' → Q2 v H') : WA X es σ H Q2 := by
  obtain ⟨t, ht, hq⟩ := h
  exact ⟨fun σ H Q2 => ∃ Q : List V → Hp → Prop, t σ H Q ∧ ∀ v H', Q v H' → Q2 v H', ⟨fun pos pins s σ H Q2 I ⟨Q, h, q⟩ => thn (ht.run pos pins s σ H Q I h) fun u s' ⟨v, H', I', r, z⟩ => ⟨v, H', I', r, q _ _ z⟩⟩, Q, hq, q⟩
structure Ends.le (Z Z2 : Ends) : Prop where
  nx : ∀ σ H, Z.nx σ H → Z2.nx σ H
  rt : ∀ v H, Z.rt v H → Z2.rt v H
  bk : ∀ σ H, Z.bk σ H → Z2.bk σ H
  ct : ∀ σ H, Z.ct σ H → Z2.ct σ H
theorem sp_le {pins : List (Addr × Obj)} {Z Z2 : Ends} (l : Ends.le Z Z2) {f : Flow} {s' : Shared} (h : SP X pins Z f s') : SP X pins Z2 f s' := by
  cases f with
  | next => obtain ⟨σ', H', I2, q⟩ := h; exact ⟨σ', H', I2, l.nx _ _ q⟩
  | brk => obtain ⟨σ', H', I2, q⟩ := h; exact ⟨σ', H', I2, l.bk _ _ q⟩
  | cont => obtain ⟨σ', H', I2, q⟩ := h; exact ⟨σ', H', I2, l.ct _ _ q⟩
  | ret v => obtain ⟨x, σ', H', I2, r, q⟩ := h; exact ⟨x, σ', H', I2, r, l.rt _ _ q⟩
theorem WS.mono {st : Stmt} {Z2 : Ends} (h : WS X st Z σ H) (l : Ends.le Z Z2) : WS X st Z2 σ H := by
  obtain ⟨t, ht, hq⟩ := h
  exact ⟨fun Z2 σ H => ∃ Z : Ends, t Z σ H ∧ Ends.le Z Z2, ⟨fun pins s σ H Z2 I ⟨Z, h, q⟩ => thn (ht.run pins s σ H Z I h) fun u s' z => sp_le q z⟩, Z, hq, l⟩
theorem WSs.mono {st : List Stmt} {Z2 : Ends} (h : WSs X st Z σ H) (l : Ends.le Z Z2) : WSs X st Z2 σ H := by
  obtain ⟨t, ht, hq⟩ := h
  exact ⟨fun Z2 σ H => ∃ Z : Ends, t Z σ H ∧ Ends.le Z Z2, ⟨fun pins s σ H Z2 I ⟨Z, h, q⟩ => thn (ht.run pins s σ H Z I h) fun u s' z => sp_le q z⟩, Z, hq, l⟩
/-! ### the dict that is walked is locked -/
/-- ends of a statement that runs while d is locked: w what stands there meanwhile, U puts back -/
def lkZ (Z : Ends) (d : Addr) (w : Option HO) (U : Hp → Hp) : Ends :=
  ⟨fun σ' H' => H' d = w ∧ Z.nx σ' (U H'), fun v H' => H' d = w ∧ Z.rt v (U H'), fun σ' H' => H' d = w ∧ Z.bk σ' (U H'), fun σ' H' => H' d = w ∧ Z.ct σ' (U H')⟩
/-- H before, HL locked, U puts back -/
structure Lk (d : Addr) (o : Obj) (kvs : List (Key × V)) (H HL : Hp) (U : Hp → Hp) : Prop where
  lk : HL d = some (.frz o (.dK kvs))
  ot : ∀ b, b ≠ d → HL b = H b
  un : ∀ H', H' d = HL d → U H' d = H d
  uo : ∀ H' b, b ≠ d → U H' b = H' b
  rd : H d = some (.dK kvs) ∨ H d = some (.frz o (.dK kvs))
theorem rs_swap {d : Addr} {o : Obj} {kvs : List (Key × V)} {H HL : Hp} (h1 : H d = some (.dK kvs) ∨ H d = some (.frz o (.dK kvs))) (h2 : HL d = some (.dK kvs) ∨ HL d = some (.frz o (.dK kvs))) (ot : ∀ b, b ≠ d → HL b = H b) : RS H HL := by
  refine ⟨fun b w n h => ?_, fun a xs q => by
    have : a ≠ d := by
      rintro rfl
      rcases h1 with z | z <;> rw [z] at q <;> cases q
    rw [ot a this]; exact q⟩
  by_cases e : b = d
  · subst e
    have e1 : w = .dK kvs := by
      rcases h1 with r | r <;> rcases h with h | ⟨o2, h⟩ <;> rw [r] at h
      · exact (Option.some.inj h).symm
      · cases h
      · exact absurd (Option.some.inj h).symm (n _ _)
      · have h := Option.some.inj h
        injection h with ha hb
        exact hb.symm
    subst e1
    rcases h2 with h2 | h2
    · exact .inl h2
    · exact .inr ⟨o, h2⟩
  · rcases h with h | ⟨o', h⟩
    · exact .inl (by rw [ot b e]; exact h)
    · exact .inr ⟨o', by rw [ot b e]; exact h⟩
section
variable {dd : Addr} {o : Obj} {kvs : List (Key × V)} {HL : Hp} {U : Hp → Hp}
theorem Lk.rs (L : Lk dd o kvs H HL U) : RS H HL := rs_swap L.rd (.inr L.lk) L.ot
theorem Lk.back (L : Lk dd o kvs H HL U) {H' : Hp} (h : H' dd = HL dd) : RS H' (U H') := rs_swap (o := o) (kvs := kvs) (.inr (h.trans L.lk)) (by rw [L.un _ h]; exact L.rd) (L.uo H')
theorem Lk.mk1 (h : H dd = some (.dK kvs)) : Lk dd o kvs H (upd H dd (.frz o (.dK kvs))) fun H' => upd H' dd (.dK kvs) :=
  ⟨upd_same, fun b n => upd_ne n, fun _ _ => by rw [upd_same, h], fun H' b n => upd_ne n, .inl h⟩
theorem Lk.mk2 (h : H dd = some (.frz o (.dK kvs))) : Lk dd o kvs H H id := ⟨h, fun _ _ => rfl, fun _ z => z, fun _ _ _ => rfl, .inr h⟩
/-- what is laid after the start of the walk stays when d is put back -/
theorem Lk.same (L : Lk dd o kvs H HL U) {H' : Hp} (s : Same HL H') : Same H (U H') := fun b u e => by
  have hd : H' dd = HL dd := by rw [s _ _ L.lk, L.lk]
  by_cases q : b = dd
  · subst q
    rw [L.un _ hd]; exact e
  · rw [L.uo _ _ q]
    exact s _ _ (by rw [L.ot _ q]; exact e)
theorem Lk.none (L : Lk dd o kvs H HL U) {p : Addr} (h : HL p = none) : H p = none ∧ p ≠ dd := by
  have ne : p ≠ dd := fun z => by subst z; rw [L.lk] at h; cases h
  exact ⟨by rw [← L.ot p ne]; exact h, ne⟩
end
theorem s_lock {st : Stmt} {dd : Addr} {kvs : List (Key × V)} (h : Rd H dd (.dK kvs)) (k : ∀ o HL U, Lk dd o kvs H HL U → WS X st (lkZ Z dd (some (.frz o (.dK kvs))) U) σ HL) : WS X st Z σ H := by
  rcases h with h | ⟨o, h⟩
  · refine ⟨_, ps_lock ps_W, dd, .dK kvs, h, trivial, fun od => ?_⟩
    exact k od _ _ (Lk.mk1 h)
  · exact (k o H id (Lk.mk2 h)).mono ⟨fun _ _ z => z.2, fun _ _ z => z.2, fun _ _ z => z.2, fun _ _ z => z.2⟩
theorem we_lock {Q : VK} {dd : Addr} {kvs : List (Key × V)} (h : Rd H dd (.dK kvs)) (k : ∀ o HL U, Lk dd o kvs H HL U → WE X e σ HL fun v H' => H' dd = some (.frz o (.dK kvs)) ∧ Q v (U H')) : WE X e σ H Q := by
  rcases h with h | ⟨o, h⟩
  · refine .of (pe_lock pe_W) ⟨dd, .dK kvs, h, trivial, fun od => ?_⟩
    exact k od _ _ (Lk.mk1 h)
  · exact (k o H id (Lk.mk2 h)).mono fun _ _ z => z.2
/-- a new list, made while a dict is walked -/
theorem el_lock {dd : Addr} {kvs : List (Key × V)} (h : Rd H dd (.dK kvs)) (k : ∀ o HL U, Lk dd o kvs H HL U → EvL X e σ HL ds) : EvL X e σ H ds := fun H1 s Q q =>
  we_lock (Same.rd s h) fun o HL U L => by
    have h0 : Rd H dd (.dK kvs) := h
    -- H with d as it stands in HL
    have s' : ∃ H0 U0, Lk dd o kvs H H0 U0 ∧ Same H0 HL := by
      rcases h0 with h0 | ⟨o', h0⟩
      · refine ⟨_, _, Lk.mk1 h0, fun b u z => ?_⟩
        by_cases qq : b = dd
        · subst qq
          rw [upd_same] at z
          rw [L.lk]; exact z
        · rw [upd_ne qq] at z
          rw [L.ot b qq]
          exact s _ _ z
      · have : o' = o := by
          have z := s _ _ h0
          rcases L.rd with r | r <;> rw [r] at z
          · cases z
          · injection Option.some.inj z with z1; exact z1.symm
        subst this
        refine ⟨_, _, Lk.mk2 h0, fun b u z => ?_⟩
        by_cases qq : b = dd
        · subst qq
          rw [L.lk, ← h0]; exact z
        · rw [L.ot b qq]
          exact s _ _ z
    obtain ⟨H0, U0, L0, sl⟩ := s'
    refine k o H0 U0 L0 HL sl _ fun p xs H2 hp s2 h2 hx => ⟨(s2 _ _ L.lk), ?_⟩
    have hd : H2 dd = HL dd := by rw [s2 _ _ L.lk, L.lk]
    obtain ⟨n1, n2⟩ := L.none hp
    exact q p xs (U H2) n1 (L.same s2) (by rw [L.uo _ _ n2]; exact h2) (hx.rs (L.back hd))
/-! ### walks over a locked dict -/
theorem KvI.at_ {K : PySem.W.Frag} {kvs : List (Key × V)} {i : Nat} {k : Key} {v : V} (h : KvI K H kvs l) : kvs[i]? = some (k, v) → ∃ n d, l[i]? = some (n, d) ∧ k = nk n ∧ Im K H v d := by
  induction h generalizing i with
  | nil => intro e; simp at e
  | cons h t ih =>
    intro e
    cases i with
    | zero =>
      simp only [List.getElem?_cons_zero, Option.some.injEq, Prod.mk.injEq] at e
      obtain ⟨rfl, rfl⟩ := e
      exact ⟨_, _, rfl, rfl, h⟩
    | succ i => exact ih (by simpa using e)
/-- for k in d -/
theorem wk_keys {tg : Expr} {dd : Addr} {o : Obj} {kvs : List (Key × V)} (h : EvV X e σ H (.ref dd)) (hf : H dd = some (.frz o (.dK kvs))) (hk : KvI X.K H kvs l) : Wk X tg e σ H (l.map fun p => D.int (p.1 : Nat)) (fun H1 H2 => ∀ u, H1 dd = some u → H2 dd = some u) := fun H1 s R r =>
  ⟨_, pi_keys pe_W, h H1 s _ fun H2 s2 => by
    have hf2 := (s.trans s2) _ _ hf
    refine ⟨dd, o, rfl, .inl ⟨kvs, hf2, r _ H2 (fun H' => ∀ u, H2 dd = some u → H' dd = some u) s2 ⟨fun i H' hi t => ?_, fun H' t => ?_, fun i H' x H3 hi t y => ?_⟩ fun H' n => n⟩⟩
    · refine ⟨t _ hf2, ?_⟩
      rw [hk.len]; simpa using hi
    · refine ⟨t _ hf2, ?_⟩
      rw [hk.len]; simp
    · obtain ⟨rfl, k, v, hkv, rfl⟩ := y
      obtain ⟨n, d, hn, rfl, _⟩ := (hk.ex (s.trans s2)).at_ hkv
      exact ⟨Same.refl _, .int (n : Nat), by rw [List.getElem?_map, hn]; rfl, .int _⟩⟩
/-- for k, x in d.items() -/
theorem wk_items {dd : Addr} {o : Obj} {kvs : List (Key × V)} {elts : List Expr} {kk : Nat} {tpos : Pos} (h : EvV X e σ H (.ref dd)) (hf : H dd = some (.frz o (.dK kvs))) (hk : KvI X.K H kvs l) (hpl : ∀ p ∈ l, p.2.pl = true)
    (hbase : attributeBase e "items" X.env (eval e X.env) = eval e X.env := by rfl) (hline : (apos.endLine == cpos.line) = true := by rfl) :
    Wk X (.Tuple elts kk tpos) (.Call (.Attribute e "items" apos) [] [] cpos) σ H (l.map fun p => D.tup [D.int (p.1 : Nat), p.2]) (fun H1 H2 => (∀ u, H1 dd = some u → H2 dd = some u) ∧ Tx X.K H1 H2) := fun H1 s R r =>
  ⟨_, pi_items pe_W hbase hline, h H1 s _ fun H2 s2 => by
    have hf2 := (s.trans s2) _ _ hf
    have hk2 := hk.ex (s.trans s2)
    refine ⟨dd, o, kvs, rfl, hf2, r _ H2 (fun H' => (∀ u, H2 dd = some u → H' dd = some u) ∧ Tx X.K H2 H') s2 ⟨fun i H' hi t => ?_, fun H' t => ?_, fun i H' x H3 hi t y => ?_⟩ fun H' n => n⟩
    · refine ⟨t.1 _ hf2, ?_⟩
      rw [hk.len]; simpa using hi
    · refine ⟨t.1 _ hf2, ?_⟩
      rw [hk.len]; simp
    · obtain ⟨T, k, v, hkv, rfl, hT, rfl⟩ := y
      obtain ⟨n, d, hn, rfl, hv⟩ := hk2.at_ hkv
      refine ⟨Same.new hT, .tup [.int (n : Nat), d], by rw [List.getElem?_map, hn]; rfl, .tup (.of upd_same) (.cons (.int _) (.cons ?_ .nil))⟩
      exact (hv.up t.2 (hpl _ (List.mem_of_getElem? hn))).ex (Same.new hT)⟩
end
end Dr
set_option Elab.async false
set_option linter.all false
set_option maxRecDepth 100000
set_option maxHeartbeats 4000000
set_option pp.deepTerms false
set_option pp.maxSteps 400
namespace Dr
open PySem PySem.Spec PyProof.Rows L2
/-! ### enumerate(..): one rule for whatever is counted -/
abbrev enObj (it : Value) : Obj := { cls := .type "enumerate", data := .fields #[.none, .bool false, it, rawInt 0, .none, .none] }
/-- how v begins to be walked: f is what that makes of the heap, r the iterator that comes -/
def Bgn (v : Value) (ok : Heap → Prop) (f : Heap → Heap) (r : Heap → Value) : Prop :=
  ∀ (prog : Program) (w : World) (A : Around) (E : Value → Shared → Prop) (s : Shared) (Q : Value → Shared → Prop), ok s.heap → Q (r s.heap) { s with heap := f s.heap } → wpAny (model prog w) A (pyIter v) Q E s
theorem meets_en {v : Value} {ok : Heap → Prop} {f : Heap → Heap} {r : Heap → Value} (B : Bgn v ok f r) :
    Meets (Builtin.«enumerate.__new__» ⟨[.type "enumerate", v], []⟩) fun _ R s => ok s.heap ∧ R (.ok (.ret (.ref (f s.heap).objs.size))) { s with heap := (f s.heap).push (enObj (r s.heap)) } := by
  refine .of_wp ?_
  rintro prog w A R ⟨hp, gs, dr, tk, os⟩ ⟨ready, last⟩
  have known := sub_enumerate
  have start : ∀ {A' : Around} {E Q : Value → Shared → Prop}, Q (r hp) ⟨f hp, gs, dr, tk, os⟩ → wpAny (model prog w) A' (pyIter v) Q E ⟨hp, gs, dr, tk, os⟩ := fun {A' E Q} => B prog w A' E ⟨hp, gs, dr, tk, os⟩ Q ready
  wp_walk using start
  refine wpAny_stack_any fun fr => wpAny_pure ?_
  split
  · rename_i cl _ _ _ _ _
    rcases (cl == Value.type "enumerate") with _ | _ <;> (wp_walk using start; exact ⟨_, rfl, last⟩)
  · wp_walk using start
    exact ⟨_, rfl, last⟩
section
variable {prog : Program} {w : World} {A : Around} {E : Value → Shared → Prop} {s : Shared}
theorem en_call {v : Value} {ok : Heap → Prop} {f : Heap → Heap} {r : Heap → Value} {it : Addr} {Q : Value → Shared → Prop} (B : Bgn v ok f r) (ready : ok s.heap) (hr : r s.heap = .ref it)
    (k : ∀ h', IsEnum h' (f s.heap).objs.size it 0 .none → (∀ b o, (f s.heap).get? b = some o → h'.get? b = some o) → Q (.ref (f s.heap).objs.size) { s with heap := h' }) :
    wpAny (model prog w) A (call (.type "enumerate") [v]) Q E s := by
  have made : IsEnum ((f s.heap).push (enObj (r s.heap))) (f s.heap).objs.size it 0 .none := by rw [hr]; exact Heap.get?_push_size _ rfl
  exact callType_new F.called_enumerate (by decide) (F.typeCall_enumerate_1 _) (F.newCall_enumerate_1 _) (fun _ => F.args_object_init_2 _ _) F.entry_enumerate_new (meets_en B)
    ⟨ready, ⟨_, made, rfl⟩, k _ made fun _ _ => Heap.get?_push_of_some _⟩
/-- a turn of enumerate, told by a turn of what it counts -/
theorem en_next {e it : Addr} {i : Nat} {old : Value} {R Q : Value → Shared → Prop} (a : IsEnum s.heap e it i old) (inner : wpAny (model prog w) A (Builtin.SmallTypes.nextOf (.ref it)) R E s)
    (k : ∀ x s1, R x s1 → IsEnum s1.heap e it i old ∧ ∀ h', IsEnumOut h' e it ((i : Int) + 1) x s1.heap.objs.size → IsPair h' s1.heap.objs.size (.int i s1.toks) x →
      (∀ b o, b ≠ e → s1.heap.get? b = some o → h'.get? b = some o) → Q (.ref s1.heap.objs.size) { s1 with heap := h', toks := s1.toks + 1 }) :
    wpAny (model prog w) A (Builtin.«enumerate.__next__» ⟨[.ref e], []⟩) (fun fin s' => ∃ v, fin = .done (.ret v) ∧ Q v s') E s := by
  refine wpAny_bind (wpAny_of_eq (a := (Value.ref e, [])) rfl (wpAny_bind (wpAny_field a rfl rfl (wpAny_bind (wpAny_mono inner (fun x s1 hx => ?_) fun _ _ q => q)))))
  obtain ⟨a0, k⟩ := k x s1 hx
  clear a inner hx
  refine wpAny_bind (wpAny_field a0 rfl (x := rawInt i) rfl (wpAny_bind (wpAny_field a0 rfl (x := .none) rfl (wpAny_bind (wpAny_mkInt ?_)))))
  -- the count goes on
  refine wpAny_bind (wpAny_setField_rec a0 (by simp) fun h1 a1 b1 => wpAny_bind (wpAny_setField_rec a1 (by simp) fun h2 a2 b2 => wpAny_bind (wpAny_newTuple ?_)))
  replace a2 : IsEnum h2 e it ((i : Int) + 1) old := a2
  have sz : h2.objs.size = s1.heap.objs.size := b2.1.trans b1.1
  have lt : e < h2.objs.size := Heap.lt_size a2
  have a3 : IsEnum (h2.push { cls := .type "tuple", data := .seq #[.int i s1.toks, x] }) e it ((i : Int) + 1) old := Heap.get?_push_of_some _ a2
  -- its tuple is its own: it goes out
  refine wpAny_bind (wpAny_bind (wpAny_field a3 rfl (x := .none) rfl (wpAny_pure (wpAny_bind (wpAny_rule (wpAny_bind (wpAny_field a3 rfl (x := old) rfl (wpAny_bind (wpAny_setField_rec a3 (by simp) fun h4 a4 b4 => ?_)))))))))
  replace a4 : IsEnum h4 e it ((i : Int) + 1) x := a4
  refine wpAny_bind (wpAny_bind (wpAny_setField_rec a4 (by simp) fun h5 a5 b5 => wpAny_setField_rec a5 (by simp) fun h6 a6 b6 => wpAny_bind (wpAny_letGo (wpAny_pure ⟨_, rfl, ?_⟩))))
  have up : ∀ b o, b ≠ e → (h2.push { cls := .type "tuple", data := .seq #[.int i s1.toks, x] }).get? b = some o → h6.get? b = some o := fun b o n q => b6.extBut b o n (b5.extBut b o n (b4.extBut b o n q))
  have q := k h6 (sz ▸ a6) (sz ▸ up _ _ (Nat.ne_of_gt lt) (Heap.get?_push_size _ rfl)) fun b o n q => up b o n (Heap.get?_push_of_some _ (b2.extBut b o n (b1.extBut b o n q)))
  rw [← sz] at q
  exact q
/-- next(..) of an enumerate, and its end -/
theorem en_item {e it : Addr} {i : Nat} {old : Value} {R : Value → Shared → Prop} {Q : Option Value → Shared → Prop} (a : IsEnum s.heap e it i old) (inner : ∀ E, wpAny (model prog w) A.in1 (Builtin.SmallTypes.nextOf (.ref it)) R E s)
    (k : ∀ x s1, R x s1 → IsEnum s1.heap e it i old ∧ ∀ h', IsEnumOut h' e it ((i : Int) + 1) x s1.heap.objs.size → IsPair h' s1.heap.objs.size (.int i s1.toks) x →
      (∀ b o, b ≠ e → s1.heap.get? b = some o → h'.get? b = some o) → Q (some (.ref s1.heap.objs.size)) { s1 with heap := h', toks := s1.toks + 1 }) :
    wpAny (model prog w) A (pyNext (.ref e)) Q E s := by
  have kind : s.TypeIs (.ref e) "enumerate" := ⟨_, a, rfl⟩
  unfold pyNext
  refine wpAny_bind (wpAny_attempt (wpAny_callSpecial?_slot (name := Str.ofString "__next__") kind F.slot_enumerate_next (wpAny_call_entry F.slot_enumerate_next kind F.entry_enumerate_next ?_ (F.args_enumerate_next_1 _))))
  exact en_next a (inner _) fun x s1 r => ⟨(k x s1 r).1, fun h' q1 q2 q3 => wpAny_pure ((k x s1 r).2 h' q1 q2 q3)⟩
theorem en_over {e it : Addr} {i : Nat} {old : Value} {Z : Shared → Prop} {Q : Option Value → Shared → Prop} (a : IsEnum s.heap e it i old)
    (inner : ∀ Q E, (∀ x s1, (∃ o, s1.heap.get? x = some o ∧ o.cls = .type "StopIteration") → Z s1 → E (.ref x) s1) → wpAny (model prog w) A.in1 (Builtin.SmallTypes.nextOf (.ref it)) Q E s)
    (k : ∀ s1, Z s1 → Q none s1) : wpAny (model prog w) A (pyNext (.ref e)) Q E s := by
  have kind : s.TypeIs (.ref e) "enumerate" := ⟨_, a, rfl⟩
  unfold pyNext
  refine wpAny_bind (wpAny_attempt (wpAny_callSpecial?_slot (name := Str.ofString "__next__") kind F.slot_enumerate_next (wpAny_call_entry F.slot_enumerate_next kind F.entry_enumerate_next ?_ (F.args_enumerate_next_1 _))))
  refine wpAny_bind (wpAny_of_eq (a := (Value.ref e, [])) rfl (wpAny_bind (wpAny_field a rfl rfl (wpAny_bind (inner _ _ fun x s1 ⟨o, ho, hc⟩ z => ?_)))))
  exact wpAny_bind (wpAny_isInstance (b := true) ⟨o, ho, hc⟩ isSubtype_stop (wpAny_pure (k s1 z)))
end
/-- an iterator that another one asks: fp its objects, tn where it stands -/
structure Inn (P : Program) (w : World) (K : PySem.W.Frag) (J : It) (fp : List Addr) (it : Addr) (tn : Nat → Heap → Prop) : Prop where
  there : ∀ {i h b}, tn i h → b ∈ fp → ∃ o, h.get? b = some o ∧ ∀ v, o.data ≠ .cell v
  stays : ∀ {i h h'}, tn i h → (∀ b o, b ∈ fp → h.get? b = some o → h'.get? b = some o) → tn i h'
  item : ∀ (X : Cx), X.prog = P → X.w = w → X.K = K → X.calm = true → ∀ {i pins s σ H}, Inv X pins σ H s → (∀ b ∈ fp, FpOk X pins H b) → tn i s.heap → J.go i H → ∀ E : Value → Shared → Prop,
    wpAny (model P w) X.A.in1 (Builtin.SmallTypes.nextOf (.ref it)) (fun u s1 => ∃ x H1, Inv X pins σ H1 s1 ∧ RelV x u ∧ J.yld i H x H1 ∧ tn (i + 1) s1.heap ∧ (∀ b, b ∉ fp → ∀ o, s.heap.get? b = some o → s1.heap.get? b = some o) ∧
      ∀ b, b < s.heap.objs.size → H b = none → H1 b = none) E s
  done : ∀ (X : Cx), X.prog = P → X.w = w → X.K = K → X.calm = true → ∀ {i pins s σ H}, Inv X pins σ H s → (∀ b ∈ fp, FpOk X pins H b) → tn i s.heap → J.stop i H → ∀ Q E : Value → Shared → Prop,
    (∀ x s1, (∃ o, s1.heap.get? x = some o ∧ o.cls = .type "StopIteration") → Inv X pins σ H s1 → E (.ref x) s1) → wpAny (model P w) X.A.in1 (Builtin.SmallTypes.nextOf (.ref it)) Q E s
/-- what J yields, each with its place in a new tuple -/
def ItEn (J : It) : It :=
  ⟨J.go, fun i H v H' => ∃ T x H1, v = .ref T ∧ J.yld i H x H1 ∧ H1 T = none ∧ H' = upd H1 T (.tup [.int (i : Nat), x]), J.stop⟩
theorem turn_en {P : Program} {w : World} {K : PySem.W.Frag} {J : It} {fp : List Addr} {it e : Addr} {tn : Nat → Heap → Prop} {elts : List Expr} {kk : Nat} {tpos : Pos} (N : Inn P w K J fp it tn) (ne : e ∉ fp) :
    Turn P w K (.Tuple elts kk tpos) (ItEn J) (e :: fp) e fun i h => (∃ old, IsEnum h e it (i : Nat) old) ∧ tn i h where
  mem := List.mem_cons_self ..
  obj := fun i h ⟨⟨_, a⟩, t⟩ b m => (List.mem_cons.mp m).elim (fun q => by subst q; exact ⟨_, a, fun _ z => nomatch z⟩) (N.there t)
  keep := fun i h h' ⟨⟨old, a⟩, t⟩ k => ⟨⟨old, k e (List.mem_cons_self ..) _ a⟩, N.stays t fun b o m => k b (List.mem_cons_of_mem _ m) o⟩
  self := fun A i s Q E ⟨⟨_, a⟩, _⟩ q => wpAny_pyIter_enum a q
  item := by
    rintro X rfl rfl rfl hc i pins s σ H E I hf ⟨⟨old, a⟩, t⟩ go
    have ff : ∀ b ∈ fp, FpOk X pins H b := fun b m => hf b (List.mem_cons_of_mem _ m)
    have fe := hf e (List.mem_cons_self ..)
    refine en_item a (N.item X rfl rfl rfl hc I ff t go) ?_
    rintro u s1 ⟨x, H1, I1, ru, y, t1, kept, free⟩
    have le : e < s.heap.objs.size := Heap.lt_size a
    have a1 := kept e ne _ a
    have le1 : e < s1.heap.objs.size := Heap.lt_size a1
    refine ⟨a1, fun h' out tup old' => ⟨_, rfl, wpAny_letOwnedTupleGo_enum (s := { s1 with heap := h', toks := s1.toks + 1 }) out fun h'' a2 b2 => ?_⟩⟩
    have up : ∀ b o, b ≠ e → s1.heap.get? b = some o → h''.get? b = some o := fun b o n q => b2.extBut b o n (old' b o n q)
    have new : ObjOk X.prog X.w (upd H1 s1.heap.objs.size (.tup [.int (i : Nat), x])) h'' s1.heap.objs.size (.tup [.int (i : Nat), x]) :=
      ⟨(by decide : 2 ≤ sizeLine), _, .cons ⟨_, rfl⟩ (.cons ru .nil), _, b2.extBut _ _ (Nat.ne_of_gt le1) tup, rfl, _, rfl⟩
    have I2 := I1.turnedNew (h' := h'') (t' := s1.toks + 1) (ch := [e]) (fun b o n => up b o fun q => n (q ▸ List.mem_singleton_self _)) (fun b m => by
      rw [List.mem_singleton.mp m]; exact ⟨free e le fe.1, fe.2⟩) (Nat.le_refl _) new
    have far : ∀ b ∈ fp, b ≠ e := fun b m q => ne (q ▸ m)
    refine ⟨.ref s1.heap.objs.size, _, I2, rfl, ⟨_, x, H1, rfl, y, I1.hok.fresh (Nat.le_refl _), rfl⟩, ⟨⟨u, ?_⟩, N.stays t1 fun b o m => up b o (far b m)⟩, fun b m => ?_⟩
    · rw [show ((i + 1 : Nat) : Int) = (i : Int) + 1 from by omega]; exact a2
    · rcases List.mem_cons.mp m with q | m
      · rw [q, upd_ne (Nat.ne_of_lt le1)]; exact free e le fe.1
      · obtain ⟨_, q, _⟩ := N.there t m
        obtain ⟨_, q1, _⟩ := N.there t1 m
        rw [upd_ne (Nat.ne_of_lt (Heap.lt_size q1))]; exact free b (Heap.lt_size q) (ff b m).1
  done := by
    rintro X rfl rfl rfl hc i pins s σ H E I hf ⟨⟨old, a⟩, t⟩ stop
    exact en_over a (N.done X rfl rfl rfl hc I (fun b m => hf b (List.mem_cons_of_mem _ m)) t stop) fun s1 I1 => ⟨rfl, I1⟩
/-! ### .. a tuple -/
/-- the items of the tuple at a -/
def ItT (K : PySem.W.Frag) (a : Addr) : It :=
  ⟨fun i H => ∃ xs : List V, SqT K H a xs ∧ i < xs.length, fun i H v H' => H' = H ∧ ∀ xs : List V, SqT K H a xs → xs[i]? = some v, fun i H => ∃ xs : List V, SqT K H a xs ∧ xs.length = i⟩
theorem inn_tuple {P : Program} {w : World} {K : PySem.W.Frag} {a it : Addr} (ne : a ≠ it) : Inn P w K (ItT K a) [it] it fun i h => h.IsTupleIter it a i where
  there := fun ⟨o, ho, _, hd⟩ m => ⟨o, List.mem_singleton.mp m ▸ ho, fun v q => by rw [hd] at q; cases q⟩
  stays := fun t k => t.at fun o => k it o (List.mem_singleton_self _)
  item := by
    rintro X rfl rfl rfl hc i pins s σ H I hf t ⟨xs, sq, lt⟩ E
    obtain ⟨its, rv, at', _⟩ := I.tuple sq
    obtain ⟨u, hu, ru⟩ := rv.get (List.getElem?_eq_getElem lt)
    refine wpAny_nextOf_tuple_item t at' (x := u) (by simpa using hu) fun h' t' b => ⟨xs[i], H, ?_, ru, ⟨rfl, fun ys sy => ?_⟩, t', fun c n o => b.extBut c o fun q => n (q ▸ List.mem_singleton_self _), fun _ _ q => q⟩
    · exact I.turnedL (t' := s.toks) (fun c o n => b.extBut c o fun q => n (q ▸ List.mem_singleton_self _)) hf
    · rw [I.tuple_inj sy sq]; exact List.getElem?_eq_getElem lt
  done := by
    rintro X rfl rfl rfl hc i pins s σ H I hf t ⟨xs, sq, rfl⟩ Q E k
    obtain ⟨its, rv, at', _⟩ := I.tuple sq
    refine wpAny_nextOf_tuple_end (I.ok.hd hc) t at' (by simp [rv.length]) fun h' x ex stop => k x _ stop (I.turnedL (t' := s.toks) (fun c o n => ex c o fun q => n (q ▸ List.mem_singleton_self _)) hf)
/-- the iterator of an enumerate whose inner one stands in h -/
theorem pie_en {X : Cx} {pins : List (Addr × Obj)} {σ : L2.St} {R : It → Hp → Prop} {H1 : Hp} {s1 : Shared} {J : It} {fp : List Addr} {it : Addr} {tn : Nat → Heap → Prop} {elts : List Expr} {kk : Nat} {tpos : Pos} {h h' : Heap}
    (I : Inv X pins σ H1 s1) (old : ∀ b o, s1.heap.get? b = some o → h.get? b = some o) (sz : s1.heap.objs.size ≤ h.objs.size) (N : Inn X.prog X.w X.K J fp it tn) (t : tn 0 h) (ff : ∀ b ∈ fp, s1.heap.objs.size ≤ b ∧ b < h.objs.size)
    (a : IsEnum h' h.objs.size it 0 .none) (old' : ∀ b o, h.get? b = some o → h'.get? b = some o) (r : R (ItEn J) H1) : PIE X pins σ (.Tuple elts kk tpos) R (.ref h.objs.size) { s1 with heap := h' } := by
  refine ⟨_, _, _, _, H1, rfl, I.kept (t' := s1.toks) fun b o q => old' b o (old b o q), turn_en N fun m => Nat.lt_irrefl _ (ff _ m).2, ⟨⟨_, a⟩, N.stays t fun b o _ => old' b o⟩, fun b m => ?_, r⟩
  have hb : s1.heap.objs.size ≤ b := (List.mem_cons.mp m).elim (fun q => q ▸ sz) fun m => (ff b m).1
  exact I.fpOk hb (I.hok.fresh hb)
def iEnumT (K : PySem.W.Frag) (ta : TA) : TI := fun σ H R => ta σ H fun vs H1 => ∃ a xs, vs = [.ref a] ∧ SqT K H1 a xs ∧ R (ItEn (ItT K a)) H1
theorem pi_enumT {X : Cx} {e : Expr} {ta : TA} {p pos tpos : Pos} {elts : List Expr} {kk : Nat} (hg : Gl X "enumerate") (hm : X.mg "enumerate" = none) (ha : PA X [e] ta) (hs : starEach [e] X.env = [(false, eval e X.env)] := by rfl) :
    PI X (.Tuple elts kk tpos) (.Call (.Name "enumerate" p) [e] [] pos) (iEnumT X.K ta) where
  run pins s σ H R I h := Call_ (ld_blt I hg hm boot_enumerate (PyProof.Rows.callWith_type1 (thn (ha.run pos pins s σ H _ I h) fun us s1 ⟨vs, H1, I1, rs, a, xs, ev, sq, r⟩ => by
    subst ev
    obtain ⟨u, rfl, ru⟩ := vals1 rs
    obtain rfl : u = Value.ref a := ru
    obtain ⟨its, _, at', _⟩ := I1.tuple sq
    have lt : a < s1.heap.objs.size := let ⟨_, q, _⟩ := at'; Heap.lt_size q
    have B : Bgn (.ref a) (fun h => h.IsTuple a its.toArray) (fun h => h.push { cls := .type "tuple_iterator", data := .fields #[.ref a, .int 0 0] }) fun h => .ref h.objs.size :=
      fun prog w A E s Q ok q => (begins_tuple a its.toArray).iter prog w A E s Q ok q
    have sz := Heap.size_push s1.heap { cls := .type "tuple_iterator", data := .fields #[.ref a, .int 0 0] }
    exact en_call B at' rfl fun h' en old => wpAny_pyIter_enum en (pie_en I1 (fun b o => Heap.get?_push_of_some _) (by rw [sz]; exact Nat.le_succ _) (inn_tuple (Nat.ne_of_lt lt)) ⟨_, Heap.get?_push_size _ rfl, rfl, rfl⟩
      (fun b m => by rw [List.mem_singleton.mp m, sz]; exact ⟨Nat.le_refl _, Nat.lt_succ_self _⟩) en old r)) hs rfl))
section
variable {X : Cx} {σ : L2.St} {H H' : Hp} {e : Expr} {ds : List D} {p pos tpos : Pos}
/-- pairs of place and item -/
def enD (ds : List D) : List D := ds.zipIdx.map fun q => D.tup [D.int (q.2 : Nat), q.1]
theorem enD_get (i : Nat) : (enD ds)[i]? = ds[i]?.map fun d => D.tup [.int (i : Nat), d] := by
  unfold enD
  rw [List.getElem?_map, List.getElem?_zipIdx, Option.map_map, Nat.zero_add]
  rfl
theorem enD_at {i : Nat} {d : D} (h : (enD ds)[i]? = some d) : ∃ x, ds[i]? = some x ∧ d = .tup [.int (i : Nat), x] := by
  rw [enD_get] at h
  obtain ⟨x, q, e⟩ := Option.map_eq_some_iff.mp h
  exact ⟨x, q, e.symm⟩
theorem enD_len : (enD ds).length = ds.length := by simp [enD]
theorem wk_enumT {elts : List Expr} {kk : Nat} (hm : X.mg "enumerate" = none) (h : Ev X e σ H (.tup ds)) (hpl : D.pls ds = true) (hg : Gl X "enumerate" := by rfl) (hs : starEach [e] X.env = [(false, eval e X.env)] := by rfl) :
    Wk X (.Tuple elts kk tpos) (.Call (.Name "enumerate" p) [e] [] pos) σ H (enD ds) (Tx X.K) := fun H1 s R r => by
  refine ⟨_, pi_enumT hg hm pa_W hs, wa_cons (h H1 s _ fun v H2 s2 hv => wa_nil ?_) hs⟩
  obtain ⟨a, xs, rfl, sq, im⟩ := hv.tupI
  have len : (enD ds).length = xs.length := enD_len.trans im.len.symm
  refine ⟨a, xs, rfl, sq, r _ H2 (Tx X.K H2) s2 ⟨fun i H' hi t => ⟨xs, t.sq _ _ sq, len ▸ hi⟩, fun H' t => ⟨xs, t.sq _ _ sq, len.symm⟩, ?_⟩ fun _ q => q⟩
  rintro i H' v H3 hi t ⟨T, x, _, rfl, ⟨rfl, y⟩, hT, rfl⟩
  obtain ⟨d, hd, hx⟩ := im.atV (y xs (t.sq _ _ sq))
  have pl := pls_mem hpl d (List.mem_of_getElem? hd)
  exact ⟨Same.new hT, .tup [.int (i : Nat), d], by rw [enD_get, hd]; rfl, .tup (.of upd_same) (.cons (.int _) (.cons ((hx.up t pl).ex (Same.new hT)) .nil))⟩
end
end Dr
set_option Elab.async false
set_option linter.all false
set_option maxRecDepth 100000
set_option maxHeartbeats 4000000
namespace Dr
open PySem PySem.Spec PyProof.Rows L2
/-! ### list(d), list(d.values()), d.update(e), sorted(l) -/
/-- a new list of what a view gives -/
theorem list_of {X : Cx} {pins : List (Addr × Obj)} {σ : L2.St} {H : Hp} {s : Shared} {T : String} {r d : Addr} {n : Nat} {P : Nat → Value → Prop} {OK : Heap → Prop} {E : Value → Shared → Prop} {Q : V → Hp → Prop} {xs : List V} (S : PySem.W.KdlSrc X.prog X.w T r d n P OK) (hd : X.A.handled = none) (I : Inv X pins σ H s) (ok : OK s.heap)
    (few : n ≤ sizeLine) (len : xs.length = n) (rel : ∀ j x u, xs[j]? = some x → P j u → RelV x u) (q : ∀ a, H a = none → Q (.ref a) (upd H a (.lst xs))) : wpAny (model X.prog X.w) X.A (call (.type "list") [.ref r]) (EP X pins σ Q) E s :=
  PySem.W.kdl_call S hd ok few fun h' tk acc c old at' items =>
    have vals : Vals xs acc.toList := vals_of_at (by rw [len, Array.length_toList, items.1]) fun j x u hx hu => rel j x u hx (items.2 j u (by rw [← Array.getElem?_toList]; exact hu))
    have laid : Inv X pins σ (upd H s.heap.objs.size (.lst xs)) { s with heap := h', toks := tk } := I.laid old (Nat.le_refl _) ⟨by rw [len]; exact few, acc.toList, c, vals, by rw [Array.toArray_toList]; exact at'⟩
    ⟨.ref s.heap.objs.size, _, laid, rfl, q _ (I.hok.fresh (Nat.le_refl _))⟩
def tListVals (te : TE) : TE := fun σ H Q => te σ H fun x H1 => ∃ d kvs, x = .ref d ∧ Rd H1 d (.dK kvs) ∧ ∀ q, H1 q = none → Q (.ref q) (upd H1 q (.lst (kvs.map (·.2))))
theorem pe_listVals {X : Cx} {e : Expr} {te : TE} {p apos cpos pos : Pos} (hc : X.calm = true) (he : PE X e te) (hg : Gl X "list") (hm : X.mg "list" = none) (hv : bootBuiltins "list" = some (.type "list")) (hbase : attributeBase e "values" X.env (eval e X.env) = eval e X.env := by rfl) (hline : (apos.endLine == cpos.line) = true := by rfl)
    (hs : starEach [.Call (.Attribute e "values" apos) [] [] cpos] X.env = (false, eval (.Call (.Attribute e "values" apos) [] [] cpos) X.env) :: starEach [] X.env := by rfl) :
    PE X (.Call (.Name "list" p) [.Call (.Attribute e "values" apos) [] [] cpos] [] pos) (tListVals te) := by
  constructor
  intro pins s σ H Q I h
  refine wpAny_Call_Name_kw (ld_blt I hg hm hv (PyProof.Rows.callWith_type1 ?_ hs rfl))
  rw [hs]
  refine Calls.spliced_cons (wpAny_Call_method (T := "dict") (id := "dict.values") hbase rfl hline F.plainAttrs_dict F.slot_dict_values F.type_dict_values (thn (he.run pins s σ H _ I h) ?_))
  rintro u s1 ⟨x, H1, I1, ru, d, kvs, rfl, hd, q⟩
  obtain rfl : u = Value.ref d := ru
  obtain ⟨few, low, vs, kv, of⟩ := dk_rd I1.hok hd
  obtain ⟨ep, dat⟩ := of.dictAt
  have view : Heap.IsValuesView (s1.heap.push { cls := .type "dict_values", data := .fields #[.ref d] }) s1.heap.objs.size d := ⟨_, Heap.get?_push_size _ rfl, rfl, rfl⟩
  have I2 := I1.kept (h' := s1.heap.push { cls := .type "dict_values", data := .fields #[.ref d] }) (t' := s1.toks) fun _ _ => Heap.get?_push_of_some _
  have made := list_of (E := X.xe) (Q := Q) (PySem.W.kdl_values (knd := mixKind X.prog X.w) (kvs := vs) (ep := ep)) (I1.ok.hd hc) I2 ⟨view, dat.push _⟩ (kv.length ▸ few) (by rw [List.length_map, kv.length]) (fun j x u hx hu => ?_) q
  · exact ⟨of.typeIs, of.mapOf.noDict, method_meetsIn F.slot_dict_values F.entry_dict_values rfl (PySem.evalArgs_none ⟨rfl, of.typeIs, F.args_dict_values_1 _, _, meets_dict_values (mixKind X.prog X.w) d low, ⟨vs, of⟩, Calls.spliced_nil made⟩)⟩
  · obtain ⟨k, hk⟩ := hu
    rw [List.getElem?_map] at hx
    obtain ⟨p, hp, rfl⟩ := Option.map_eq_some_iff.mp hx
    obtain ⟨u', hu', r'⟩ := kv_get kv (k := p.1) (v := p.2) hp
    obtain ⟨_, rfl⟩ := Prod.mk.inj (Option.some.inj (hk.symm.trans hu'))
    exact r'
/-- d.update(e) -/
def rUpd : V → List V → Hp → VK → Prop := fun x vs H Q => ∃ a b kvs more, x = .ref a ∧ vs = [.ref b] ∧ H a = some (.dK kvs) ∧ Rd H b (.dK more) ∧ a ≠ b ∧ kvs.length + more.length ≤ sizeLine ∧ Q .non (upd H a (.dK (mergeK kvs more)))
theorem mt_upd {X : Cx} : MtR X "dict.update" rUpd := by
  intro pins s σ H x xs v us Q I rx rs h
  obtain ⟨a, b, kvs, more, rfl, rfl, ha, hb, hne, hz, q⟩ := h
  obtain rfl : v = Value.ref a := rx
  obtain ⟨u, eu, rx⟩ := vals1 rs
  subst eu
  obtain rfl : u = Value.ref b := rx
  obtain ⟨z1, lo1, vs1, rk1, hd1⟩ := dk_of I.hok ha
  obtain ⟨z2, lo2, vs2, rk2, hd2⟩ := (show ObjOk X.prog X.w H s.heap b (.dK more) from hb.ok I.hok)
  have l1 : kvs.length = vs1.length := Paired.length rk1
  have l2 : more.length = vs2.length := Paired.length rk2
  refine call_meetsIn PySem.F.slot_dict_update hd1.typeIs PySem.F.entry_dict_update (PySem.F.args_dict_update_2 _ _) (meets_dict_update (mixKind X.prog X.w) a b hne lo2)
    ⟨vs1, vs2, hd1, hd2, by rw [← l1, ← l2]; exact hz, fun h' hmm _ hs => ?_⟩
  have he : ∃ q, h'.get? a = some q := let ⟨q, _, _, hq, _⟩ := hmm; ⟨q, hq⟩
  have hl : (mergeK kvs more).length ≤ sizeLine := Nat.le_trans (length_mergeK more kvs) hz
  exact ⟨.non, _, d_write (t' := s.toks) I (by rw [ha]; exact True.intro) hs he (dk_new hl lo1 (KV.merge rk2 rk1) hmm), rfl, q⟩
/-! the tables of both -/
def mg {α : Type} (l l2 : List (Nat × α)) : List (Nat × α) := l2.foldl (fun acc p => pt acc p.1 p.2) l
section
variable {K : PySem.W.Frag} {H H1 : Hp}
theorem KvI.keys {kvs : List (Key × V)} {l : List (Nat × D)} (h : KvI K H kvs l) (H' : Hp) : Ims K H' (kvs.map fun kv => kV kv.1) (l.map fun q => D.int (q.1 : Nat)) := by
  induction h with
  | nil => exact .nil
  | cons h t ih => exact .cons (.int _) ih
theorem KvI.mem {kvs : List (Key × V)} {l : List (Nat × D)} (h : KvI K H kvs l) : ∀ p ∈ kvs, ∃ n, p.1 = nk n := by
  induction h with
  | nil => intro p m; cases m
  | cons h t ih =>
    intro p m
    rcases List.mem_cons.mp m with rfl | m
    · exact ⟨_, rfl⟩
    · exact ih p m
theorem KvI.merge : ∀ {more : List (Key × V)} {l2 : List (Nat × D)} {kvs : List (Key × V)} {l : List (Nat × D)}, KvI K H more l2 → KvI K H kvs l → KvI K H (mergeK kvs more) (mg l l2) := by
  intro more l2 kvs l h
  induction h generalizing kvs l with
  | nil => intro q; exact q
  | @cons v d r l' k h t ih => intro q; exact ih (q.put k h)
end
section
variable {α β : Type}
theorem mv_mg (f : α → β) : ∀ (l2 l : List (Nat × α)), mv f (mg l l2) = mg (mv f l) (mv f l2)
  | [], l => rfl
  | p :: r, l => by
    show mv f (mg (pt l p.1 p.2) r) = mg (pt (mv f l) p.1 (f p.2)) (mv f r)
    rw [mv_mg f r, mv_pt]
theorem pt_hs (l : List (Nat × α)) (k : Nat) (v : α) (j : Nat) : hs (pt l k v) j = (hs l j || decide (k = j)) := by
  unfold pt
  split
  · rename_i h
    have e : hs (l.map fun p => if p.1 = k then (p.1, v) else p) j = hs l j := by
      unfold hs
      rw [List.any_map]
      congr 1
      funext p
      by_cases q : p.1 = k <;> simp [q]
    rw [e]
    by_cases q : k = j
    · subst q; rw [h]; simp
    · simp [q]
  · unfold hs
    simp [List.any_append]
theorem mg_new : ∀ (l2 l : List (Nat × α)), (l2.map (·.1)).Nodup → (∀ p ∈ l2, hs l p.1 = false) → mg l l2 = l ++ l2
  | [], l, _, _ => by simp [mg]
  | p :: r, l, nd, h => by
    rw [List.map_cons, List.nodup_cons] at nd
    show mg (pt l p.1 p.2) r = _
    rw [pt_new (h p (List.mem_cons_self ..)), mg_new r _ nd.2 fun q hq => ?_]
    · simp
    · have ne : p.1 ≠ q.1 := fun e => nd.1 (by rw [e]; exact List.mem_map_of_mem hq)
      have := h q (List.mem_cons_of_mem _ hq)
      unfold hs at this ⊢
      rw [List.any_append, this]
      simp [ne]
theorem mg_len (l l2 : List (Nat × α)) : (mg l l2).length ≤ l.length + l2.length := by
  induction l2 generalizing l with
  | nil => simp [mg]
  | cons p r ih =>
    have := ih (pt l p.1 p.2)
    have h1 : (pt l p.1 p.2).length ≤ l.length + 1 := by
      unfold pt
      split <;> simp
    show (mg (pt l p.1 p.2) r).length ≤ _
    simp only [List.length_cons]
    omega
end
section
variable {X : Cx} {σ : L2.St} {H H' : Hp} {a b c e f : Expr} {es : List Expr} {pos p p1 apos cpos : Pos} {d d1 d2 : D} {ds : List D} {l l2 : List (Nat × D)} {n k : Nat} {Z : Ends}
/-- list(d): its keys -/
theorem el_keys (hm : X.mg "list" = none) (ha : Ev X e σ H (dcD l)) (hg : Gl X "list" := by rfl) (hc : X.calm = true := by rfl) (hv : bootBuiltins "list" = some (.type "list") := by decide +kernel)
    (he : starEach [e] X.env = (false, eval e X.env) :: starEach [] X.env := by rfl) (hpl : (backTo pos (starEach [] X.env)).any (·.1) = false := by rfl) : EvL X (.Call (.Name "list" p) [e] [] pos) σ H (l.map fun q => D.int (q.1 : Nat)) :=
  fun H1 s Q q => .of (pe_callTy (call_listD hc) hg hm hv pa_W (by decide) (by decide) he hpl) (wa_cons (ha H1 s _ fun v H2 s2 hv => wa_nil (by
    obtain ⟨p, kvs, rfl, h1, h2⟩ := hv.dcI
    exact ⟨p, kvs, rfl, h1, fun r hr => q r _ _ (s2.free hr) (s2.trans (Same.new hr)) upd_same (h2.keys _)⟩)) he)
/-- list(d.values()) -/
theorem el_vals (hm : X.mg "list" = none) (ha : Ev X e σ H (dcD l)) (hg : Gl X "list" := by rfl) (hc : X.calm = true := by rfl) (hv : bootBuiltins "list" = some (.type "list") := by decide +kernel) (hbase : attributeBase e "values" X.env (eval e X.env) = eval e X.env := by rfl) (hline : (apos.endLine == cpos.line) = true := by rfl)
    (hs : starEach [.Call (.Attribute e "values" apos) [] [] cpos] X.env = (false, eval (.Call (.Attribute e "values" apos) [] [] cpos) X.env) :: starEach [] X.env := by rfl) : EvL X (.Call (.Name "list" p) [.Call (.Attribute e "values" apos) [] [] cpos] [] pos) σ H (l.map (·.2)) :=
  fun H1 s Q q => .of (pe_listVals hc pe_W hg hm hv hbase hline hs) (ha H1 s _ fun v H2 s2 hv => by
    obtain ⟨p, kvs, rfl, h1, h2⟩ := hv.dcI
    exact ⟨p, kvs, rfl, h1, fun r hr => q r _ _ (s2.free hr) (s2.trans (Same.new hr)) upd_same (h2.parts.2.ex (Same.new hr))⟩)
/-- sorted(l), ints -/
theorem wl_sortI {is : List Int} {Q : VK} (hm : X.mg "sorted" = none) (ha : EvL X e σ H (is.map D.int)) (k : ∀ (js : List Int) p H1, js.Perm is → js.Pairwise (· ≤ ·) → H p = none → Same H H1 → LsI X.K H1 p (js.map D.int) → Q (.ref p) H1) (hg : Gl X "sorted" := by rfl) (hv : bootBuiltins "sorted" = some (.builtin "sorted") := by decide +kernel)
    (he : starEach [e] X.env = (false, eval e X.env) :: starEach [] X.env := by rfl) (hpl : (backTo pos (starEach [] X.env)).any (·.1) = false := by rfl) : WE X (.Call (.Name "sorted" p) [e] [] pos) σ H Q :=
  .of (pe_callB cr_sortedI hg hm hv pa_W (by decide) (by decide) he hpl) (wa_cons (ha H (Same.refl _) _ fun p xs H2 hp s2 h1 h2 => wa_nil (by
    rw [h2.ints] at h1
    exact ⟨p, is, rfl, .of h1, fun js r hj1 hj2 hr => k js r _ hj1 hj2 (s2.free hr) (s2.trans (Same.new hr)) ⟨_, upd_same, ims_ints js⟩⟩)) he)
/-- d.update(e) -/
theorem s_upd {p q : Addr} (ha : EvV X a σ H (.ref p)) (hp : Dk X.K H p l) (hb : EvV X b σ H (.ref q)) (hq : Dk X.K H q l2) (hne : p ≠ q) (hpl : ∀ x ∈ mg l l2, x.2.pl = true) (hz : l.length + l2.length ≤ 100000)
    (h : ∀ H', Mu p H H' → Tx X.K H H' → Dk X.K H' p (mg l l2) → Z.nx σ H')
    (hbase : attributeBase a "update" X.env (eval a X.env) = eval a X.env := by rfl)
    (hfew : ((backTo cpos (starEach [b] X.env)).all (fun x => !x.1) && (backToKw cpos (keywordEach [] X.env)).all (fun x => x.1.isSome)
      && decide (([b]).length + ([] : List Keyword).length + (if ([] : List Keyword).isEmpty then 0 else 1) < 30)) = true := by rfl)
    (hline : (apos.endLine == cpos.line) = true := by rfl) (hs : starEach [b] X.env = (false, eval b X.env) :: starEach [] X.env := by rfl) (hplain : (backTo cpos (starEach [] X.env)).any (·.1) = false := by rfl)
    (hsw : swapsWith (.Call (.Attribute a "update" apos) [b] [] cpos) none pos.line X.env = pure false := by rfl) : WS X (.Expr (.Call (.Attribute a "update" apos) [b] [] cpos) pos) Z σ H :=
  ⟨_, ps_expr (pe_bm PySem.F.plainAttrs_dict PySem.F.slot_dict_update PySem.F.type_dict_update (r := rUpd) mt_upd pe_W pa_W hbase hfew hline hs hplain) hsw, ha H (Same.refl _) _ fun H1 s1 => by
    obtain ⟨kvs, h1, h2⟩ := hp.ex s1
    refine ⟨.inr (.inr (.inl ⟨rfl, .inl ⟨kvs, h1⟩⟩)), wa_cons (hb H1 s1 _ fun H2 s2 => wa_nil ?_) hs⟩
    obtain ⟨kvs, h1, h2⟩ := hp.ex (s1.trans s2)
    obtain ⟨kvs', h3, h4⟩ := hq.ex (s1.trans s2)
    refine ⟨p, q, kvs, kvs', rfl, rfl, h1, .of h3, hne, by rw [h2.len, h4.len, sizeLine_eq]; omega, h _ ?_ ((Same.tx (s1.trans s2)).trans (Tx.put h1 trivial)) ⟨_, upd_same, (h4.merge h2).up (Tx.put h1 trivial) hpl⟩⟩
    unfold Mu
    rw [rm_upd]
    exact rm_same (s1.trans s2)⟩
end
end Dr
set_option Elab.async false
set_option linter.all false
set_option maxRecDepth 100000
set_option maxHeartbeats 4000000
namespace Dr
open PySem PySem.Spec PyProof.Rows L2
section
variable {X : Cx} {σ : L2.St} {H H' : Hp} {a b c e f : Expr} {es : List Expr} {pos p p1 apos cpos spos py : Pos} {d d1 d2 : D} {ds : List D} {l l2 : List (Nat × D)} {n k : Nat} {Z : Ends}
/-! ### comprehensions as readings -/
abbrev GB (X : Cx) (scope : Scope) (tg : Expr) : TG := fun v σ1 H1 Q => Bk X scope fun Y => WG Y tg v σ1 H1 Q
abbrev TB (X : Cx) (scope : Scope) (ifs : List Expr) : TT := fun σ1 H1 Q => Bk X scope fun Y => WTs Y ifs σ1 H1 Q
abbrev EB (X : Cx) (scope : Scope) (e : Expr) : TE := fun σ1 H1 Q => Bk X scope fun Y => WE Y e σ1 H1 Q
theorem lc_read {tg iter elt : Expr} {ifs : List Expr} {scope : Scope} {N : Hp → Hp → Prop} (own : List (Str × Nat)) (t : Nat → Bool) (g : Nat → D) (hg : ∀ i, (g i).pl = true) (h : Wk X tg iter σ H ds N) (hNS : ∀ H1 H2, Same H1 H2 → N H1 H2) (hz : ds.length ≤ 100000)
    (turn : ∀ i d v H1, Same H H1 → ds[i]? = some d → Im X.K H1 v d → ∃ σ2, (∀ Q2 : L2.St → Hp → Prop, Q2 σ2 H1 → Bk X scope fun Y => WG Y tg v (wipe σ (own.map (·.2))) H1 Q2) ∧ wipe σ2 (own.map (·.2)) = wipe σ (own.map (·.2)) ∧
      (Bk X scope fun Y => EvTs Y ifs σ2 H1 (t i)) ∧ (t i = true → Bk X scope fun Y => Ev Y elt σ2 H1 (g i)))
    {H0 : Hp} (s0 : Same H H0) {Q : VK} (q : ∀ p xs H2, H0 p = none → Same H0 H2 → H2 p = some (.lst xs) → Ims X.K H2 xs (kept ds.length t g) → Q (.ref p) H2) : tLc (WI X tg iter) (GB X scope tg) (TB X scope ifs) (EB X scope elt) (own.map (·.2)) σ H0 Q := by
  refine h H0 s0 _ fun J H2 G s2 row st => ?_
  intro p hp
  refine ⟨fun i m H' => m = ds.length - i ∧ i ≤ ds.length ∧ Same H2 H' ∧ ∃ acc, H' p = some (.lst acc) ∧ Ims X.K H' acc (kept i t g), ⟨_, rfl, Nat.zero_le _, Same.new hp, [], upd_same, .nil⟩, ?_⟩
  rintro i m H3 ⟨rfl, hi, s3, acc, hD, hacc⟩
  have gg := st H3 (hNS _ _ s3)
  by_cases hlt : i < ds.length
  · refine .inr ⟨row.goes i H3 hlt gg, _, fun H' z => ⟨ds.length - (i + 1), by omega, rfl, hlt, z⟩, fun x H4 y => ?_⟩
    obtain ⟨s4, d, hd1, hd2⟩ := row.yields i H3 x H4 hlt gg y
    obtain ⟨σ2, t1, t2, t3, t4⟩ := turn i d x H4 (((s0.trans s2).trans s3).trans s4) hd1 hd2
    refine t1 _ ⟨t2, fun s H C cl fp => t3 s H C cl fp H4 (Same.refl _) _ fun H5 s5 => ?_⟩
    cases e : t i with
    | false =>
      refine iteF ⟨(s3.trans s4).trans s5, acc, s5 _ _ (s4 _ _ hD), ?_⟩
      rw [kept_no e]
      exact (hacc.ex s4).ex s5
    | true =>
      refine iteT fun s H C cl fp => t4 e s H C cl fp H5 s5 _ fun v H6 s6 hv => ⟨acc, s6 _ _ (s5 _ _ (s4 _ _ hD)), ?_, ?_⟩
      · rw [hacc.len]
        have := kept_len i t g
        rw [sizeLine_eq]
        omega
      · have hD6 : H6 p = some (.lst acc) := s6 _ _ (s5 _ _ (s4 _ _ hD))
        refine ⟨?_, acc ++ [v], upd_same, ?_⟩
        · exact Same.mut (((s3.trans s4).trans s5).trans s6) hp
        · have q := kept_pl (n := i + 1) (t := t) hg
          rw [kept_yes e] at q
          rw [kept_yes e]
          exact (((((hacc.ex s4).ex s5).ex s6).app (.cons hv .nil))).up (Tx.put hD6 trivial) q
  · have e : i = ds.length := by omega
    subst e
    exact .inl ⟨row.stops H3 gg, q p acc H3 (s2.free hp) (s2.trans s3) hD hacc⟩
/-- name = [..] -/
theorem s_setL {tg iter elt : Expr} {ifs : List Expr} {scope : Scope} {N : Hp → Hp → Prop} {Ns ps : List Str} {sc : Scope} {y : Str} (S : FnScope Ns ps sc) (own : List (Str × Nat)) (j : Nat) (t : Nat → Bool) (g : Nat → D) (hg : ∀ i, (g i).pl = true) (h : Wk X tg iter σ H ds N) (hNS : ∀ H1 H2, Same H1 H2 → N H1 H2) (hz : ds.length ≤ 100000)
    (turn : ∀ i d v H1, Same H H1 → ds[i]? = some d → Im X.K H1 v d → ∃ σ2, (∀ Q2 : L2.St → Hp → Prop, Q2 σ2 H1 → Bk X scope fun Y => WG Y tg v (wipe σ (own.map (·.2))) H1 Q2) ∧ wipe σ2 (own.map (·.2)) = wipe σ (own.map (·.2)) ∧
      (Bk X scope fun Y => EvTs Y ifs σ2 H1 (t i)) ∧ (t i = true → Bk X scope fun Y => Ev Y elt σ2 H1 (g i)))
    (q : ∀ p H2, H p = none → Same H H2 → LsI X.K H2 p (kept ds.length t g) → Z.nx (σ.set j (some (.ref p))) H2)
    (hNs : X.N = Ns := by rfl) (hsc : X.env.scope = sc := by rfl) (ok : blkC Ns sc scope own = true := by decide +kernel) (hc : X.calm = true := by rfl) (hs : ∀ x, foldedSetIterable iter X.env x = pure x := by intro _; rfl)
    (hy : X.N[j]? = some y := by rfl) (hyl : X.env.scope.names.lookup y = some .local := by rfl) (hsw : swapsWith (.ListComp elt [⟨tg, iter, ifs, 0⟩] scope pos) (some (.Name y py)) spos.line X.env = pure true := by rfl) :
    WS X (.Assign [.Name y py] (.ListComp elt [⟨tg, iter, ifs, 0⟩] scope pos) spos) Z σ H := by
  have hN : X.N.Nodup := by rw [hNs]; exact S.nd
  have ok : BlkOk X.N X.env.scope scope own := by rw [hNs, hsc]; exact blkOk_by ok
  refine ⟨_, ps_setLc hc hN hy hyl hsw pi_W ok (g := GB X scope tg) (tt := TB X scope ifs) (te := EB X scope elt)
    (fun s H C cl fp => ⟨fun pins s' σ H1 v u Q I r z => (pg_W).run pins s' σ H1 v u Q I r (z s H C cl fp)⟩) (fun s H C cl fp => ⟨fun pins s' σ H1 Q I z => (pts_W).run pins s' σ H1 Q I (z s H C cl fp)⟩)
    (fun s H C cl fp => ⟨fun pins s' σ H1 Q I z => (pe_W).run pins s' σ H1 Q I (z s H C cl fp)⟩) hs, ?_⟩
  exact lc_read own t g hg h hNS hz turn (Same.refl _) fun p xs H2 hp s2 h1 h2 => q p H2 hp s2 ⟨xs, h1, h2⟩
/-! ### dict comprehensions, keys numbers -/
/-- plain, or a list of what is plain -/
def D.ld : D → Bool
  | .lst ds => D.pls ds
  | d => d.pl
theorem Im.upk {K : PySem.W.Frag} {H : Hp} {q : Addr} {kvs : List (Key × V)} {o : HO} {v : V} {d : D} (h : Im K H v d) (hq : H q = some (.dK kvs)) (hd : d.ld = true) : Im K (upd H q o) v d := by
  cases d with
  | lst ds =>
    obtain ⟨a, xs, rfl, h1, h2⟩ := h.lstI
    have ne : a ≠ q := by
      rintro rfl
      rcases h1 with h1 | ⟨_, h1⟩ <;> rw [hq] at h1 <;> cases h1
    refine .lst ?_ (h2.up (Tx.put hq trivial) hd)
    rcases h1 with h1 | ⟨o', h1⟩
    · exact .inl (by rw [upd_ne ne]; exact h1)
    · exact .inr ⟨o', by rw [upd_ne ne]; exact h1⟩
  | _ => exact h.up (Tx.put hq trivial) hd
theorem KvI.upk {K : PySem.W.Frag} {H : Hp} {q : Addr} {kvs0 kvs : List (Key × V)} {l : List (Nat × D)} {o : HO} (h : KvI K H kvs l) (hq : H q = some (.dK kvs0)) (hd : ∀ x ∈ l, x.2.ld = true) : KvI K (upd H q o) kvs l := by
  induction h with
  | nil => exact .nil
  | cons h t ih => exact .cons (h.upk hq (hd _ (List.mem_cons_self ..))) (ih fun x m => hd x (List.mem_cons_of_mem _ m))
/-- what turn i leaves -/
def keptD (n : Nat) (t : Nat → Bool) (kf : Nat → Nat) (g : Nat → D) : List (Nat × D) := ((List.range n).filter t).foldl (fun acc i => pt acc (kf i) (g i)) []
theorem keptD_yes {n : Nat} {t : Nat → Bool} {kf : Nat → Nat} {g : Nat → D} (h : t n = true) : keptD (n + 1) t kf g = pt (keptD n t kf g) (kf n) (g n) := by simp [keptD, List.range_succ, List.filter_append, h]
theorem keptD_no {n : Nat} {t : Nat → Bool} {kf : Nat → Nat} {g : Nat → D} (h : t n = false) : keptD (n + 1) t kf g = keptD n t kf g := by simp [keptD, List.range_succ, List.filter_append, h]
theorem pt_len {α : Type} (l : List (Nat × α)) (k : Nat) (v : α) : (pt l k v).length ≤ l.length + 1 := by
  unfold pt
  split <;> simp
theorem pt_all {α : Type} {P : α → Prop} {l : List (Nat × α)} {k : Nat} {v : α} (h : ∀ x ∈ l, P x.2) (hv : P v) : ∀ x ∈ pt l k v, P x.2 := fun x m => by
  unfold pt at m
  split at m
  · obtain ⟨q', m', rfl⟩ := List.mem_map.mp m
    split
    · exact hv
    · exact h _ m'
  · rcases List.mem_append.mp m with m | m
    · exact h _ m
    · rw [List.mem_singleton.mp m]; exact hv
theorem keptD_len {t : Nat → Bool} {kf : Nat → Nat} {g : Nat → D} : ∀ n, (keptD n t kf g).length ≤ n
  | 0 => Nat.le_refl 0
  | n + 1 => by
    cases e : t n with
    | true =>
      rw [keptD_yes e]
      exact Nat.le_trans (pt_len _ _ _) (Nat.succ_le_succ (keptD_len n))
    | false =>
      rw [keptD_no e]
      exact Nat.le_succ_of_le (keptD_len n)
theorem keptD_ld {t : Nat → Bool} {kf : Nat → Nat} {g : Nat → D} (h : ∀ i, (g i).ld = true) : ∀ n, ∀ x ∈ keptD n t kf g, x.2.ld = true
  | 0 => fun x m => by cases m
  | n + 1 => by
    cases e : t n with
    | true =>
      rw [keptD_yes e]
      exact pt_all (P := fun d : D => d.ld = true) (keptD_ld h n) (h n)
    | false =>
      rw [keptD_no e]
      exact keptD_ld h n
theorem dc_read {tg iter kx vx : Expr} {ifs : List Expr} {scope : Scope} {N : Hp → Hp → Prop} (own : List (Str × Nat)) (t : Nat → Bool) (kf : Nat → Nat) (g : Nat → D) (hg : ∀ i, (g i).ld = true) (h : Wk X tg iter σ H ds N) (hNS : ∀ H1 H2, Same H1 H2 → N H1 H2) (hz : ds.length ≤ 100000)
    (turn : ∀ i d v H1, Same H H1 → ds[i]? = some d → Im X.K H1 v d → ∃ σ2, (∀ Q2 : L2.St → Hp → Prop, Q2 σ2 H1 → Bk X scope fun Y => WG Y tg v (wipe σ (own.map (·.2))) H1 Q2) ∧ wipe σ2 (own.map (·.2)) = wipe σ (own.map (·.2)) ∧
      (Bk X scope fun Y => EvTs Y ifs σ2 H1 (t i)) ∧ (t i = true → (Bk X scope fun Y => Ev Y kx σ2 H1 (.int (kf i : Nat))) ∧ Bk X scope fun Y => Ev Y vx σ2 H1 (g i)))
    {H0 : Hp} (s0 : Same H H0) {Q : VK} (q : ∀ p kvs H2, H0 p = none → Same H0 H2 → H2 p = some (.dK kvs) → KvI X.K H2 kvs (keptD ds.length t kf g) → Q (.ref p) H2) : tDc (WI X tg iter) (GB X scope tg) (TB X scope ifs) (EB X scope kx) (EB X scope vx) (own.map (·.2)) σ H0 Q := by
  refine h H0 s0 _ fun J H2 G s2 row st => ?_
  intro p hp
  refine ⟨fun i m H' => m = ds.length - i ∧ i ≤ ds.length ∧ Same H2 H' ∧ ∃ acc, H' p = some (.dK acc) ∧ KvI X.K H' acc (keptD i t kf g), ⟨_, rfl, Nat.zero_le _, Same.new hp, [], upd_same, .nil⟩, ?_⟩
  rintro i m H3 ⟨rfl, hi, s3, acc, hD, hacc⟩
  have gg := st H3 (hNS _ _ s3)
  by_cases hlt : i < ds.length
  · refine .inr ⟨row.goes i H3 hlt gg, _, fun H' z => ⟨ds.length - (i + 1), by omega, rfl, hlt, z⟩, fun x H4 y => ?_⟩
    obtain ⟨s4, d, hd1, hd2⟩ := row.yields i H3 x H4 hlt gg y
    obtain ⟨σ2, t1, t2, t3, t4⟩ := turn i d x H4 (((s0.trans s2).trans s3).trans s4) hd1 hd2
    refine t1 _ ⟨t2, fun s H C cl fp => t3 s H C cl fp H4 (Same.refl _) _ fun H5 s5 => ?_⟩
    cases e : t i with
    | false =>
      refine iteF ⟨(s3.trans s4).trans s5, acc, s5 _ _ (s4 _ _ hD), ?_⟩
      rw [keptD_no e]
      exact (hacc.ex s4).ex s5
    | true =>
      obtain ⟨tk, tv⟩ := t4 e
      refine iteT fun s H C cl fp => tk s H C cl fp H5 s5 _ fun kv H6 s6 hkv s H C cl fp => tv s H C cl fp H6 (s5.trans s6) _ fun v H7 s7 hv => ?_
      have ek := hkv.intI
      subst ek
      have hD7 : H7 p = some (.dK acc) := s7 _ _ (s6 _ _ (s5 _ _ (s4 _ _ hD)))
      have hacc7 := (((hacc.ex s4).ex s5).ex s6).ex s7
      refine ⟨acc, nk (kf i), rfl, hD7, ?_, ?_⟩
      · rw [hacc.len, sizeLine_eq]
        have := keptD_len (t := t) (kf := kf) (g := g) i
        omega
      · refine ⟨Same.mut ((((s3.trans s4).trans s5).trans s6).trans s7) hp, _, upd_same, ?_⟩
        rw [keptD_yes e]
        exact (hacc7.put (kf i) hv).upk hD7 (pt_all (P := fun d : D => d.ld = true) (keptD_ld hg i) (hg i))
  · have e : i = ds.length := by omega
    subst e
    exact .inl ⟨row.stops H3 gg, q p acc H3 (s2.free hp) (s2.trans s3) hD hacc⟩
/-- {k: v for ..} as a value -/
theorem we_dc {tg iter kx vx : Expr} {ifs : List Expr} {scope : Scope} {N : Hp → Hp → Prop} {Ns ps : List Str} {sc : Scope} {Q : VK} (S : FnScope Ns ps sc) (own : List (Str × Nat)) (t : Nat → Bool) (kf : Nat → Nat) (g : Nat → D) (hg : ∀ i, (g i).ld = true) (h : Wk X tg iter σ H ds N) (hNS : ∀ H1 H2, Same H1 H2 → N H1 H2) (hz : ds.length ≤ 100000)
    (turn : ∀ i d v H1, Same H H1 → ds[i]? = some d → Im X.K H1 v d → ∃ σ2, (∀ Q2 : L2.St → Hp → Prop, Q2 σ2 H1 → Bk X scope fun Y => WG Y tg v (wipe σ (own.map (·.2))) H1 Q2) ∧ wipe σ2 (own.map (·.2)) = wipe σ (own.map (·.2)) ∧
      (Bk X scope fun Y => EvTs Y ifs σ2 H1 (t i)) ∧ (t i = true → (Bk X scope fun Y => Ev Y kx σ2 H1 (.int (kf i : Nat))) ∧ Bk X scope fun Y => Ev Y vx σ2 H1 (g i)))
    (q : ∀ p H2, H p = none → Same H H2 → Dk X.K H2 p (keptD ds.length t kf g) → Q (.ref p) H2)
    (hNs : X.N = Ns := by rfl) (hsc : X.env.scope = sc := by rfl) (ok : blkC Ns sc scope own = true := by decide +kernel) (hc : X.calm = true := by rfl) (hs : ∀ x, foldedSetIterable iter X.env x = pure x := by intro _; rfl) : WE X (.DictComp kx vx [⟨tg, iter, ifs, 0⟩] scope pos) σ H Q := by
  have hN : X.N.Nodup := by rw [hNs]; exact S.nd
  have ok : BlkOk X.N X.env.scope scope own := by rw [hNs, hsc]; exact blkOk_by ok
  refine .of (pe_dc hc hN pi_W ok (g := GB X scope tg) (tt := TB X scope ifs) (tk := EB X scope kx) (tv := EB X scope vx)
    (fun s H C cl fp => ⟨fun pins s' σ H1 v u Q I r z => (pg_W).run pins s' σ H1 v u Q I r (z s H C cl fp)⟩) (fun s H C cl fp => ⟨fun pins s' σ H1 Q I z => (pts_W).run pins s' σ H1 Q I (z s H C cl fp)⟩)
    (fun s H C cl fp => ⟨fun pins s' σ H1 Q I z => (pe_W).run pins s' σ H1 Q I (z s H C cl fp)⟩) (fun s H C cl fp => ⟨fun pins s' σ H1 Q I z => (pe_W).run pins s' σ H1 Q I (z s H C cl fp)⟩) hs) ?_
  exact dc_read own t kf g hg h hNS hz turn (Same.refl _) fun p xs H2 hp s2 h1 h2 => q p H2 hp s2 ⟨xs, h1, h2⟩
/-- name = {k: v for ..} -/
theorem ps_setDc {i : Nat} {y : Str} {kx vx tg iter : Expr} {ifs : List Expr} {scope : Scope} {own : List (Str × Nat)} {wi : TI} {g : TG} {tt : TT} {tk tv : TE} (hc : X.calm = true) (hN : X.N.Nodup) (hy : X.N[i]? = some y) (hyl : X.env.scope.names.lookup y = some .local)
    (hsw : swapsWith (.DictComp kx vx [⟨tg, iter, ifs, 0⟩] scope pos) (some (.Name y py)) spos.line X.env = pure true) (hi : PI X tg iter wi) (ok : BlkOk X.N X.env.scope scope own)
    (hg : Bk X scope fun Y => PG Y tg g) (ht : Bk X scope fun Y => PTs Y ifs tt) (hk : Bk X scope fun Y => PE Y kx tk) (he : Bk X scope fun Y => PE Y vx tv) (hs : ∀ x, foldedSetIterable iter X.env x = pure x) :
    PS X (.Assign [.Name y py] (.DictComp kx vx [⟨tg, iter, ifs, 0⟩] scope pos) spos) (tAsg (tDc wi g tt tk tv (own.map (·.2))) (gName i)) := by
  constructor
  intro pins s σ H D I h
  have h' : tDc wi g tt tk tv (own.map (·.2)) σ H (fun x H1 => gName i x σ H1 D.nx) := h
  rw [exec_Assign_Name_used _ _ _ _ hsw]
  refine wpAny_bind (wpAny_standAt (wpAny_bind ?_))
  show wpAny _ X.A (do let _ ← comprehension (.DictComp kx vx [⟨tg, iter, ifs, 0⟩] scope pos) scope X.env (firstIterPos [⟨tg, iter, ifs, 0⟩] pos) newDict false (eval iter X.env) (some (assign (.Name y py) X.env))) _ _ s
  have core := dc_core (Q := fun x H1 => gName i x σ H1 D.nx) (use := some (assign (.Name y py) X.env)) (pos' := firstIterPos [⟨tg, iter, ifs, 0⟩] pos) (pos := pos) (Qf := fun _ s' => SP X pins D .next s') hc hN I hi ok hg ht hk he hs h' (by
    intro L C s1 m H1 I1 q ns f
    refine wpAny_assign_Name (store_ok2 (v := V.ref L) I1 hN hy (.inl hyl) rfl ?_ (.inr hyl))
    rintro s2 I2 ⟨a, b, w⟩
    have far : C ≠ a := w.elim (fun e => e ▸ f.2.1) fun e z => f.2.2.2.2.1 y a e z.symm
    exact ⟨m, ns.sameBut b far, fun h' b' => ⟨_, H1, I2.turned (t' := s2.toks) (fun c o n e => (b'.2 c n).trans e) f.1 f.2.1 f.2.2.2.1 f.2.2.2.2.1 f.2.2.2.2.2, q⟩⟩)
  exact wpAny_bind (thn core fun _ s' hq => wpAny_pure (wpAny_pure hq))
theorem s_setK {tg iter kx vx : Expr} {ifs : List Expr} {scope : Scope} {N : Hp → Hp → Prop} {Ns ps : List Str} {sc : Scope} {y : Str} (S : FnScope Ns ps sc) (own : List (Str × Nat)) (j : Nat) (t : Nat → Bool) (kf : Nat → Nat) (g : Nat → D) (hg : ∀ i, (g i).ld = true) (h : Wk X tg iter σ H ds N) (hNS : ∀ H1 H2, Same H1 H2 → N H1 H2) (hz : ds.length ≤ 100000)
    (turn : ∀ i d v H1, Same H H1 → ds[i]? = some d → Im X.K H1 v d → ∃ σ2, (∀ Q2 : L2.St → Hp → Prop, Q2 σ2 H1 → Bk X scope fun Y => WG Y tg v (wipe σ (own.map (·.2))) H1 Q2) ∧ wipe σ2 (own.map (·.2)) = wipe σ (own.map (·.2)) ∧
      (Bk X scope fun Y => EvTs Y ifs σ2 H1 (t i)) ∧ (t i = true → (Bk X scope fun Y => Ev Y kx σ2 H1 (.int (kf i : Nat))) ∧ Bk X scope fun Y => Ev Y vx σ2 H1 (g i)))
    (q : ∀ p H2, H p = none → Same H H2 → Dk X.K H2 p (keptD ds.length t kf g) → Z.nx (σ.set j (some (.ref p))) H2)
    (hNs : X.N = Ns := by rfl) (hsc : X.env.scope = sc := by rfl) (ok : blkC Ns sc scope own = true := by decide +kernel) (hc : X.calm = true := by rfl) (hs : ∀ x, foldedSetIterable iter X.env x = pure x := by intro _; rfl)
    (hy : X.N[j]? = some y := by rfl) (hyl : X.env.scope.names.lookup y = some .local := by rfl) (hsw : swapsWith (.DictComp kx vx [⟨tg, iter, ifs, 0⟩] scope pos) (some (.Name y py)) spos.line X.env = pure true := by rfl) :
    WS X (.Assign [.Name y py] (.DictComp kx vx [⟨tg, iter, ifs, 0⟩] scope pos) spos) Z σ H := by
  have hN : X.N.Nodup := by rw [hNs]; exact S.nd
  have ok : BlkOk X.N X.env.scope scope own := by rw [hNs, hsc]; exact blkOk_by ok
  refine ⟨_, ps_setDc hc hN hy hyl hsw pi_W ok (g := GB X scope tg) (tt := TB X scope ifs) (tk := EB X scope kx) (tv := EB X scope vx)
    (fun s H C cl fp => ⟨fun pins s' σ H1 v u Q I r z => (pg_W).run pins s' σ H1 v u Q I r (z s H C cl fp)⟩) (fun s H C cl fp => ⟨fun pins s' σ H1 Q I z => (pts_W).run pins s' σ H1 Q I (z s H C cl fp)⟩)
    (fun s H C cl fp => ⟨fun pins s' σ H1 Q I z => (pe_W).run pins s' σ H1 Q I (z s H C cl fp)⟩) (fun s H C cl fp => ⟨fun pins s' σ H1 Q I z => (pe_W).run pins s' σ H1 Q I (z s H C cl fp)⟩) hs, ?_⟩
  exact dc_read own t kf g hg h hNS hz turn (Same.refl _) fun p xs H2 hp s2 h1 h2 => q p H2 hp s2 ⟨xs, h1, h2⟩
end
end Dr
set_option Elab.async false
set_option linter.all false
set_option maxRecDepth 100000
set_option maxHeartbeats 4000000
set_option pp.deepTerms false
set_option pp.maxSteps 400
namespace Dr
open PySem PySem.Spec PyProof.Rows L2
/-! ### lists that stay, zip -/
def LsX (H H1 : Hp) : Prop := ∀ a xs, Rd H a (.lst xs) → Rd H1 a (.lst xs)
theorem LsX.refl {H : Hp} : LsX H H := fun _ _ h => h
theorem LsX.trans {H H1 H2 : Hp} (a : LsX H H1) (b : LsX H1 H2) : LsX H H2 := fun x xs h => b x xs (a x xs h)
theorem RS.ls {H H1 : Hp} (e : RS H H1) : LsX H H1 := fun a xs h => e.rd a _ nf_lst h
theorem Same.ls {H H1 : Hp} (e : Same H H1) : LsX H H1 := RS.ls (Same.rs e)
theorem Mu.ls {p : Addr} {H H1 : Hp} {kvs : List (Key × V)} (h : H p = some (.dK kvs)) (m : Mu p H H1) : LsX H H1 := fun a xs q => by
  have ne : a ≠ p := by
    rintro rfl
    rcases q with q | ⟨_, q⟩ <;> rw [h] at q <;> cases q
  rcases q with q | ⟨o, q⟩
  · exact .inl (m.at ne q)
  · exact .inr ⟨o, m.at ne q⟩
/-- a list of plain data stays -/
theorem Im.lsx {K : PySem.W.Frag} {H H1 : Hp} {v : V} {ds : List D} (h : Im K H v (.lst ds)) (l : LsX H H1) (t : Tx K H H1) (hp : D.pls ds = true) : Im K H1 v (.lst ds) := by
  obtain ⟨a, xs, rfl, h1, h2⟩ := h.lstI
  exact .lst (l _ _ h1) (h2.up t hp)
section
variable {X : Cx} {σ : L2.St} {H H' : Hp} {a b c e e2 f : Expr} {es : List Expr} {pos p p1 apos cpos tpos : Pos} {d d1 d2 : D} {ds ds2 : List D} {l l2 : List (Nat × D)} {n k : Nat} {Z : Ends}
theorem EvL.ev (h : EvL X e σ H ds) : Ev X e σ H (.lst ds) := fun H1 s Q q => h H1 s _ fun p xs H2 hp s2 h1 h2 => q _ H2 s2 (.lst (.of h1) h2)
theorem wk_lstD {tg : Expr} (h : Ev X e σ H (.lst ds)) (hpl : D.pls ds = true) : Wk X tg e σ H ds (fun H1 H2 => Tx X.K H1 H2 ∧ LsX H1 H2) := fun H1 s R r =>
  ⟨_, pi_list pe_W, h H1 s _ fun v H2 s2 hv => by
    obtain ⟨a, xs, rfl, h1, h2⟩ := hv.lstI
    refine ⟨a, rfl, ⟨xs, .inl h1⟩, r _ H2 (fun H' => Tx X.K H2 H' ∧ LsX H2 H') s2 ⟨fun i H' hi t => ?_, fun H' t => ⟨xs, .inl (t.2 _ _ h1), by rw [h2.len]; exact Nat.le_refl _⟩, fun i H' x H3 hi t y => ?_⟩ fun H' n => n⟩
    · have : i < xs.length := by rw [h2.len]; exact hi
      exact ⟨xs, xs[i], .inl (t.2 _ _ h1), by simp [this]⟩
    · obtain ⟨rfl, y⟩ := y
      have yy := y xs (.inl (t.2 _ _ h1))
      obtain ⟨d, hd1, hd2⟩ := h2.atV yy
      exact ⟨Same.refl _, d, hd1, hd2.up t.1 (pls_mem hpl d (List.mem_of_getElem? hd1))⟩⟩
def zpD (ds ds2 : List D) : List D := List.zipWith (fun a b => D.tup [a, b]) ds ds2
theorem zpD_at {i : Nat} {d : D} (h : (zpD ds ds2)[i]? = some d) : ∃ x y, ds[i]? = some x ∧ ds2[i]? = some y ∧ d = .tup [x, y] := by
  rw [zpD, List.getElem?_zipWith] at h
  cases e : ds[i]? with
  | none => rw [e] at h; cases h
  | some x =>
    cases e2 : ds2[i]? with
    | none => rw [e, e2] at h; cases h
    | some y => rw [e, e2] at h; exact ⟨x, y, rfl, rfl, (Option.some.inj h).symm⟩
theorem wk_zip {elts : List Expr} {kk : Nat} (hm : X.mg "zip" = none) (h : Ev X e σ H (.lst ds)) (h2 : Ev X e2 σ H (.lst ds2)) (hpl : D.pls ds = true) (hpl2 : D.pls ds2 = true) (hl : ds.length = ds2.length) (hg : Gl X "zip" := by rfl)
    (hs : starEach [e, e2] X.env = (false, eval e X.env) :: starEach [e2] X.env := by rfl) (hs2 : starEach [e2] X.env = (false, eval e2 X.env) :: starEach [] X.env := by rfl) (hs3 : (backTo pos (starEach [e2] X.env)).any (·.1) = false := by rfl) :
    Wk X (.Tuple elts kk tpos) (.Call (.Name "zip" p) [e, e2] [] pos) σ H (zpD ds ds2) (fun H1 H2 => Tx X.K H1 H2 ∧ LsX H1 H2) := fun H1 s R r =>
  ⟨_, pi_zip hg hm pa_W hs hs3, ea_cons h (ea_one h2 hs2) hs H1 s _ fun vs H2 s2 hvs => by
    cases hvs with
    | cons hv1 hvs =>
    cases hvs with
    | cons hv2 hvs =>
    cases hvs
    obtain ⟨a, xs, rfl, g1, g2⟩ := hv1.lstI
    obtain ⟨b, ys, rfl, g3, g4⟩ := hv2.lstI
    have lz : (zpD ds ds2).length = ds.length := by simp [zpD, hl]
    refine ⟨a, b, xs, ys, rfl, .inl g1, .inl g3, r _ H2 (fun H' => Tx X.K H2 H' ∧ LsX H2 H') s2 ⟨fun i H' hi t => ?_, fun H' t => ⟨xs, ys, .inl (t.2 _ _ g1), .inl (t.2 _ _ g3), .inl (by rw [g2.len, lz]; exact Nat.le_refl _)⟩, fun i H' x H3 hi t y => ?_⟩ fun H' n => n⟩
    · rw [lz] at hi
      have q1 : i < xs.length := by rw [g2.len]; exact hi
      have q2 : i < ys.length := by rw [g4.len, ← hl]; exact hi
      exact ⟨xs, ys, xs[i], ys[i], .inl (t.2 _ _ g1), .inl (t.2 _ _ g3), by simp [q1], by simp [q2]⟩
    · obtain ⟨T, x, y, rfl, hT, rfl, y1, y2⟩ := y
      have z1 := y1 xs (.inl (t.2 _ _ g1))
      have z2 := y2 ys (.inl (t.2 _ _ g3))
      obtain ⟨d1, e1, f1⟩ := g2.atV z1
      obtain ⟨d2, e2, f2⟩ := g4.atV z2
      refine ⟨Same.new hT, .tup [d1, d2], ?_, .tup (.of upd_same) (.cons ?_ (.cons ?_ .nil))⟩
      · rw [zpD, List.getElem?_zipWith, e1, e2]
      · exact (f1.up t.1 (pls_mem hpl d1 (List.mem_of_getElem? e1))).ex (Same.new hT)
      · exact (f2.up t.1 (pls_mem hpl2 d2 (List.mem_of_getElem? e2))).ex (Same.new hT)⟩
end
/-! ### dicts whose values hold lists and dicts, but never the dict itself -/
section
variable {K : PySem.W.Frag} {H H1 : Hp}
def Dn (K : PySem.W.Frag) (H : Hp) (p : Addr) (l : List (Nat × D)) : Prop := ∃ kvs, H p = some (.dK kvs) ∧ KvI K (rm p H) kvs l
theorem Dn.im {p : Addr} {l : List (Nat × D)} (h : Dn K H p l) : Im K H (.ref p) (dcD l) := by
  obtain ⟨kvs, h1, h2⟩ := h
  exact .dc (.of h1) (h2.ex rm_le)
theorem Dn.ex {p : Addr} {l : List (Nat × D)} (h : Dn K H p l) (s : Same H H1) : Dn K H1 p l := by
  obtain ⟨kvs, h1, h2⟩ := h
  exact ⟨kvs, s _ _ h1, h2.ex (rm_same s)⟩
theorem rm_tx {p : Addr} {kvs : List (Key × V)} (h : H p = some (.dK kvs)) : Tx K H (rm p H) := by
  refine ⟨fun a xs q => ?_, fun a xs q => by
    have : a ≠ p := by
      rintro rfl
      rw [h] at q; cases q
    rw [rm_ne this]; exact q⟩
  rcases q with q | q
  · have ne : a ≠ p := by
      rintro rfl
      rcases q with q | ⟨_, q⟩ <;> rw [h] at q <;> cases q
    rcases q with q | ⟨o, q⟩
    · exact .inl (.inl (by rw [rm_ne ne]; exact q))
    · exact .inl (.inr ⟨o, by rw [rm_ne ne]; exact q⟩)
  · exact .inr q
theorem rm_ls {p : Addr} {kvs : List (Key × V)} (h : H p = some (.dK kvs)) : LsX H (rm p H) := fun a xs q => by
  have ne : a ≠ p := by
    rintro rfl
    rcases q with q | ⟨_, q⟩ <;> rw [h] at q <;> cases q
  rcases q with q | ⟨o, q⟩
  · exact .inl (by rw [rm_ne ne]; exact q)
  · exact .inr ⟨o, by rw [rm_ne ne]; exact q⟩
theorem rm_rd {p a : Addr} {u : HO} (h : Rd H a u) (ne : a ≠ p) : Rd (rm p H) a u := by
  rcases h with h | ⟨o, h⟩
  · exact .inl (by rw [rm_ne ne]; exact h)
  · exact .inr ⟨o, by rw [rm_ne ne]; exact h⟩
theorem Dn.put {p : Addr} {l : List (Nat × D)} {d : D} {v : V} (h : Dn K H p l) (k : Nat) (hv : Im K (rm p H) v d) : ∃ kvs, H p = some (.dK kvs) ∧ kvs.length = l.length ∧ Dn K (upd H p (.dK (putK kvs (nk k) v))) p (pt l k d) := by
  obtain ⟨kvs, h1, h2⟩ := h
  refine ⟨kvs, h1, h2.len, _, upd_same, ?_⟩
  rw [rm_upd]
  exact h2.put k hv
end
end Dr
/-! plain mathematics of machines; no program in sight -/
namespace Dr
inductive Rw where
  | toss (a b : Nat) | out (i : Nat)
  deriving DecidableEq
structure Mc where
  n : Nat
  rows : List Rw
  deriving DecidableEq
def Rw.ok (n k : Nat) : Rw → Prop
  | .toss a b => a < k ∧ b < k
  | .out i => i < n
/-- a machine of at most z standings -/
structure Mc.Ok (m : Mc) (z : Nat) : Prop where
  n1 : 1 ≤ m.n
  n8 : m.n ≤ 8
  pos : 0 < m.rows.length
  le : m.rows.length ≤ z
  row : ∀ r ∈ m.rows, r.ok m.n m.rows.length
end Dr
set_option Elab.async false
set_option linter.all false
set_option maxRecDepth 100000
set_option maxHeartbeats 4000000
namespace Dr
open PySem PySem.Spec PyProof.Rows L2
/-! ### data and their shapes -/
mutual
def D.py : D → PyData
  | .non => .none
  | .bl b => .bool b
  | .int i => .int i
  | .str x => .str x
  | .tup ds => .tuple (D.pys ds)
  | .lst ds => .list (D.pys ds)
  | .dic _ _ => .none
  | .key _ => .none
def D.pys : List D → List PyData
  | [] => []
  | d :: ds => D.py d :: D.pys ds
end
mutual
def D.sh : Nat → D → Bool
  | _, .str x => PyData.strOk x
  | 0, .tup _ => false
  | n + 1, .tup ds => D.shs n ds
  | 0, .lst _ => false
  | n + 1, .lst ds => D.shs n ds
  | _, .dic _ _ => false
  | _, .key _ => false
  | _, _ => true
def D.shs : Nat → List D → Bool
  | _, [] => true
  | n, d :: ds => D.sh n d && D.shs n ds
end
mutual
theorem D.sh_ok : ∀ (n : Nat) (d : D), D.sh n d = true → d.py.canLay0 = true ∧ d.py.depth ≤ n
  | n, .non, _ => ⟨rfl, Nat.zero_le _⟩
  | n, .bl b, _ => ⟨rfl, Nat.zero_le _⟩
  | n, .int i, _ => ⟨rfl, Nat.zero_le _⟩
  | 0, .str x, h => ⟨h, Nat.zero_le _⟩
  | n + 1, .str x, h => ⟨h, Nat.zero_le _⟩
  | 0, .tup ds, h => by cases h
  | n + 1, .tup ds, h => by
    obtain ⟨h1, h2⟩ := D.shs_ok n ds h
    exact ⟨h1, Nat.succ_le_succ h2⟩
  | 0, .lst ds, h => by cases h
  | n + 1, .lst ds, h => by
    obtain ⟨h1, h2⟩ := D.shs_ok n ds h
    exact ⟨h1, Nat.succ_le_succ h2⟩
  | 0, .dic _ _, h => by cases h
  | n + 1, .dic _ _, h => by cases h
  | 0, .key _, h => by cases h
  | n + 1, .key _, h => by cases h
theorem D.shs_ok : ∀ (n : Nat) (ds : List D), D.shs n ds = true → PyData.canLayAll0 (D.pys ds) = true ∧ PyData.depthAll (D.pys ds) ≤ n
  | n, [], _ => ⟨rfl, Nat.zero_le _⟩
  | n, d :: ds, h => by
    have h' : (D.sh n d && D.shs n ds) = true := h
    rw [Bool.and_eq_true] at h'
    obtain ⟨h1, h2⟩ := D.sh_ok n d h'.1
    obtain ⟨h3, h4⟩ := D.shs_ok n ds h'.2
    refine ⟨?_, Nat.max_le.mpr ⟨h2, h4⟩⟩
    show (d.py.canLay0 && PyData.canLayAll0 (D.pys ds)) = true
    rw [h1, h3]; rfl
end
mutual
theorem Im.dp {K : PySem.W.Frag} {H : Hp} : ∀ {n : Nat} {v : V} {d : D}, D.sh n d = true → Im K H v d → Dp K H v d.py
  | _, _, _, _, .non => .non
  | _, _, _, _, .bl b => .bl b
  | _, _, _, _, .int i => .int i
  | _, _, _, _, .str x => .str x
  | n + 1, _, _, q, .tup h hs => .tup h (Ims.dp q hs)
  | n + 1, _, _, q, .lst h hs => .lst (.inl h) (Ims.dp q hs)
  | 0, _, _, q, .tup h hs => by cases q
  | 0, _, _, q, .lst h hs => by cases q
  | 0, _, _, q, .dic h hk hs => by cases q
  | n + 1, _, _, q, .dic h hk hs => by cases q
  | 0, _, _, q, .key h => by cases q
  | n + 1, _, _, q, .key h => by cases q
theorem Ims.dp {K : PySem.W.Frag} {H : Hp} : ∀ {n : Nat} {vs : List V} {ds : List D}, D.shs n ds = true → Ims K H vs ds → DpAll K H vs (D.pys ds)
  | _, _, _, _, .nil => .nil
  | n, _ :: _, d :: ds, q, .cons h hs => by
    have q' : (D.sh n d && D.shs n ds) = true := q
    rw [Bool.and_eq_true] at q'
    exact .cons (Im.dp q'.1 h) (Ims.dp q'.2 hs)
end
theorem D.shaped {n : Nat} {d : D} (h : D.sh n d = true) (hn : n ≤ 64) : SeqAt.shaped d.py = true := by
  obtain ⟨h1, h2⟩ := D.sh_ok n d h
  show (d.py.canLay0 && decide (d.py.depth ≤ 64)) = true
  rw [h1, decide_eq_true (Nat.le_trans h2 hn)]; rfl
theorem shs_map {α : Type} {f : α → D} {n : Nat} (h : ∀ a, D.sh n (f a) = true) : ∀ l : List α, D.shs n (l.map f) = true
  | [] => rfl
  | a :: l => by
    show (D.sh n (f a) && D.shs n (l.map f)) = true
    rw [h a, shs_map h l]; rfl
mutual
/-- without bools == is sameness -/
def D.nb : D → Bool
  | .bl _ => false
  | .tup ds => D.nbs ds
  | .lst ds => D.nbs ds
  | .dic _ _ => false
  | .key _ => false
  | _ => true
def D.nbs : List D → Bool
  | [] => true
  | d :: ds => D.nb d && D.nbs ds
end
mutual
theorem eqv_iff : ∀ (d e : D), d.nb = true → e.nb = true → (PyData.eqv d.py e.py = true ↔ d = e)
  | .non, e, _, h => by cases e <;> simp [D.py, PyData.eqv, D.nb] at h ⊢
  | .bl b, e, h, _ => by cases h
  | .int i, e, _, h => by cases e <;> simp [D.py, PyData.eqv, D.nb] at h ⊢
  | .str x, e, _, h => by cases e <;> simp [D.py, PyData.eqv, D.nb] at h ⊢
  | .tup ds, e, h1, h2 => by
    cases e with
    | tup es =>
      have := eqvAll_iff ds es h1 h2
      simp only [D.py, PyData.eqv, D.tup.injEq]
      exact this
    | _ => simp [D.py, PyData.eqv, D.nb] at h2 ⊢
  | .lst ds, e, h1, h2 => by
    cases e with
    | lst es =>
      have := eqvAll_iff ds es h1 h2
      simp only [D.py, PyData.eqv, D.lst.injEq]
      exact this
    | _ => simp [D.py, PyData.eqv, D.nb] at h2 ⊢
  | .dic _ _, e, h, _ => by cases h
  | .key _, e, h, _ => by cases h
theorem eqvAll_iff : ∀ (ds es : List D), D.nbs ds = true → D.nbs es = true → (PyData.eqvAll (D.pys ds) (D.pys es) = true ↔ ds = es)
  | [], [], _, _ => by simp [D.pys, PyData.eqvAll]
  | [], _ :: _, _, _ => by simp [D.pys, PyData.eqvAll]
  | _ :: _, [], _, _ => by simp [D.pys, PyData.eqvAll]
  | d :: ds, e :: es, h1, h2 => by
    have h1' : (D.nb d && D.nbs ds) = true := h1
    have h2' : (D.nb e && D.nbs es) = true := h2
    rw [Bool.and_eq_true] at h1' h2'
    simp only [D.pys, PyData.eqvAll, Bool.and_eq_true, List.cons.injEq]
    rw [eqv_iff d e h1'.1 h2'.1, eqvAll_iff ds es h1'.2 h2'.2]
end
theorem nbs_map {α : Type} {f : α → D} (h : ∀ a, (f a).nb = true) : ∀ l : List α, D.nbs (l.map f) = true
  | [] => rfl
  | a :: l => by
    show (D.nb (f a) && D.nbs (l.map f)) = true
    rw [h a, nbs_map h l]; rfl
open Classical in
/-- data compared: b tells whether they are the same -/
theorem eqv_dec {d e : D} (h1 : d.nb = true) (h2 : e.nb = true) : PyData.eqv d.py e.py = decide (d = e) := by
  have := eqv_iff d e h1 h2
  cases h : PyData.eqv d.py e.py with
  | true => exact (decide_eq_true (this.mp h)).symm
  | false => exact (decide_eq_false fun q => by rw [this.mpr q] at h; cases h).symm
section
variable {X : Cx} {σ : L2.St} {H : Hp} {a b e : Expr} {pos : Pos} {d1 d2 : D}
open Classical in
theorem et_eqD {k n m : Nat} (hr : Rm k X.A) (ha : Ev X a σ H d1) (hb : Ev X b σ H d2) (s1 : D.sh n d1 = true) (s2 : D.sh m d2 = true) (n1 : d1.nb = true) (n2 : d2.nb = true) (hn : n ≤ 64 := by decide) (hm : m ≤ 64 := by decide) : EvT X (.Compare a [.Eq] [b] pos) σ H (decide (d1 = d2)) :=
  fun H1 s Q q => .of (pt_cmpR (op_eqD hr.room.units) pe_W pe_W (nomark _)) (ha H1 s _ fun x H2 t2 hx => hb H2 (s.trans t2) _ fun y H3 t3 hy =>
    ⟨_, _, (hx.ex t3).dp s1, hy.dp s2, D.shaped s1 hn, D.shaped s2 hm, _, rfl, by rw [eqv_dec n1 n2]; exact q H3 (t2.trans t3)⟩)
open Classical in
theorem et_neD {k n m : Nat} (hr : Rm k X.A) (ha : Ev X a σ H d1) (hb : Ev X b σ H d2) (s1 : D.sh n d1 = true) (s2 : D.sh m d2 = true) (n1 : d1.nb = true) (n2 : d2.nb = true) (hn : n ≤ 64 := by decide) (hm : m ≤ 64 := by decide) : EvT X (.Compare a [.NotEq] [b] pos) σ H (!decide (d1 = d2)) :=
  fun H1 s Q q => .of (pt_cmpR (op_neD hr.room.units) pe_W pe_W (nomark _)) (ha H1 s _ fun x H2 t2 hx => hb H2 (s.trans t2) _ fun y H3 t3 hy =>
    ⟨_, _, (hx.ex t3).dp s1, hy.dp s2, D.shaped s1 hn, D.shaped s2 hm, _, rfl, by rw [eqv_dec n1 n2]; exact q H3 (t2.trans t3)⟩)
open Classical in
theorem ev_eqD {k n m : Nat} (hr : Rm k X.A) (ha : Ev X a σ H d1) (hb : Ev X b σ H d2) (s1 : D.sh n d1 = true) (s2 : D.sh m d2 = true) (n1 : d1.nb = true) (n2 : d2.nb = true) (hn : n ≤ 64 := by decide) (hm : m ≤ 64 := by decide) : Ev X (.Compare a [.Eq] [b] pos) σ H (.bl (decide (d1 = d2))) :=
  fun H1 s Q q => .of (pe_cmpR (op_eqD hr.room.units) pe_W pe_W (nomark _)) (ha H1 s _ fun x H2 t2 hx => hb H2 (s.trans t2) _ fun y H3 t3 hy =>
    ⟨_, _, (hx.ex t3).dp s1, hy.dp s2, D.shaped s1 hn, D.shaped s2 hm, by rw [eqv_dec n1 n2]; exact q _ H3 (t2.trans t3) (.bl _)⟩)
open Classical in
theorem ev_neD {k n m : Nat} (hr : Rm k X.A) (ha : Ev X a σ H d1) (hb : Ev X b σ H d2) (s1 : D.sh n d1 = true) (s2 : D.sh m d2 = true) (n1 : d1.nb = true) (n2 : d2.nb = true) (hn : n ≤ 64 := by decide) (hm : m ≤ 64 := by decide) : Ev X (.Compare a [.NotEq] [b] pos) σ H (.bl (!decide (d1 = d2))) :=
  fun H1 s Q q => .of (pe_cmpR (op_neD hr.room.units) pe_W pe_W (nomark _)) (ha H1 s _ fun x H2 t2 hx => hb H2 (s.trans t2) _ fun y H3 t3 hy =>
    ⟨_, _, (hx.ex t3).dp s1, hy.dp s2, D.shaped s1 hn, D.shaped s2 hm, by rw [eqv_dec n1 n2]; exact q _ H3 (t2.trans t3) (.bl _)⟩)
/-- all(a new list of bools) -/
theorem ev_all {x : Str} {p : Pos} {bs : List Bool} {ds : List D} (hm : X.mg x = none) (ha : EvL X e σ H ds) (hds : ds = bs.map D.bl) (hv : bootBuiltins x = some (.builtin "all") := by exact PyProof.Rows.boot_all) (hg : Gl X x := by rfl) (hn : x ≠ "__name__" := by decide) (hdb : (x == ("__debug__" : Str)) = false := by decide)
    (he : starEach [e] X.env = (false, eval e X.env) :: starEach [] X.env := by rfl) (hpl : (backTo pos (starEach [] X.env)).any (·.1) = false := by rfl) (hc : X.calm = true := by rfl) : Ev X (.Call (.Name x p) [e] [] pos) σ H (.bl (bs.all id)) :=
  fun H1 s Q q => .of (pe_callB (cr_all hc) hg hm hv pa_W hn hdb he hpl) (wa_cons (ha H1 s _ fun l xs H2 _ s2 h1 h2 => wa_nil (by
    subst hds
    have e1 := h2.bls
    subst e1
    exact ⟨l, bs, rfl, .of h1, q _ H2 s2 (.bl _)⟩)) he)
/-- tuple(a new list) -/
theorem ev_tupleL {x : Str} {p : Pos} {ds : List D} (hm : X.mg x = none) (ha : EvL X e σ H ds) (hv : bootBuiltins x = some (.type "tuple") := by exact PyProof.Rows.boot_tuple) (hg : Gl X x := by rfl) (hn : x ≠ "__name__" := by decide) (hdb : (x == ("__debug__" : Str)) = false := by decide)
    (he : starEach [e] X.env = (false, eval e X.env) :: starEach [] X.env := by rfl) (hpl : (backTo pos (starEach [] X.env)).any (·.1) = false := by rfl) : Ev X (.Call (.Name x p) [e] [] pos) σ H (.tup ds) :=
  fun H1 s Q q => .of (pe_callTy call_tuple_of hg hm hv pa_W hn hdb he hpl) (wa_cons (ha H1 s _ fun l xs H2 _ s2 h1 h2 => wa_nil
    ⟨l, xs, rfl, .inl ⟨.of h1, fun z hz => q _ _ (s2.trans (Same.new hz)) (.tup (.of upd_same) (h2.ex (Same.new hz)))⟩⟩) he)
/-- tuple(a list that stands) -/
theorem ev_tupleV {x : Str} {p : Pos} {l : Addr} {ds : List D} (hm : X.mg x = none) (ha : EvV X e σ H (.ref l)) (hl : LsI X.K H l ds) (hv : bootBuiltins x = some (.type "tuple") := by exact PyProof.Rows.boot_tuple) (hg : Gl X x := by rfl) (hn : x ≠ "__name__" := by decide) (hdb : (x == ("__debug__" : Str)) = false := by decide)
    (he : starEach [e] X.env = (false, eval e X.env) :: starEach [] X.env := by rfl) (hpl : (backTo pos (starEach [] X.env)).any (·.1) = false := by rfl) : Ev X (.Call (.Name x p) [e] [] pos) σ H (.tup ds) :=
  fun H1 s Q q => .of (pe_callTy call_tuple_of hg hm hv pa_W hn hdb he hpl) (wa_cons (ha H1 s _ fun H2 s2 => wa_nil (by
    obtain ⟨xs, h1, h2⟩ := hl.ex (s.trans s2)
    exact ⟨l, xs, rfl, .inl ⟨.of h1, fun z hz => q _ _ (s2.trans (Same.new hz)) (.tup (.of upd_same) (h2.ex (Same.new hz)))⟩⟩)) he)
end
/-! ### machines as data -/
def rowL : Rw → List D
  | .toss a b => [.str "toss", .int a, .int b]
  | .out i => [.str "out", .int i]
def rowD (r : Rw) : D := .tup (rowL r)
def mD (m : Mc) : D := .tup [.int m.n, .tup (m.rows.map rowD)]
theorem ok_toss : PyData.strOk "toss" = true := by decide +kernel
theorem ok_out : PyData.strOk "out" = true := by decide +kernel
theorem rowD_pl (r : Rw) : (rowD r).pl = true := by cases r <;> rfl
theorem rowD_sh (r : Rw) : D.sh 1 (rowD r) = true := by cases r <;> simp [rowD, rowL, D.sh, D.shs, ok_toss, ok_out]
theorem rowD_nb (r : Rw) : (rowD r).nb = true := by cases r <;> simp [rowD, rowL, D.nb, D.nbs]
theorem rowD_inj {r r' : Rw} (h : rowD r = rowD r') : r = r' := by
  cases r with
  | toss x y =>
    cases r' with
    | toss x' y' =>
      simp only [rowD, rowL, D.tup.injEq, List.cons.injEq, D.int.injEq, true_and, and_true] at h
      have h1 : x = x' := by omega
      have h2 : y = y' := by omega
      rw [h1, h2]
    | out i => simp [rowD, rowL] at h
  | out i =>
    cases r' with
    | toss x' y' => simp [rowD, rowL] at h
    | out j =>
      simp only [rowD, rowL, D.tup.injEq, List.cons.injEq, D.int.injEq, true_and, and_true] at h
      have h1 : i = j := by omega
      rw [h1]
theorem map_inj {α β : Type} {f : α → β} (h : ∀ a b, f a = f b → a = b) : ∀ {l m : List α}, l.map f = m.map f → l = m
  | [], [], _ => rfl
  | [], _ :: _, e => by simp at e
  | _ :: _, [], e => by simp at e
  | a :: l, b :: m, e => by
    simp only [List.map_cons, List.cons.injEq] at e
    rw [h _ _ e.1, map_inj h e.2]
theorem mD_inj {m m' : Mc} (h : mD m = mD m') : m = m' := by
  simp only [mD, D.tup.injEq, List.cons.injEq, D.int.injEq, and_true] at h
  obtain ⟨h1, h2⟩ := h
  have h3 := map_inj (fun _ _ => rowD_inj) h2
  have h4 : m.n = m'.n := by omega
  cases m
  cases m'
  simp only at h3 h4
  rw [h3, h4]
theorem mD_pl (m : Mc) : (mD m).pl = true := by
  show (true && (D.pls (m.rows.map rowD) && true)) = true
  rw [pls_map rowD_pl]; rfl
theorem mD_sh (m : Mc) : D.sh 3 (mD m) = true := by simp [mD, D.sh, D.shs, shs_map rowD_sh]
theorem mD_nb (m : Mc) : (mD m).nb = true := by simp [mD, D.nb, D.nbs, nbs_map rowD_nb]
theorem at_row {m : Mc} {a : Nat} {r : Rw} (h : m.rows[a]? = some r) : atI (m.rows.map rowD) (a : Int) = some (rowD r) := atI_nat (by rw [List.getElem?_map, h]; rfl)
theorem kept_all {n : Nat} {g : Nat → D} : kept n (fun _ => true) g = (List.range n).map g := by rw [kept, List.filter_eq_self.mpr (fun _ _ => rfl)]
theorem map_range_getD {α β : Type} {g : α → β} (l : List α) (z : α) : (List.range l.length).map (fun j => g (l.getD j z)) = l.map g := by
  apply List.ext_getElem?
  intro i
  by_cases h : i < l.length
  · simp [h, List.getD_eq_getElem?_getD]
  · simp [h]
/-! ### looks -/
def preIsInt (ds : List D) (d : D) : Prop := ∃ x, ds = [x] ∧ d = .bl (match x with | .int _ => true | _ => false)
def preBetw (ds : List D) (d : D) : Prop := ∃ i l m : Int, ds = [.int i, .int l, .int m] ∧ d = .bl (decide (l ≤ i) && decide (i ≤ m))
def preAreB (ds : List D) (d : D) : Prop := ∃ (is : List Int) (l m : Int), ds = [.tup (is.map D.int), .int l, .int m] ∧ is.length ≤ 100000 ∧ d = .bl (is.all fun i => decide (l ≤ i) && decide (i ≤ m))
def preWord (ds : List D) (d : D) : Prop := ∃ (x y : Str) (es : List D), ds = [.tup (.str x :: es), .str y] ∧ d = .bl (decide (x = y))
def preBits (ds : List D) (d : D) : Prop := ∃ is : List Int, ds = [.tup (is.map D.int)] ∧ is.length ≤ 100000 ∧ d = .bl (is.all fun i => decide (0 ≤ i) && decide (i ≤ 1))
section
variable {P : Program} {w : World} {K : PySem.W.Frag} {mg : Str → Option Value} {base : Heap}
theorem kb1 : kitB "int" "int" = some true := by decide +kernel
theorem kb2 : kitB "int" "bool" = some false := by decide +kernel
theorem kb3 : kitB "bool" "int" = some true := by decide +kernel
theorem kb4 : kitB "bool" "bool" = some true := by decide +kernel
theorem kb5 : kitB "str" "int" = some false := by decide +kernel
theorem kb6 : kitB "NoneType" "int" = some false := by decide +kernel
theorem kb7 : kitB "tuple" "int" = some false := by decide +kernel
theorem kb8 : kitB "tuple" "tuple" = some true := by decide +kernel
theorem kb9 : kitB "str" "str" = some true := by decide +kernel
theorem fI (T : Txt K mg) : mg "isinstance" = none ∧ mg "int" = none ∧ mg "bool" = none ∧ mg "tuple" = none ∧ mg "str" = none ∧ mg "len" = none ∧ mg "all" = none := ⟨T.free _ (by decide +kernel), T.free _ (by decide +kernel), T.free _ (by decide +kernel), T.free _ (by decide +kernel), T.free _ (by decide +kernel), T.free _ (by decide +kernel), T.free _ (by decide +kernel)⟩
theorem sc6 : FnScope ["thing"] ["thing"] (defScope (top 6)) := ⟨rfl, rfl, rfl, by decide +kernel, rfl, by decide +kernel, by decide +kernel⟩
theorem pr_isint (T : Txt K mg) : Pr P w K mg base "is_integer" 1 ["thing"] (spD K preIsInt) := by
  refine mk_pr T 0 rfl sc6 (fun _ _ _ _ _ _ us hl => match us, hl with | [_], _ => rfl) (fun vs H Q E h => ?_) (fun cdv A outer s H vs Q E hr h => ?_)
  · obtain ⟨ds, d, ⟨x, rfl, _⟩, hI, _⟩ := h
    exact hI.len
  · obtain ⟨ds, d, ⟨x, rfl, rfl⟩, hI, k⟩ := h
    cases hI with
    | cons h1 hI =>
    cases hI
    obtain ⟨f1, f2, f3, f4, f5, _⟩ := fI T
    cases x with
    | int i => exact w_one (s_ret (Ev.cast (ev_and (ev_isi f1 f2 (ev_var 0 rfl h1) kb1) fun _ => ev_one (ev_not (ev_isi f1 f3 (ev_var 0 rfl h1) kb2))) rfl) k)
    | bl i => exact w_one (s_ret (Ev.cast (ev_and (ev_isi f1 f2 (ev_var 0 rfl h1) kb3) fun _ => ev_one (ev_not (ev_isi f1 f3 (ev_var 0 rfl h1) kb4))) rfl) k)
    | str i => exact w_one (s_ret (Ev.cast (ev_and (u := false) (ev_isi f1 f2 (ev_var 0 rfl h1) kb5) fun q => nomatch q) rfl) k)
    | non => exact w_one (s_ret (Ev.cast (ev_and (u := false) (ev_isi f1 f2 (ev_var 0 rfl h1) kb6) fun q => nomatch q) rfl) k)
    | tup i => exact w_one (s_ret (Ev.cast (ev_and (u := false) (ev_isi f1 f2 (ev_var 0 rfl h1) kb7) fun q => nomatch q) rfl) k)
    | lst i => exact w_one (s_ret (Ev.cast (ev_and (u := false) (ev_isi f1 f2 (ev_var 0 rfl h1) (show kitB "list" "int" = some false by decide +kernel)) fun q => nomatch q) rfl) k)
    | key i => exact w_one (s_ret (Ev.cast (ev_and (u := false) (ev_isi f1 f2 (ev_var 0 rfl h1) kb7) fun q => nomatch q) rfl) k)
    | dic i j => exact w_one (s_ret (Ev.cast (ev_and (u := false) (ev_isi f1 f2 (ev_var 0 rfl h1) (show kitB "dict" "int" = some false by decide +kernel)) fun q => nomatch q) rfl) k)
theorem sc7 : FnScope ["thing", "least", "most"] ["thing", "least", "most"] (defScope (top 7)) := ⟨rfl, rfl, rfl, by decide +kernel, rfl, by decide +kernel, by decide +kernel⟩
theorem pr_betw (T : Txt K mg) (F : Pr P w K mg base "is_integer" 1 ["thing"] (spD K preIsInt)) : Pr P w K mg base "is_between" 2 ["thing", "least", "most"] (spD K preBetw) := by
  refine mk_pr T 1 rfl sc7 (fun _ _ _ _ _ _ us hl => match us, hl with | [_, _, _], _ => rfl) (fun vs H Q E h => ?_) (fun cdv A outer s H vs Q E hr h => ?_)
  · obtain ⟨ds, d, ⟨i, l, m, rfl, _⟩, hI, _⟩ := h
    exact hI.len
  · obtain ⟨ds, d, ⟨i, l, m, rfl, rfl⟩, hI, k⟩ := h
    cases hI with
    | cons h1 hI =>
    cases hI with
    | cons h2 hI =>
    cases hI with
    | cons h3 hI =>
    cases hI
    exact w_one (s_ret (ev_and (ev_call F hr (ea_one (ev_var 0 rfl h1)) ⟨_, rfl, rfl⟩) fun _ => ev_one (ev_lele (ev_var 1 rfl h2) (ev_var 0 rfl h1) (ev_var 2 rfl h3))) k)
theorem sc8 : FnScope ["thing", "least", "most", "part"] ["thing", "least", "most"] (defScope (top 8)) := ⟨rfl, rfl, rfl, by decide +kernel, rfl, by decide +kernel, by decide +kernel⟩
theorem pr_areb (T : Txt K mg) (F : Pr P w K mg base "is_between" 2 ["thing", "least", "most"] (spD K preBetw)) : Pr P w K mg base "are_between" 3 ["thing", "least", "most"] (spD K preAreB) := by
  refine mk_pr T 2 rfl sc8 (fun _ _ _ _ _ _ us hl => match us, hl with | [_, _, _], _ => rfl) (fun vs H Q E h => ?_) (fun cdv A outer s H vs Q E hr h => ?_)
  · obtain ⟨ds, d, ⟨i, l, m, rfl, _⟩, hI, _⟩ := h
    exact hI.len
  · obtain ⟨ds, d, ⟨is, l, m, rfl, hz, rfl⟩, hI, k⟩ := h
    cases hI with
    | cons h1 hI =>
    cases hI with
    | cons h2 hI =>
    cases hI with
    | cons h3 hI =>
    cases hI
    obtain ⟨f1, f2, f3, f4, f5, f6, f7⟩ := fI T
    refine w_one (s_ret (ev_and (ev_isi f1 f4 (ev_var 0 rfl h1) kb8) fun _ => ev_one (ev_all (bs := is.map fun i => decide (l ≤ i) && decide (i ≤ m)) f7
      (el_lc sc8 [("part", 3)] (fun _ => true) (fun j => .bl (decide (l ≤ is.getD j 0) && decide (is.getD j 0 ≤ m))) (fun _ => rfl) (wk_tup (ev_var 0 rfl h1) (pls_map (fun _ => rfl) _)) (fun _ _ s => Same.tx s) (by simpa using hz) ?_) ?_)) ?_)
    · intro j d v H1 s1 hj hv
      rw [List.getElem?_map] at hj
      cases e : is[j]? with
      | none => rw [e] at hj; cases hj
      | some i =>
        rw [e] at hj
        cases hj
        have eg : is.getD j 0 = i := by rw [List.getD_eq_getElem?_getD, e]; rfl
        refine ⟨_, fun Q2 q s H C cl fp => g_name sc8.nd 3 q, rfl, fun s H C cl fp => et_nil, fun _ s H C cl fp => ?_⟩
        rw [eg]
        exact ev_call F (hr.mono (by decide)) (ea_cons (ev_var 3 rfl hv) (ea_cons (ev_var 1 rfl (h2.ex s1)) (ea_one (ev_var 2 rfl (h3.ex s1))))) ⟨_, _, _, rfl, rfl⟩
    · rw [List.length_map, kept_all, map_range_getD (g := fun i => D.bl (decide (l ≤ i) && decide (i ≤ m))) is 0, List.map_map]; rfl
    · rw [List.all_map]
      exact k
theorem sc9 : FnScope ["thing", "word"] ["thing", "word"] (defScope (top 9)) := ⟨rfl, rfl, rfl, by decide +kernel, rfl, by decide +kernel, by decide +kernel⟩
theorem pr_word (T : Txt K mg) : Pr P w K mg base "is_word" 1 ["thing", "word"] (spD K preWord) := by
  refine mk_pr T 3 rfl sc9 (fun _ _ _ _ _ _ us hl => match us, hl with | [_, _], _ => rfl) (fun vs H Q E h => ?_) (fun cdv A outer s H vs Q E hr h => ?_)
  · obtain ⟨ds, d, ⟨x, y, es, rfl, _⟩, hI, _⟩ := h
    exact hI.len
  · obtain ⟨ds, d, ⟨x, y, es, rfl, rfl⟩, hI, k⟩ := h
    cases hI with
    | cons h1 hI =>
    cases hI with
    | cons h2 hI =>
    cases hI
    obtain ⟨f1, f2, f3, f4, f5, f6, f7⟩ := fI T
    exact w_one (s_ret (Ev.cast (ev_and (ev_isi f1 f4 (ev_var 0 rfl h1) kb8) fun _ => ev_and (ev_gt (ev_lenT f6 (ea_one (ev_var 0 rfl h1))) ev_int) fun _ => ev_and (ev_isi (d := .str x) f1 f5 (ev_ixT (ev_var 0 rfl h1) ev_int atI_0) kb9) fun _ => ev_one (ev_eqS (ev_ixT (ev_var 0 rfl h1) ev_int atI_0) (ev_var 1 rfl h2))) (by
      rw [decide_eq_true (by simp only [List.length_cons]; omega)]; simp)) k)
theorem sc11 : FnScope ["thing"] ["thing"] (defScope (top 11)) := ⟨rfl, rfl, rfl, by decide +kernel, rfl, by decide +kernel, by decide +kernel⟩
theorem pr_bits (T : Txt K mg) (F : Pr P w K mg base "are_between" 3 ["thing", "least", "most"] (spD K preAreB)) : Pr P w K mg base "are_bits_value" 4 ["thing"] (spD K preBits) := by
  refine mk_pr T 5 rfl sc11 (fun _ _ _ _ _ _ us hl => match us, hl with | [_], _ => rfl) (fun vs H Q E h => ?_) (fun cdv A outer s H vs Q E hr h => ?_)
  · obtain ⟨ds, d, ⟨is, rfl, _⟩, hI, _⟩ := h
    exact hI.len
  · obtain ⟨ds, d, ⟨is, rfl, hz, rfl⟩, hI, k⟩ := h
    cases hI with
    | cons h1 hI =>
    cases hI
    exact w_one (s_ret (ev_call F hr (ea_cons (ev_var 0 rfl h1) (ea_cons ev_int (ea_one ev_int))) ⟨_, _, _, rfl, hz, rfl⟩) k)
/-! ### machines looked at -/
def preStd (ds : List D) (d : D) : Prop := ∃ (n z : Nat) (r : Rw), ds = [.int n, .int z, rowD r] ∧ r.ok n z ∧ d = .bl true
def preMac (ds : List D) (d : D) : Prop := ∃ m : Mc, ds = [mD m] ∧ m.Ok 100000 ∧ d = .bl true
def preNeed (ds : List D) (d : D) : Prop := ∃ m : Mc, ds = [mD m] ∧ m.Ok 100000 ∧ d = .non
theorem sc26 : FnScope ["n", "many", "thing"] ["n", "many", "thing"] (defScope (top 26)) := ⟨rfl, rfl, rfl, by decide +kernel, rfl, by decide +kernel, by decide +kernel⟩
theorem pr_std (T : Txt K mg) (F : Pr P w K mg base "is_word" 1 ["thing", "word"] (spD K preWord)) (B : Pr P w K mg base "is_between" 2 ["thing", "least", "most"] (spD K preBetw)) : Pr P w K mg base "is_standing" 3 ["n", "many", "thing"] (spD K preStd) := by
  refine mk_pr T 12 rfl sc26 (fun _ _ _ _ _ _ us hl => match us, hl with | [_, _, _], _ => rfl) (fun vs H Q E h => ?_) (fun cdv A outer s H vs Q E hr h => ?_)
  · obtain ⟨ds, d, ⟨i, l, m, rfl, _⟩, hI, _⟩ := h
    exact hI.len
  · obtain ⟨ds, d, ⟨n, z, r, rfl, ok, rfl⟩, hI, k⟩ := h
    cases hI with
    | cons h1 hI =>
    cases hI with
    | cons h2 hI =>
    cases hI with
    | cons h3 hI =>
    cases hI
    obtain ⟨f1, f2, f3, f4, f5, f6, f7⟩ := fI T
    obtain ⟨t1, e1⟩ := T.toss
    obtain ⟨t2, e2⟩ := T.out
    have hr1 := hr.mono (show 1 ≤ 2 by decide)
    cases r with
    | toss x y =>
      obtain ⟨o1, o2⟩ := ok
      refine w_cons (s_if (et_val (ev_call F hr1 (ea_cons (ev_var 2 rfl h3) (ea_one (ev_gs e1))) ⟨_, _, _, rfl, rfl⟩)) (fun _ H1 s1 => ?_) fun q => absurd q (by decide))
      refine w_one (s_ret (Ev.cast (ev_and (ev_eqI (ev_lenT f6 (ea_one (ev_var 2 rfl (h3.ex s1)))) ev_int) fun _ => ev_and (ev_call B hr (ea_cons (ev_ixT (ev_var 2 rfl (h3.ex s1)) ev_int rfl) (ea_cons ev_int (ea_one (ev_sub (ev_var 1 rfl (h2.ex s1)) ev_int)))) ⟨_, _, _, rfl, rfl⟩)
        fun _ => ev_one (ev_call B hr (ea_cons (ev_ixT (ev_var 2 rfl (h3.ex s1)) ev_int rfl) (ea_cons ev_int (ea_one (ev_sub (ev_var 1 rfl (h2.ex s1)) ev_int)))) ⟨_, _, _, rfl, rfl⟩)) ?_) fun v H2 s2 hv => k v H2 (s1.trans s2) hv)
      simp [rowL]
      omega
    | out x =>
      have o1 : x < n := ok
      refine w_cons (s_if (et_val (ev_call F hr1 (ea_cons (ev_var 2 rfl h3) (ea_one (ev_gs e1))) ⟨_, _, _, rfl, rfl⟩)) (fun q => absurd q (by decide)) (fun _ H1 s1 => ?_))
      refine w_nil (w_one (s_ret (Ev.cast (ev_and (ev_call F hr1 (ea_cons (ev_var 2 rfl (h3.ex s1)) (ea_one (ev_gs e2))) ⟨_, _, _, rfl, rfl⟩) fun _ => ev_and (ev_eqI (ev_lenT f6 (ea_one (ev_var 2 rfl (h3.ex s1)))) ev_int)
        fun _ => ev_one (ev_call B hr (ea_cons (ev_ixT (ev_var 2 rfl (h3.ex s1)) ev_int rfl) (ea_cons ev_int (ea_one (ev_sub (ev_var 0 rfl (h1.ex s1)) ev_int)))) ⟨_, _, _, rfl, rfl⟩)) ?_) fun v H2 s2 hv => k v H2 (s1.trans s2) hv))
      simp [rowL, show (x : Int) ≤ (n : Int) - 1 by omega]
theorem sc27 : FnScope ["thing", "standing"] ["thing"] (defScope (top 27)) := ⟨rfl, rfl, rfl, by decide +kernel, rfl, by decide +kernel, by decide +kernel⟩
theorem pr_mac (T : Txt K mg) (F : Pr P w K mg base "is_standing" 3 ["n", "many", "thing"] (spD K preStd)) (B : Pr P w K mg base "is_between" 2 ["thing", "least", "most"] (spD K preBetw)) : Pr P w K mg base "is_machine_value" 4 ["thing"] (spD K preMac) := by
  refine mk_pr T 13 rfl sc27 (fun _ _ _ _ _ _ us hl => match us, hl with | [_], _ => rfl) (fun vs H Q E h => ?_) (fun cdv A outer s H vs Q E hr h => ?_)
  · obtain ⟨ds, d, ⟨m, rfl, _⟩, hI, _⟩ := h
    exact hI.len
  · obtain ⟨ds, d, ⟨m, rfl, ok, rfl⟩, hI, k⟩ := h
    cases hI with
    | cons h1 hI =>
    cases hI
    obtain ⟨f1, f2, f3, f4, f5, f6, f7⟩ := fI T
    obtain ⟨t3, e3⟩ := T.most
    have rows : ∀ (X : Cx) (σ : L2.St) (e : Expr) (k : Nat) (ps ps2 : Pos) (H : Hp), Ev X e σ H (mD m) → Ev X (.Subscript e (.Constant (.int 1) k ps) ps2) σ H (.tup (m.rows.map rowD)) := fun X σ e k ps ps2 H z => ev_ixT z ev_int rfl
    have hn1 := ok.n1
    have hn8 := ok.n8
    refine w_cons (s_if (t := false) (EvT.cast (EvW.t (ew_or (et_not (et_val (ev_isi f1 f4 (ev_var 0 rfl h1) kb8))) fun _ => ew_or (et_neI (ev_lenT f6 (ea_one (ev_var 0 rfl h1))) ev_int) fun _ => ew_or1 (et_not (et_val (ev_call B (hr.mono (by decide)) (ea_cons (ev_ixT (ev_var 0 rfl h1) ev_int rfl) (ea_cons ev_int (ea_one (ev_gi e3)))) ⟨_, _, _, rfl, rfl⟩))))) ?_)
      (fun q => nomatch q) fun _ H1 s1 => w_nil ?_)
    · simp
      omega
    refine w_cons (s_if (t := false) (EvT.cast (EvW.t (ew_or (et_not (et_val (ev_isi (d := .tup (m.rows.map rowD)) f1 f4 (rows _ _ _ _ _ _ _ (ev_var 0 rfl (h1.ex s1))) kb8))) fun _ => ew_or1 (et_eqD hr (rows _ _ _ _ _ _ _ (ev_var 0 rfl (h1.ex s1))) (ev_tup ea_nil) (n := 2) (m := 1) (by simp [D.sh, shs_map rowD_sh]) rfl (by simp [D.nb, nbs_map rowD_nb]) rfl))) ?_)
      (fun q => nomatch q) fun _ H2 s2 => w_nil ?_)
    · have := ok.pos
      cases e : m.rows with
      | nil => rw [e] at this; simp at this
      | cons a b => simp
    have hh := h1.ex (s1.trans s2)
    refine w_one (s_ret (Ev.cast (ev_all (bs := m.rows.map fun _ => true) f7 (el_lc sc27 [("standing", 1)] (fun _ => true) (fun j => .bl true) (fun _ => rfl) (wk_tup (rows _ _ _ _ _ _ _ (ev_var 0 rfl hh)) (pls_map rowD_pl _)) (fun _ _ s => Same.tx s) (by simpa using ok.le) ?_) ?_) ?_) fun v H3 s3 hv => k v H3 ((s1.trans s2).trans s3) hv)
    · intro j d v H3 s3 hj hv
      rw [List.getElem?_map] at hj
      cases e : m.rows[j]? with
      | none => rw [e] at hj; cases hj
      | some r =>
        rw [e] at hj
        cases hj
        refine ⟨_, fun Q2 q s H C cl fp => g_name sc27.nd 1 q, rfl, fun s H C cl fp => et_nil, fun _ s H C cl fp => ?_⟩
        exact ev_call F hr (ea_cons (ev_ixT (ev_var 0 rfl (hh.ex s3)) ev_int rfl) (ea_cons (ev_lenT f6 (ea_one (rows _ _ _ _ _ _ _ (ev_var 0 rfl (hh.ex s3))))) (ea_one (ev_var 1 rfl hv)))) ⟨m.n, m.rows.length, r, by rw [List.length_map], ok.row r (List.mem_of_getElem? e), rfl⟩
    · rw [List.length_map, kept_all, List.map_map]
      apply List.ext_getElem?
      intro i
      by_cases h : i < m.rows.length <;> simp [h]
    · simp
theorem sc28 : FnScope ["machine"] ["machine"] (defScope (top 28)) := ⟨rfl, rfl, rfl, by decide +kernel, rfl, by decide +kernel, by decide +kernel⟩
theorem pr_need (T : Txt K mg) (F : Pr P w K mg base "is_machine_value" 4 ["thing"] (spD K preMac)) : Pr P w K mg base "need_machine" 5 ["machine"] (spD K preNeed) := by
  refine mk_pr T 14 rfl sc28 (fun _ _ _ _ _ _ us hl => match us, hl with | [_], _ => rfl) (fun vs H Q E h => ?_) (fun cdv A outer s H vs Q E hr h => ?_)
  · obtain ⟨ds, d, ⟨m, rfl, _⟩, hI, _⟩ := h
    exact hI.len
  · obtain ⟨ds, d, ⟨m, rfl, ok, rfl⟩, hI, k⟩ := h
    cases hI with
    | cons h1 hI =>
    cases hI
    exact w_one (s_if (et_not (et_val (ev_call F hr (ea_one (ev_var 0 rfl h1)) ⟨m, rfl, ok, rfl⟩))) (fun q => nomatch q) fun _ H1 s1 => w_nil (k _ H1 s1 .non))
end
end Dr
set_option Elab.async false
set_option linter.all false
set_option maxRecDepth 100000
set_option maxHeartbeats 4000000
namespace Dr
open PySem PySem.Spec PyProof.Rows L2
section
variable {X : Cx} {σ : L2.St} {H H' : Hp} {a b c e f : Expr} {es : List Expr} {pos p1 : Pos} {d d1 d2 : D} {ds : List D} {i j : Int} {Z : Ends}
/-- x += e, ints -/
theorem s_augI {x : Str} (nd : X.N.Nodup) (k : Nat) (hx0 : σ[k]? = some (some (.int i))) (he : Ev X e σ H (.int j)) (h : ∀ H1, Same H H1 → Z.nx (σ.set k (some (.int (i + j)))) H1) (hi : X.N[k]? = some x := by rfl) (hx : Loc X.env.scope x := by first | exact .inl rfl | exact .inr rfl)
    (hf : X.fn x = true ∨ X.env.scope.names.lookup x = some .local := by first | exact .inl rfl | exact .inr rfl) : WS X (.AugAssign (.Name x p1) .Add e pos) Z σ H :=
  ⟨_, ps_aug nd hi hx pe_W ip_add hf, .int i, hx0, he.int H (Same.refl _) _ fun H1 s => ⟨i, j, rfl, rfl, h H1 s⟩⟩
end
def b1 (b : Bool) : Int := if b then 1 else 0
def bit (b : Bool) : D := .int (b1 b)
def btD (bs : List Bool) : D := .tup (bs.map bit)
theorem bit_pl (b : Bool) : (bit b).pl = true := rfl
theorem btD_pl (bs : List Bool) : (btD bs).pl = true := pls_map bit_pl bs
/-- from s with bits bs, t taken -/
def runM (m : Mc) : Nat → List Bool → Nat → Option (Nat × Nat)
  | s, [], t => match m.rows[s]? with
    | some (.out i) => some (i, t)
    | _ => none
  | s, c :: bs, t => match m.rows[s]? with
    | some (.out i) => some (i, t)
    | some (.toss a b) => runM m (if c then b else a) bs (t + 1)
    | none => none
def runD : Option (Nat × Nat) → D
  | none => .non
  | some (i, t) => .tup [.int i, .int t]
def preRunF (ds : List D) (d : D) : Prop := ∃ (m : Mc) (s : Nat) (bs : List Bool), ds = [mD m, .int s, btD bs] ∧ m.Ok 100000 ∧ s < m.rows.length ∧ d = runD (runM m s bs 0)
section
variable {P : Program} {w : World} {K : PySem.W.Frag} {mg : Str → Option Value} {base : Heap}
theorem ev_rows {X : Cx} {σ : L2.St} {H : Hp} {e : Expr} {k : Nat} {ps ps2 : Pos} {m : Mc} (z : Ev X e σ H (mD m)) : Ev X (.Subscript e (.Constant (.int 1) k ps) ps2) σ H (.tup (m.rows.map rowD)) := ev_ixT z ev_int rfl
theorem ev_mn {X : Cx} {σ : L2.St} {H : Hp} {e : Expr} {k : Nat} {ps ps2 : Pos} {m : Mc} (z : Ev X e σ H (mD m)) : Ev X (.Subscript e (.Constant (.int 0) k ps) ps2) σ H (.int m.n) := ev_ixT z ev_int rfl
theorem ev_row {X : Cx} {σ : L2.St} {H : Hp} {e b : Expr} {k : Nat} {ps ps2 ps3 : Pos} {m : Mc} {s : Nat} {r : Rw} (z : Ev X e σ H (mD m)) (hb : Ev X b σ H (.int s)) (hr : m.rows[s]? = some r) (hs : PlainIx b := by exact fun _ _ => rfl) : Ev X (.Subscript (.Subscript e (.Constant (.int 1) k ps) ps2) b ps3) σ H (rowD r) :=
  ev_ixT (ev_rows z) hb (atI_nat (j := s) (by rw [List.getElem?_map, hr]; rfl)) hs
def Rw.word : Rw → Str
  | .toss _ _ => "toss"
  | .out _ => "out"
theorem ev_word {X : Cx} {σ : L2.St} {H : Hp} {e : Expr} {k : Nat} {ps ps2 : Pos} {r : Rw} (z : Ev X e σ H (rowD r)) : Ev X (.Subscript e (.Constant (.int 0) k ps) ps2) σ H (.str r.word) := by
  cases r <;> exact ev_ixT z ev_int rfl
def Rw.isT : Rw → Bool
  | .toss _ _ => true
  | .out _ => false
theorem word_toss (r : Rw) : decide (r.word = "toss") = r.isT := by cases r <;> (show decide (_ = _) = _) <;> first | exact decide_eq_true rfl | exact decide_eq_false (show ¬ (("out" : Str) = "toss") by decide)
theorem word_out (r : Rw) : decide (r.word = "out") = !r.isT := by cases r <;> (show decide (_ = _) = _) <;> first | exact decide_eq_true rfl | exact decide_eq_false (show ¬ (("toss" : Str) = "out") by decide)
theorem ev_turn {X : Cx} {σ : L2.St} {H : Hp} {e b : Expr} {k : Nat} {ps ps2 ps3 : Pos} {x y : Nat} {c : Bool} (z : Ev X e σ H (rowD (.toss x y))) (hb : Ev X b σ H (bit c)) : Ev X (.Subscript e (.BinOp (.Constant (.int 1) k ps) .Add b ps2) ps3) σ H (.int ((if c = true then y else x : Nat) : Int)) :=
  ev_ixT z (ev_add ev_int hb) (by cases c <;> rfl)
theorem et_isToss {X : Cx} {σ : L2.St} {H : Hp} {e : Expr} {k : Nat} {ps ps2 ps3 ps4 : Pos} {r : Rw} {t : Tok} (hm : X.mg "TOSS" = some (.str "toss" t)) (z : Ev X e σ H (rowD r)) (hg : Gl X "TOSS" := by rfl) : EvT X (.Compare (.Subscript e (.Constant (.int 0) k ps) ps2) [.Eq] [.Name "TOSS" ps3] ps4) σ H r.isT :=
  (et_eqS (ev_word z) (ev_gs hm hg)).cast (word_toss r)
theorem et_isOut {X : Cx} {σ : L2.St} {H : Hp} {e : Expr} {k : Nat} {ps ps2 ps3 ps4 : Pos} {r : Rw} {t : Tok} (hm : X.mg "OUT" = some (.str "out" t)) (z : Ev X e σ H (rowD r)) (hg : Gl X "OUT" := by rfl) : EvT X (.Compare (.Subscript e (.Constant (.int 0) k ps) ps2) [.Eq] [.Name "OUT" ps3] ps4) σ H (!r.isT) :=
  (et_eqS (ev_word z) (ev_gs hm hg)).cast (word_out r)
theorem Mc.Ok.at {m : Mc} {z s : Nat} (ok : m.Ok z) (h : s < m.rows.length) : ∃ r, m.rows[s]? = some r ∧ r.ok m.n m.rows.length := ⟨m.rows[s], by simp [h], ok.row _ (List.getElem_mem h)⟩
theorem sc29 : FnScope ["machine", "first", "bits", "here", "taken"] ["machine", "first", "bits"] (defScope (top 29)) := ⟨rfl, rfl, rfl, by decide +kernel, rfl, by decide +kernel, by decide +kernel⟩
theorem pr_runf (T : Txt K mg) : Pr P w K mg base "run_from" 1 ["machine", "first", "bits"] (spD K preRunF) := by
  refine mk_pr T 15 rfl sc29 (fun _ _ _ _ _ _ us hl => match us, hl with | [_, _, _], _ => rfl) (fun vs H Q E h => ?_) (fun cdv A outer s H vs Q E hr h => ?_)
  · obtain ⟨ds, d, ⟨m, s, bs, rfl, _⟩, hI, _⟩ := h
    exact hI.len
  · obtain ⟨ds, d, ⟨m, s0, bs, rfl, ok, hs0, rfl⟩, hI, k⟩ := h
    cases hI with
    | cons h1 hI =>
    cases hI with
    | cons h2 hI =>
    cases hI with
    | cons h3 hI =>
    cases hI
    obtain ⟨tt, et⟩ := T.toss
    have fl : mg "len" = none := T.free _ (by decide +kernel)
    obtain ⟨r0, hr0, _⟩ := ok.at hs0
    refine w_cons (s_par sc29.nd 3 4 (ev_row (ev_var 0 rfl h1) (ev_var 1 rfl h2) hr0) ev_int fun v1 v2 H1 s1 hv1 hv2 => ?_)
    have e2 := hv2.intI
    subst e2
    refine w_cons (s_while (fun z σ H' => ∃ (r : Rw) (s t : Nat) (v : V), σ = [some _, some _, some _, some v, some (.int (t : Int))] ∧ Same H H' ∧ m.rows[s]? = some r ∧ Im K H' v (rowD r) ∧ t ≤ bs.length ∧ z = bs.length - t ∧ runM m s (bs.drop t) t = runM m s0 bs 0)
      bs.length ⟨r0, s0, 0, v1, rfl, s1, hr0, hv1, Nat.zero_le _, rfl, rfl⟩ ?_)
    rintro z σ H' ⟨r, s, t, v, rfl, sH, hr1, hv, ht, rfl, hrun⟩
    refine ⟨_, et_isToss et (ev_var 3 rfl hv), fun tr H2 s2 => ?_, fun tr H2 s2 => ?_⟩
    · cases r with
      | out i => cases tr
      | toss x y =>
      refine w_cons (s_if (et_eqI (ev_var 4 rfl (.int _)) (ev_lenT fl (ea_one (ev_var 2 rfl (h3.ex (sH.trans s2)))))) (fun q H3 s3 => ?_) fun q H3 s3 => w_nil ?_)
      · refine w_one (s_ret ev_non fun v' H4 s4 hv' => k v' H4 (((sH.trans s2).trans s3).trans s4) ?_)
        have e : t = bs.length := by
          have := of_decide_eq_true q
          rw [List.length_map] at this
          omega
        rw [e, List.drop_length] at hrun
        rw [← hrun]
        simp only [runM, hr1]
        exact hv'
      · have lt : t < bs.length := by
          have : ¬ (t : Int) = ((bs.map bit).length : Int) := by simpa using q
          rw [List.length_map] at this
          omega
        have sX := (sH.trans s2).trans s3
        have edrop : bs.drop t = bs[t] :: bs.drop (t + 1) := List.drop_eq_getElem_cons lt
        rw [edrop] at hrun
        simp only [runM, hr1] at hrun
        obtain ⟨o1, o2⟩ := ok.row _ (List.mem_of_getElem? hr1)
        have hn : (if bs[t] = true then y else x) < m.rows.length := by split <;> assumption
        obtain ⟨rn, hrn, _⟩ := ok.at hn
        refine w_cons (s_set sc29.nd 3 (ev_row (ev_var 0 rfl (h1.ex sX)) (ev_turn (c := bs[t]) (ev_var 3 rfl (hv.ex (s2.trans s3))) (ev_ixT (ev_var 2 rfl (h3.ex sX)) (ev_var 4 rfl (.int _)) (atI_nat (j := t) (by rw [List.getElem?_map, List.getElem?_eq_getElem lt]; rfl)))) hrn) fun v4 H4 s4 hv4 => ?_)
        refine w_one (s_augI sc29.nd 4 rfl ev_int fun H5 s5 => ?_)
        exact ⟨bs.length - (t + 1), by omega, rn, _, t + 1, v4, rfl, (sX.trans s4).trans s5, hrn, hv4.ex s5, lt, rfl, hrun⟩
    · cases r with
      | toss x y => cases tr
      | out i =>
      refine w_one (s_ret (ev_tup (ea_cons (ev_ixT (ev_var 3 rfl (hv.ex s2)) ev_int rfl) (ea_one (ev_var 4 rfl (.int _))))) fun v' H4 s4 hv' => k v' H4 ((sH.trans s2).trans s4) ?_)
      have : runM m s (bs.drop t) t = some (i, t) := by cases bs.drop t <;> simp [runM, hr1]
      rw [← hrun, this]
      exact hv'
end
end Dr
set_option Elab.async false
set_option linter.all false
set_option maxRecDepth 100000
set_option maxHeartbeats 4000000
namespace Dr
open PySem PySem.Spec PyProof.Rows L2
/-! ### ways_from, its table -/
def nx (m : Mc) (s : Nat) (b : Bool) : Option Nat := match m.rows[s]? with
  | some (.toss x y) => some (if b = true then y else x)
  | _ => none
abbrev St := List (Nat × List Bool)
def visit (m : Mc) (here : Nat) (b : Bool) (st : St) : St := match nx m here b with
  | some t => if hs st t = true then st else st ++ [(t, (lk st here).getD [] ++ [b])]
  | none => st
def wfStep (m : Mc) (here : Nat) (st : St) : St := visit m here true (visit m here false st)
def wfGo (m : Mc) : Nat → Nat → St → St
  | 0, _, st => st
  | n + 1, i, st => match st[i]? with
    | none => st
    | some p => wfGo m n (i + 1) (wfStep m p.1 st)
def ways (m : Mc) (first : Nat) : St := wfGo m m.rows.length 0 [(first, [])]
structure WfI (m : Mc) (st : St) : Prop where
  nd : (st.map (·.1)).Nodup
  lt : ∀ p ∈ st, p.1 < m.rows.length
  ln : ∀ p ∈ st, p.2.length ≤ st.length
theorem hs_mem {α : Type} {l : List (Nat × α)} {k : Nat} : hs l k = true ↔ k ∈ l.map (·.1) := by
  unfold hs
  rw [List.any_eq_true, List.mem_map]
  constructor
  · rintro ⟨p, h1, h2⟩; exact ⟨p, h1, of_decide_eq_true h2⟩
  · rintro ⟨p, h1, h2⟩; exact ⟨p, h1, decide_eq_true h2⟩
theorem lk_mem {α : Type} {l : List (Nat × α)} {k : Nat} {v : α} (h : lk l k = some v) : (k, v) ∈ l := by
  unfold lk at h
  rw [Option.map_eq_some_iff] at h
  obtain ⟨p, h1, h2⟩ := h
  have := List.find?_some h1
  have e : p.1 = k := of_decide_eq_true this
  subst e h2
  exact List.mem_of_find?_eq_some h1
theorem lk_of {α : Type} {l : List (Nat × α)} (nd : (l.map (·.1)).Nodup) {p : Nat × α} (h : p ∈ l) : lk l p.1 = some p.2 := by
  induction l with
  | nil => cases h
  | cons q r ih =>
    rw [List.map_cons, List.nodup_cons] at nd
    unfold lk
    rcases List.mem_cons.mp h with rfl | h
    · simp
    · have ne : q.1 ≠ p.1 := fun e => nd.1 (by rw [e]; exact List.mem_map_of_mem h)
      have := ih nd.2 h
      unfold lk at this
      simp [ne, this]
theorem nx_lt {m : Mc} {z s t : Nat} {b : Bool} (ok : m.Ok z) (h : nx m s b = some t) : t < m.rows.length := by
  unfold nx at h
  cases e : m.rows[s]? with
  | none => rw [e] at h; cases h
  | some r =>
    rw [e] at h
    have := ok.row r (List.mem_of_getElem? e)
    cases r with
    | out i => cases h
    | toss x y =>
      obtain ⟨h1, h2⟩ := this
      obtain rfl := Option.some.inj h
      split <;> assumption
theorem visit_i {m : Mc} {z here : Nat} {b : Bool} {st : St} (ok : m.Ok z) (w : WfI m st) : WfI m (visit m here b st) ∧ ∃ r, visit m here b st = st ++ r := by
  unfold visit
  cases e : nx m here b with
  | none => exact ⟨w, [], by simp⟩
  | some t =>
    simp only
    split
    · exact ⟨w, [], by simp⟩
    · rename_i hh
      refine ⟨⟨?_, ?_, ?_⟩, _, rfl⟩
      · rw [List.map_append, List.nodup_append]
        refine ⟨w.nd, by simp, fun a ha c hc => ?_⟩
        simp at hc
        subst hc
        rintro rfl
        exact hh (hs_mem.mpr ha)
      · intro p hp
        rcases List.mem_append.mp hp with hp | hp
        · exact w.lt p hp
        · rw [List.mem_singleton.mp hp]; exact nx_lt ok e
      · intro p hp
        rw [List.length_append, List.length_singleton]
        rcases List.mem_append.mp hp with hp | hp
        · exact Nat.le_succ_of_le (w.ln p hp)
        · rw [List.mem_singleton.mp hp]
          simp only [List.length_append, List.length_singleton]
          cases q : lk st here with
          | none => simp
          | some v => simpa using w.ln _ (lk_mem q)
theorem nodup_sub {α : Type} [DecidableEq α] : ∀ (l t : List α), l.Nodup → (∀ x ∈ l, x ∈ t) → l.length ≤ t.length
  | [], _, _, _ => Nat.zero_le _
  | a :: l, t, nd, h => by
    obtain ⟨n1, n2⟩ := List.nodup_cons.mp nd
    have ha : a ∈ t := h a (List.mem_cons_self ..)
    have ih := nodup_sub l (t.erase a) n2 fun y hy => (List.mem_erase_of_ne (fun e : y = a => n1 (by rw [← e]; exact hy))).mpr (h y (List.mem_cons_of_mem _ hy))
    rw [List.length_erase_of_mem ha] at ih
    have : 0 < t.length := List.length_pos_of_mem ha
    simp only [List.length_cons]
    omega
theorem nodup_len {l : List Nat} {n : Nat} (nd : l.Nodup) (h : ∀ x ∈ l, x < n) : l.length ≤ n := by
  have := nodup_sub l (List.range n) nd (fun x m => List.mem_range.mpr (h x m))
  simpa using this
theorem WfI.len {m : Mc} {st : St} (w : WfI m st) : st.length ≤ m.rows.length := by
  have := nodup_len (n := m.rows.length) w.nd (fun x hx => by
    obtain ⟨p, h1, rfl⟩ := List.mem_map.mp hx
    exact w.lt p h1)
  simpa using this
def keyD {α : Type} (st : List (Nat × α)) : List D := st.map fun p => D.int (p.1 : Nat)
theorem keyD_pl {α : Type} (st : List (Nat × α)) : D.pls (keyD st) = true := pls_map (fun _ => rfl) _
def preWays (ds : List D) (d : D) : Prop := ∃ (m : Mc) (s : Nat), ds = [mD m, .int s] ∧ m.Ok 1000 ∧ s < m.rows.length ∧ d = dcD (mv btD (ways m s))
section
variable {P : Program} {w : World} {K : PySem.W.Frag} {mg : Str → Option Value} {base : Heap}
theorem mv_pl {α : Type} {f : α → D} (h : ∀ a, (f a).pl = true) (l : List (Nat × α)) : ∀ p ∈ mv f l, p.2.pl = true := fun p hp => by
  obtain ⟨q, _, rfl⟩ := List.mem_map.mp hp
  exact h _
theorem mv_len {α β : Type} (f : α → β) (l : List (Nat × α)) : (mv f l).length = l.length := by simp [mv]
theorem sc30 : FnScope ["machine", "first", "found", "order", "at", "here", "bit", "there"] ["machine", "first"] (defScope (top 30)) := ⟨rfl, rfl, rfl, by decide +kernel, rfl, by decide +kernel, by decide +kernel⟩
theorem ev_bits {X : Cx} {σ : L2.St} {H : Hp} {ps ps1 ps2 : Pos} {k k1 k2 : Nat} : Ev X (.Tuple [.Constant (.int 0) k1 ps1, .Constant (.int 1) k2 ps2] k ps) σ H (.tup ([false, true].map bit)) := ev_tup (ea_cons ev_int (ea_one ev_int))
theorem pr_ways (T : Txt K mg) : Pr P w K mg base "ways_from" 1 ["machine", "first"] (spD K preWays) := by
  refine mk_pr T 16 rfl sc30 (fun _ _ _ _ _ _ us hl => match us, hl with | [_, _], _ => rfl) (fun vs H Q E h => ?_) (fun cdv A outer s H vs Q E hr h => ?_)
  · obtain ⟨ds, d, ⟨m, s, rfl, _⟩, hI, _⟩ := h
    exact hI.len
  · obtain ⟨ds, d, ⟨m, s0, rfl, ok, hs0, rfl⟩, hI, k⟩ := h
    cases hI with
    | cons h1 hI =>
    cases hI with
    | cons h2 hI =>
    cases hI
    have e2 := h2.intI
    subst e2
    obtain ⟨tt, et⟩ := T.toss
    have fl : mg "len" = none := T.free _ (by decide +kernel)
    have ok' : m.rows.length ≤ 1000 := ok.le
    refine w_cons (s_par3 sc30.nd 2 3 4 (wa_cons (we_disp1 (n := s0) (ev_var 1 rfl (.int _)) (ev_tup ea_nil) fun p H1 hp s1 hD => wa_cons (we_evl (el_lst (ea_one (ev_var 1 rfl (.int _)))) fun q H2 hq s2 hL => wa_cons (we_ev ev_int fun v H3 s3 hv => wa_nil ⟨_, _, _, rfl, ?_⟩)))))
    have e4 := hv.intI
    subst e4
    have npq : p ≠ q := by
      obtain ⟨kv, z, _⟩ := hD
      rintro rfl
      rw [hq] at z; cases z
    have hq0 : H q = none := s1.free hq
    refine w_cons (s_while (fun z σ H' => ∃ (st : St) (i : Nat) (x5 x6 x7 : Option V), σ = [some _, some _, some (.ref p), some (.ref q), some (.int (i : Int)), x5, x6, x7] ∧ Same H H' ∧ Dk K H' p (mv btD st) ∧ LsI K H' q (keyD st) ∧ WfI m st ∧
        i ≤ st.length ∧ z = m.rows.length - i ∧ wfGo m z i st = ways m s0)
      m.rows.length ⟨[(s0, [])], 0, none, none, none, rfl, (s1.trans s2).trans s3, (hD.ex s2).ex s3, hL.ex s3, ⟨by simp, by simpa using hs0, by simp⟩, Nat.zero_le _, rfl, rfl⟩ ?_)
    rintro z σ H' ⟨st, i, x5, x6, x7, rfl, sH, hDk, hLs, wf, hi, rfl, hgo⟩
    refine ⟨_, et_lt (ev_var 4 rfl (.int _)) (ev_lenL fl (vv_var 3 rfl) hLs), fun tr H4 s4 => ?_, fun tr H4 s4 => ?_⟩
    · have lt : i < st.length := by
        have := of_decide_eq_true tr
        rw [keyD, List.length_map] at this
        omega
      have wl := wf.len
      obtain ⟨p0, hp0⟩ : ∃ p0, st[i]? = some p0 := ⟨st[i], by simp [lt]⟩
      obtain ⟨here, val⟩ := p0
      have hmem : (here, val) ∈ st := List.mem_of_getElem? hp0
      have hlt : here < m.rows.length := wf.lt _ hmem
      obtain ⟨r, hr1, hrok⟩ := ok.at hlt
      refine w_cons (s_set sc30.nd 5 (ev_ixL (d := .int (here : Nat)) (vv_var 3 rfl) (hLs.ex s4) (ev_var 4 rfl (.int _)) (atI_nat (by rw [keyD, List.getElem?_map, hp0]; rfl))) fun v5 H5 s5 hv5 => ?_)
      have e5 := hv5.intI
      subst e5
      refine w_cons (s_augI sc30.nd 4 rfl ev_int fun H6 s6 => ?_)
      have gox : wfGo m (m.rows.length - (i + 1)) (i + 1) (wfStep m here st) = ways m s0 := by
        rw [← hgo, show m.rows.length - i = m.rows.length - (i + 1) + 1 by omega]
        simp only [wfGo, hp0]
      have s46 := (s4.trans s5).trans s6
      refine w_one (s_if (et_isToss et (ev_row (ev_var 0 rfl (h1.ex (sH.trans s46))) (ev_var 5 rfl (.int _)) hr1)) (fun q7 H7 s7 => ?_) fun q7 H7 s7 => w_nil ?_)
      · cases r with
        | out j => cases q7
        | toss x y =>
        have sA := (sH.trans s46).trans s7
        refine w_one (s_for (wk_tup ev_bits rfl) fun H8 s8 => ⟨fun j σ' H' => ∃ (st' : St) (x6 x7 : Option V), σ' = [some _, some _, some (.ref p), some (.ref q), some (.int ((i : Int) + 1)), some (.int (here : Int)), x6, x7] ∧ Same H H' ∧ Tx K H8 H' ∧ Dk K H' p (mv btD st') ∧ LsI K H' q (keyD st') ∧ WfI m st' ∧
            (here, val) ∈ st' ∧ i + 1 ≤ st'.length ∧ ((j = 0 ∧ st' = st) ∨ (j = 1 ∧ st' = visit m here false st) ∨ (j = 2 ∧ st' = wfStep m here st)), ⟨st, x6, x7, rfl, sA.trans s8, .refl, (hDk.ex (s46.trans s7)).ex s8, (hLs.ex (s46.trans s7)).ex s8, wf, hmem, lt, .inl ⟨rfl, rfl⟩⟩, fun j σ' H' hP => ?_, ?_, ?_⟩)
        · obtain ⟨_, _, _, _, _, t, _⟩ := hP
          exact t
        · rintro j d v σ' H9 H10 hj ⟨st', y6, y7, rfl, sH9, tx9, hDk9, hLs9, wf9, hmem9, lt9, hst⟩ s10 hv
          obtain ⟨b, hb, rfl⟩ : ∃ b, [false, true][j]? = some b ∧ d = bit b := by
            rw [List.getElem?_map] at hj
            cases e : [false, true][j]? with
            | none => rw [e] at hj; cases hj
            | some b => rw [e] at hj; exact ⟨b, rfl, (Option.some.inj hj).symm⟩
          have ev := hv.intI
          subst ev
          refine g_name sc30.nd 6 ?_
          have sB := sH9.trans s10
          have hx : nx m here b = some (if b = true then y else x) := by simp [nx, hr1]
          have hst2 : (j + 1 = 1 ∧ visit m here b st' = visit m here false st) ∨ (j + 1 = 2 ∧ visit m here b st' = wfStep m here st) := by
            rcases hst with ⟨rfl, rfl⟩ | ⟨rfl, rfl⟩ | ⟨rfl, rfl⟩
            · have : b = false := (Option.some.inj hb).symm
              exact .inl ⟨rfl, by rw [this]⟩
            · have : b = true := (Option.some.inj hb).symm
              exact .inr ⟨rfl, by rw [this]; rfl⟩
            · cases hb
          obtain ⟨wv, rv, erv⟩ := visit_i (here := here) (b := b) ok wf9
          refine w_cons (s_set sc30.nd 7 (ev_turn (ev_row (ev_var 0 rfl (h1.ex sB)) (ev_var 5 rfl (.int _)) hr1) (ev_var 6 rfl (.int _))) fun v7 H11 s11 hv7 => ?_)
          have e7 := hv7.intI
          subst e7
          have hDk11 := (hDk9.ex s10).ex s11
          have hLs11 := (hLs9.ex s10).ex s11
          have tx11 : Tx K H8 H11 := (tx9.trans (Same.tx s10)).trans (Same.tx s11)
          have lt9' : st'.length ≤ 1000 := Nat.le_trans wf9.len ok'
          refine w_one (s_if (et_notin hr (n := if b = true then y else x) (ev_var 7 rfl (.int _)) (ev_var 2 rfl hDk11.im)) (fun q12 H12 s12 => ?_) fun q12 H12 s12 => w_nil ?_)
          · have hno : hs st' (if b = true then y else x) = false := by
              rw [mv_hs] at q12
              simpa using q12
            have hval := lk_of wf9.nd hmem9
            have hvl : val.length ≤ 1000 := Nat.le_trans (wf9.ln _ hmem9) lt9'
            have hDk12 := hDk11.ex s12
            have hLs12 := hLs11.ex s12
            have hvis : visit m here b st' = st' ++ [(if b = true then y else x, val ++ [b])] := by
              unfold visit
              rw [hx]
              simp only [hno, Bool.false_eq_true, if_false, hval, Option.getD_some]
            refine w_cons (s_dput hr (l := mv btD st') (n := if b = true then y else x) (d := btD (val ++ [b])) (Ev.cast (ev_cat (ds := val.map bit) (es' := [bit b]) (ev_dget hr (n := here) (ev_var 2 rfl hDk12.im) (ev_var 5 rfl (.int _)) (by rw [mv_lk, hval]; rfl)) (ev_tup (ea_one (ev_var 6 rfl (.int _)))) (by rw [sizeLine_eq]; simp; omega)) (by rw [btD, List.map_append]; rfl)) (vv_var 2 rfl) hDk12 (ev_var 7 rfl (.int _)) (btD_pl _) (mv_pl btD_pl _) (by rw [mv_len]; omega) fun H13 m13 tx13 hDk13 => ?_)
            rw [← mv_pt, pt_new hno] at hDk13
            have hLs13 := hLs12.mu (Ne.symm npq) m13 tx13 (keyD_pl _)
            have s13 := m13.same ((sB.trans s11).trans s12) hp
            refine w_one (s_app (vv_var 3 rfl) hLs13 (ev_var 7 rfl (.int _)) rfl (keyD_pl _) (by simp [keyD]; omega) fun H14 m14 tx14 hLs14 => ?_)
            refine ⟨st' ++ [(if b = true then y else x, val ++ [b])], _, _, rfl, m14.same s13 hq0, ((tx11.trans (Same.tx s12)).trans tx13).trans tx14, hDk13.mu npq m14 tx14 (mv_pl btD_pl _), ?_, by rw [← hvis]; exact wv, List.mem_append_left _ hmem9, ?_, ?_⟩
            · have : keyD (st' ++ [(if b = true then y else x, val ++ [b])]) = keyD st' ++ [D.int ((if b = true then y else x : Nat) : Int)] := by simp [keyD]
              rw [this]; exact hLs14
            · rw [List.length_append]; omega
            · rw [← hvis]; exact .inr hst2
          · have hyes : hs st' (if b = true then y else x) = true := by
              rw [mv_hs] at q12
              simpa using q12
            have hvis : visit m here b st' = st' := by
              unfold visit
              rw [hx]
              simp only [hyes, if_true]
            exact ⟨st', _, _, rfl, (sB.trans s11).trans s12, tx11.trans (Same.tx s12), hDk11.ex s12, hLs11.ex s12, wf9, hmem9, lt9, by rw [hvis] at hst2; exact .inr hst2⟩
        · rintro σ' H9 ⟨st', y6, y7, rfl, sH9, tx9, hDk9, hLs9, wf9, hmem9, lt9, hst⟩
          have est : st' = wfStep m here st := by
            rcases hst with ⟨e, _⟩ | ⟨e, _⟩ | ⟨_, e⟩
            · cases e
            · cases e
            · exact e
          subst est
          exact ⟨m.rows.length - (i + 1), by omega, _, i + 1, _, _, _, rfl, sH9, hDk9, hLs9, wf9, lt9, rfl, gox⟩
      · cases r with
        | toss x y => cases q7
        | out j =>
        have est : wfStep m here st = st := by simp [wfStep, visit, nx, hr1]
        rw [est] at gox
        exact ⟨m.rows.length - (i + 1), by omega, _, i + 1, _, _, _, rfl, (sH.trans s46).trans s7, hDk.ex (s46.trans s7), hLs.ex (s46.trans s7), wf, lt, rfl, gox⟩
    · have ge : st.length ≤ i := by
        have := of_decide_eq_false tr
        rw [keyD, List.length_map] at this
        omega
      have : wfGo m (m.rows.length - i) i st = st := by
        cases m.rows.length - i with
        | zero => rfl
        | succ n => simp [wfGo, List.getElem?_eq_none ge]
      refine w_one (s_ret (ev_var 2 rfl (hDk.ex s4).im) fun v5 H5 s5 hv5 => k v5 H5 ((sH.trans s4).trans s5) ?_)
      rw [← hgo, this]
      exact hv5
end
end Dr
set_option Elab.async false
set_option linter.all false
set_option maxRecDepth 100000
set_option maxHeartbeats 4000000
set_option pp.deepTerms false
set_option pp.maxSteps 400
namespace Dr
open PySem PySem.Spec PyProof.Rows L2
section
variable {X : Cx} {σ : L2.St} {H H' : Hp} {a b c e f : Expr} {es : List Expr} {pos p1 p2 apos cpos : Pos} {d d1 d2 : D} {ds : List D} {n k : Nat} {Z : Ends}
theorem EvL.cast {ds2 : List D} (h : EvL X e σ H ds) (q : ds = ds2) : EvL X e σ H ds2 := q ▸ h
/-- l[j], j from 0 on, the value before an l[j] += e -/
def rNth (K : PySem.W.Frag) : R2 := fun x y H Q => ∃ (p : Addr) (xs : List V) (j : Nat) (v : V), x = .ref p ∧ y = .int (j : Int) ∧ SqL K H p xs ∧ xs[j]? = some v ∧ Q v H
theorem pget_nth : PGet X (rNth X.K) := by
  rintro pins s σ H o i ov iv Q I ro ri ⟨p, xs, j, v, rfl, rfl, sq, e, q⟩
  obtain ⟨t, rfl⟩ := ri
  obtain rfl : ov = Value.ref p := ro
  obtain ⟨its, rv, at', few⟩ := I.list sq
  obtain ⟨u, hu, ru⟩ := rv.get e
  have lt := (List.getElem?_eq_some_iff.mp e).1
  have big := line63
  exact wpAny_getItem_list at'.isList (Int.natCast_nonneg j) (by omega) (x := u) (by simpa using hu) ⟨v, H, I, ru, q⟩
/-- l[j] += e, ints -/
theorem s_augL {p : Addr} {is : List Int} {j : Nat} {x y : Int} (ha : EvV X a σ H (.ref p)) (hp : LsI X.K H p (is.map D.int)) (hb : Ev X b σ H (.int (j : Int))) (hx : is[j]? = some x) (he : Ev X e σ H (.int y)) (h : ∀ H', Mu p H H' → Tx X.K H H' → LsI X.K H' p ((is.set j (x + y)).map D.int) → Z.nx σ H')
    (hau : ∀ ov iv new, augStore b ov iv new = (do holding [new, ov, iv] (setItem ov iv new); release [new, ov, iv] []; pure .next) := by intros; rfl) : WS X (.AugAssign (.Subscript a b p1) .Add e pos) Z σ H :=
  ⟨_, ps_augS pe_W pe_W pget_nth pe_W ip_add set_list hau, ha H (Same.refl _) _ fun H1 s1 => hb.int H1 s1 _ fun H2 s2 => by
    obtain ⟨xs, h1, h2⟩ := hp.ex (s1.trans s2)
    have exs := h2.ints
    subst exs
    refine ⟨p, _, j, .int x, rfl, rfl, .of h1, by rw [List.getElem?_map, hx]; rfl, he.int H2 (s1.trans s2) _ fun H3 s3 => ⟨x, y, rfl, rfl, p, _, (j : Int), j, rfl, rfl, s3 _ _ h1, ?_, h _ ?_ ((Same.tx ((s1.trans s2).trans s3)).trans (Tx.put (s3 _ _ h1) trivial)) ⟨_, upd_same, ?_⟩⟩⟩
    · have := (List.getElem?_eq_some_iff.mp hx).1
      unfold ixN
      rw [if_pos (by omega), if_pos (by rw [List.length_map]; omega), Int.toNat_natCast]
    · unfold Mu
      rw [rm_upd]
      exact rm_same ((s1.trans s2).trans s3)
    · rw [show (is.map V.int).set j (V.int (x + y)) = (is.set j (x + y)).map V.int by rw [List.map_set]]
      exact ims_ints _⟩
/-- t[1:] -/
theorem ev_sl1 {m : Nat} {ps : Pos} (ha : Ev X a σ H (.tup (d :: ds))) : Ev X (.Subscript a (.Slice (some (.Constant (.int 1) m ps)) none none p2) pos) σ H (.tup ds) :=
  fun H1 s Q q => .of (pe_slice sl_tupA pe_W (po_some pe_W) po_none) (ha H1 s _ fun v H2 s2 hv => (ev_int (i := 1)).int H2 (Same.refl _) _ fun H3 s3 => ⟨1, rfl, by
    obtain ⟨p, xs, rfl, h1, h2⟩ := (hv.ex s3).tupI
    cases h2 with
    | @cons v vs _ _ h2 h3 =>
    have e1 : HT.sIx (v :: vs).length 0 (some 1) = 1 := by
      have := HT.sIx_nat (v :: vs).length 0 1
      simp only [List.length_cons] at this ⊢
      rw [show ((1 : Nat) : Int) = 1 from rfl] at this
      rw [this]; omega
    refine ⟨p, _, rfl, h1, fun z => ?_, fun _ r hr => ?_⟩
    · rw [e1] at z; exact absurd z.1 (by decide)
    · have e2 : cutV (v :: vs) (some 1) none = vs := by
        unfold cutV
        rw [e1, HT.sIx_none]
        simp
      rw [e2]
      exact q _ _ ((s2.trans s3).trans (Same.new hr)) (.tup (.of upd_same) (h3.ex (Same.new hr)))⟩)
end
def nI (n : Nat) : D := .int (n : Nat)
theorem nI_pl (n : Nat) : (nI n).pl = true := rfl
/-! ### raw_reached -/
def reached (m : Mc) : List Nat := (List.range m.rows.length).filter fun s => hs (ways m 0) s
theorem wfGo_i {m : Mc} {z : Nat} (ok : m.Ok z) : ∀ (n i : Nat) (st : St), WfI m st → WfI m (wfGo m n i st)
  | 0, _, _, w => w
  | n + 1, i, st, w => by
    unfold wfGo
    cases st[i]? with
    | none => exact w
    | some p => exact wfGo_i ok n _ _ (visit_i ok (visit_i ok w).1).1
theorem ways_i {m : Mc} {z s : Nat} (ok : m.Ok z) (h : s < m.rows.length) : WfI m (ways m s) := wfGo_i ok _ _ _ ⟨by simp, by simpa using h, by simp⟩
theorem reached_perm {m : Mc} {z : Nat} (ok : m.Ok z) : ((ways m 0).map (·.1)).Perm (reached m) := by
  have w := ways_i ok ok.pos
  refine (List.perm_ext_iff_of_nodup w.nd (List.nodup_range.sublist List.filter_sublist)).mpr fun x => ?_
  show _ ↔ x ∈ (List.range m.rows.length).filter fun s => hs (ways m 0) s
  rw [List.mem_filter, List.mem_range, hs_mem]
  constructor
  · intro h
    refine ⟨?_, h⟩
    obtain ⟨p, h1, rfl⟩ := List.mem_map.mp h
    exact w.lt p h1
  · exact fun h => h.2
theorem range_sorted (n : Nat) : (List.range n).Pairwise (· ≤ ·) := by
  have := List.pairwise_lt_range (n := n)
  exact this.imp Nat.le_of_lt
theorem sorted_reach {m : Mc} {z : Nat} {js : List Int} (ok : m.Ok z) (h : js.Perm (((ways m 0).map (·.1)).map fun i : Nat => (i : Int))) (hs : js.Pairwise (· ≤ ·)) : js = (reached m).map fun i : Nat => (i : Int) := by
  refine List.Perm.eq_of_pairwise (le := (· ≤ ·)) (fun a b _ _ h1 h2 => Int.le_antisymm h1 h2) hs ?_ (h.trans ((reached_perm ok).map _))
  rw [List.pairwise_map]
  exact ((range_sorted _).filter _).imp fun h => by omega
def preReach (ds : List D) (d : D) : Prop := ∃ (m : Mc), ds = [mD m] ∧ m.Ok 1000 ∧ d = .lst ((reached m).map nI)
section
variable {P : Program} {w : World} {K : PySem.W.Frag} {mg : Str → Option Value} {base : Heap}
theorem sc31 : FnScope ["machine"] ["machine"] (defScope (top 31)) := ⟨rfl, rfl, rfl, by decide +kernel, rfl, by decide +kernel, by decide +kernel⟩
theorem pr_reach (T : Txt K mg) (F : Pr P w K mg base "ways_from" 1 ["machine", "first"] (spD K preWays)) : Pr P w K mg base "raw_reached" 2 ["machine"] (spD K preReach) := by
  refine mk_pr T 17 rfl sc31 (fun _ _ _ _ _ _ us hl => match us, hl with | [_], _ => rfl) (fun vs H Q E h => ?_) (fun cdv A outer s H vs Q E hr h => ?_)
  · obtain ⟨ds, d, ⟨m, rfl, _⟩, hI, _⟩ := h
    exact hI.len
  · obtain ⟨ds, d, ⟨m, rfl, ok, rfl⟩, hI, k⟩ := h
    cases hI with
    | cons h1 hI =>
    cases hI
    have f1 : mg "list" = none := T.free _ (by decide +kernel)
    have f2 : mg "sorted" = none := T.free _ (by decide +kernel)
    have e : (mv btD (ways m 0)).map (fun q => D.int (q.1 : Nat)) = (((ways m 0).map (·.1)).map fun i : Nat => (i : Int)).map D.int := by simp [mv]
    refine w_one (s_retW (wl_sortI (is := ((ways m 0).map (·.1)).map fun i : Nat => (i : Int)) f2 (EvL.cast (el_keys f1 (ev_call F hr (ea_cons (ev_var 0 rfl h1) (ea_one ev_int)) ⟨m, 0, rfl, ok, ok.pos, rfl⟩)) e) fun js p H1 hj1 hj2 hp s1 hL => k _ H1 s1 ?_))
    have ej := sorted_reach ok hj1 hj2
    subst ej
    have := hL.im
    rwa [List.map_map] at this
/-! ### levels -/
def nextL (m : Mc) (lvl : List (Nat × Nat)) : List (Nat × Nat) := lvl.foldl (fun acc p => match m.rows[p.1]? with
  | some (Rw.toss x y) => let acc := pt acc x ((lk acc x).getD 0 + p.2); pt acc y ((lk acc y).getD 0 + p.2)
  | _ => acc) []
def endL (m : Mc) (lvl : List (Nat × Nat)) : List Nat := lvl.foldl (fun acc p => match m.rows[p.1]? with
  | some (Rw.out i) => acc.set i (acc.getD i 0 + p.2)
  | _ => acc) (List.replicate m.n 0)
def lvD (lvl : List (Nat × Nat)) : D := dcD (mv nI lvl)
/-- keys below n, each once -/
structure TabOk {α : Type} (n : Nat) (l : List (Nat × α)) : Prop where
  lt : ∀ p ∈ l, p.1 < n
  nd : (l.map (·.1)).Nodup
theorem TabOk.len {α : Type} {n : Nat} {l : List (Nat × α)} (h : TabOk n l) : l.length ≤ n := by
  have := nodup_len (n := n) h.nd (fun x hx => by
    obtain ⟨p, h1, rfl⟩ := List.mem_map.mp hx
    exact h.lt p h1)
  simpa using this
theorem TabOk.nil {α : Type} {n : Nat} : TabOk n ([] : List (Nat × α)) := ⟨fun p m => (nomatch m), List.nodup_nil⟩
theorem pt_keys {α : Type} (l : List (Nat × α)) (k : Nat) (v : α) : (pt l k v).map (·.1) = if hs l k = true then l.map (·.1) else l.map (·.1) ++ [k] := by
  unfold pt
  split
  · rw [List.map_map]
    refine List.map_congr_left fun p _ => ?_
    simp only [Function.comp]
    split <;> rfl
  · simp
theorem TabOk.pt {α : Type} {n : Nat} {l : List (Nat × α)} (h : TabOk n l) {k : Nat} (hk : k < n) (v : α) : TabOk n (pt l k v) := by
  have e := pt_keys l k v
  have mem : ∀ x ∈ (Dr.pt l k v).map (·.1), x < n := fun x hx => by
    rw [e] at hx
    split at hx
    · obtain ⟨p, h1, rfl⟩ := List.mem_map.mp hx
      exact h.lt p h1
    · rcases List.mem_append.mp hx with hx | hx
      · obtain ⟨p, h1, rfl⟩ := List.mem_map.mp hx
        exact h.lt p h1
      · rw [List.mem_singleton.mp hx]; exact hk
  refine ⟨fun p hp => mem p.1 (List.mem_map_of_mem hp), ?_⟩
  rw [e]
  split
  · exact h.nd
  · rename_i hh
    rw [List.nodup_append]
    refine ⟨h.nd, by simp, fun a ha c hc => ?_⟩
    rw [List.mem_singleton.mp hc]
    rintro rfl
    exact hh (hs_mem.mpr ha)
abbrev LvOk (m : Mc) (lvl : List (Nat × Nat)) : Prop := TabOk m.rows.length lvl
theorem nextL_ok {m : Mc} {z : Nat} (ok : m.Ok z) (lvl : List (Nat × Nat)) : LvOk m (nextL m lvl) := by
  suffices h : ∀ (lvl acc : List (Nat × Nat)), LvOk m acc → LvOk m (lvl.foldl (fun acc p => match m.rows[p.1]? with
      | some (Rw.toss x y) => let acc := pt acc x ((lk acc x).getD 0 + p.2); pt acc y ((lk acc y).getD 0 + p.2)
      | _ => acc) acc) from h lvl [] .nil
  intro lvl
  induction lvl with
  | nil => intro acc h; exact h
  | cons p r ih =>
    intro acc h
    refine ih _ ?_
    dsimp only
    split
    · rename_i x y e
      obtain ⟨h1, h2⟩ := ok.row _ (List.mem_of_getElem? e)
      exact (h.pt h1 _).pt h2 _
    · exact h
theorem Lk.fin {H H0 HL H1 H2 : Hp} {U : Hp → Hp} {dd p : Addr} {o : Obj} {kvs : List (Key × V)} (L : Lk dd o kvs H0 HL U) (s1 : Same HL H1) (mu : Mu p H1 H2) (ne : dd ≠ p) (h0 : Same H H0) (hp : H p = Option.none) : H2 dd = HL dd ∧ Same H (U H2) := by
  have e : H2 dd = HL dd := by
    have := mu.at ne (s1 _ _ L.lk)
    rw [this, L.lk]
  refine ⟨e, fun b u hb => ?_⟩
  have nbp : b ≠ p := fun z => by subst z; rw [hp] at hb; cases hb
  by_cases q : b = dd
  · subst q
    rw [L.un _ e]; exact h0 _ _ hb
  · rw [L.uo _ _ q]
    exact mu.at nbp (s1 _ _ (by rw [L.ot _ q]; exact h0 _ _ hb))
def preFirst (ds : List D) (d : D) : Prop := ds = [] ∧ d = lvD [(0, 1)]
def preNext (ds : List D) (d : D) : Prop := ∃ (m : Mc) (lvl : List (Nat × Nat)), ds = [mD m, lvD lvl] ∧ m.Ok 1000 ∧ LvOk m lvl ∧ d = lvD (nextL m lvl)
def preEnd (ds : List D) (d : D) : Prop := ∃ (m : Mc) (lvl : List (Nat × Nat)), ds = [mD m, lvD lvl] ∧ m.Ok 1000 ∧ LvOk m lvl ∧ d = .lst ((endL m lvl).map nI)
theorem sc33 : FnScope [] [] (defScope (top 33)) := ⟨rfl, rfl, rfl, by decide +kernel, rfl, by decide +kernel, by decide +kernel⟩
theorem pr_first (T : Txt K mg) : Pr P w K mg base "first_level" 1 [] (spD K preFirst) := by
  refine mk_pr T 19 rfl sc33 (fun _ _ _ _ _ _ us hl => match us, hl with | [], _ => rfl) (fun vs H Q E h => ?_) (fun cdv A outer s H vs Q E hr h => ?_)
  · obtain ⟨ds, d, ⟨rfl, _⟩, hI, _⟩ := h
    exact hI.len
  · obtain ⟨ds, d, ⟨rfl, rfl⟩, hI, k⟩ := h
    exact w_one (s_retW (we_disp1 (n := 0) (d := nI 1) ev_int ev_int fun p H1 hp s1 hD => k _ H1 s1 hD.im))
theorem sc34 : FnScope ["machine", "level", "found", "at", "many", "standing", "there"] ["machine", "level"] (defScope (top 34)) := ⟨rfl, rfl, rfl, by decide +kernel, rfl, by decide +kernel, by decide +kernel⟩
theorem lv_items {lvl : List (Nat × Nat)} {i : Nat} {d : D} (h : ((mv nI lvl).map fun p => D.tup [D.int (p.1 : Nat), p.2])[i]? = some d) : ∃ p, lvl[i]? = some p ∧ d = .tup [.int (p.1 : Nat), nI p.2] := by
  rw [mv, List.map_map, List.getElem?_map] at h
  cases e : lvl[i]? with
  | none => rw [e] at h; cases h
  | some p => rw [e] at h; exact ⟨p, rfl, (Option.some.inj h).symm⟩
theorem pr_next (T : Txt K mg) : Pr P w K mg base "next_level" 1 ["machine", "level"] (spD K preNext) := by
  refine mk_pr T 20 rfl sc34 (fun _ _ _ _ _ _ us hl => match us, hl with | [_, _], _ => rfl) (fun vs H Q E h => ?_) (fun cdv A outer s H vs Q E hr h => ?_)
  · obtain ⟨ds, d, ⟨m, l, rfl, _⟩, hI, _⟩ := h
    exact hI.len
  · obtain ⟨ds, d, ⟨m, lvl, rfl, ok, lok, rfl⟩, hI, k⟩ := h
    cases hI with
    | cons h1 hI =>
    cases hI with
    | cons h2 hI =>
    cases hI
    obtain ⟨tt, et⟩ := T.toss
    obtain ⟨q, kvs, rfl, hrd, hkv⟩ := h2.dcI
    refine w_cons (s_setW sc34.nd 2 (we_dnew fun p hp => ?_))
    have npq : q ≠ p := by
      rintro rfl
      rcases hrd with z | ⟨_, z⟩ <;> rw [hp] at z <;> cases z
    refine w_cons (s_lock (Same.rd (Same.new hp) hrd) fun o HL U L => ?_)
    have hkL := (hkv.ex (Same.new hp)).rs L.rs
    have hpL : HL p = some (.dK []) := by rw [L.ot p (Ne.symm npq), upd_same]
    refine s_for (wk_items (vv_var 1 rfl) L.lk hkL (mv_pl nI_pl _)) fun H1 s1 => ⟨fun i σ' H' => ∃ (x3 x4 x5 x6 : Option V), σ' = [some _, some (.ref q), some (.ref p), x3, x4, x5, x6] ∧ Mu p H1 H' ∧ Tx K H1 H' ∧ Dk K H' p (mv nI (nextL m (lvl.take i))),
      ⟨none, none, none, none, rfl, Mu.refl, .refl, [], s1 _ _ hpL, .nil⟩, ?_, ?_, ?_⟩
    · rintro i σ' H' ⟨_, _, _, _, _, mu, tx, _⟩
      exact ⟨fun u z => mu.at npq z, tx⟩
    · rintro i d v σ' H2 H3 hd ⟨x3, x4, x5, x6, rfl, mu, tx, hDk⟩ s3 hv
      obtain ⟨p0, hp0, rfl⟩ := lv_items hd
      obtain ⟨at_, many⟩ := p0
      refine g_pair sc34.nd 3 4 hv fun v1 v2 hv1 hv2 => ?_
      have e1 := hv1.intI
      have e2 := hv2.intI
      subst e1 e2
      have hat : at_ < m.rows.length := lok.1 _ (List.mem_of_getElem? hp0)
      obtain ⟨r, hr1, hrok⟩ := ok.at hat
      have hm3 : Im K H3 _ (mD m) := (h1.ex (Same.new hp)).rs L.rs |>.ex s1 |>.up tx (mD_pl m) |>.ex s3
      have hDk3 := hDk.ex s3
      have hiL : i < lvl.length := (List.getElem?_eq_some_iff.mp hp0).1
      have ht : lvl.take (i + 1) = lvl.take i ++ [(at_, many)] := by rw [List.take_succ, hp0]; rfl
      refine w_cons (s_set sc34.nd 5 (ev_row (ev_var 0 rfl hm3) (ev_var 3 rfl (.int _)) hr1) fun v5 H4 s4 hv5 => ?_)
      refine w_one (s_if (et_isToss et (ev_var 5 rfl hv5)) (fun q7 H5 s5 => ?_) fun q7 H5 s5 => w_nil ?_)
      · cases r with
        | out j => cases q7
        | toss x y =>
        refine w_one (s_for (wk_tup (ev_sl1 (d := .str "toss") (ds := [nI x, nI y]) (ev_var 5 rfl (hv5.ex s5))) rfl) fun H6 s6 => ⟨fun j σ' H' => ∃ (acc : List (Nat × Nat)) (y6 : Option V), σ' = [some _, some (.ref q), some (.ref p), some (.int (at_ : Nat)), some (.int (many : Nat)), some _, y6] ∧ Mu p H6 H' ∧ Tx K H6 H' ∧ Dk K H' p (mv nI acc) ∧ LvOk m acc ∧
            ((j = 0 ∧ acc = nextL m (lvl.take i)) ∨ (j = 1 ∧ acc = pt (nextL m (lvl.take i)) x ((lk (nextL m (lvl.take i)) x).getD 0 + many)) ∨ (j = 2 ∧ acc = nextL m (lvl.take (i + 1)))), ⟨_, _, rfl, Mu.refl, .refl, ((hDk3.ex s4).ex s5).ex s6, nextL_ok ok _, .inl ⟨rfl, rfl⟩⟩, ?_, ?_, ?_⟩)
        · rintro j σ' H' ⟨acc, y6, _, mu, tx, _⟩
          exact tx
        · rintro j d v σ' H7 H8 hj ⟨acc, y6, rfl, mu6, tx6, hDk7, hlen, hst⟩ s8 hv8
          obtain ⟨t, ht2, rfl⟩ : ∃ t, [x, y][j]? = some t ∧ d = nI t := by
            match j, hj with
            | 0, hj => exact ⟨x, rfl, (Option.some.inj hj).symm⟩
            | 1, hj => exact ⟨y, rfl, (Option.some.inj hj).symm⟩
          have e8 := hv8.intI
          subst e8
          refine g_name sc34.nd 6 ?_
          have hDk8 := hDk7.ex s8
          refine w_one (s_dput hr (n := t) (d := nI ((lk acc t).getD 0 + many)) (Ev.cast (ev_add (i := (((lk acc t).getD 0 : Nat) : Int)) (Ev.cast (ev_dgetd hr (n := t) (ev_var 2 rfl hDk8.im) (ev_var 6 rfl (.int _)) ev_int) ?_) (ev_var 4 rfl (.int _))) ?_) (vv_var 2 rfl) hDk8 (ev_var 6 rfl (.int _)) rfl (mv_pl nI_pl _) ?_ fun H9 m9 tx9 hDk9 => ?_)
          · rw [mv_lk]
            cases lk acc t <;> rfl
          · rfl
          · rw [mv_len]
            have := hlen.len
            have := ok.le
            omega
          · rw [← mv_pt] at hDk9
            have mu9 : Mu p H6 H9 := (mu6.trans (rm_same s8)).trans m9
            refine ⟨_, _, rfl, mu9, (tx6.trans (Same.tx s8)).trans tx9, hDk9, ?_, ?_⟩
            · refine hlen.pt ?_ _
              match j, ht2 with
              | 0, ht2 => obtain rfl := Option.some.inj ht2; exact hrok.1
              | 1, ht2 => obtain rfl := Option.some.inj ht2; exact hrok.2
            · rcases hst with ⟨rfl, rfl⟩ | ⟨rfl, rfl⟩ | ⟨rfl, rfl⟩
              · obtain rfl := Option.some.inj ht2
                exact .inr (.inl ⟨rfl, rfl⟩)
              · obtain rfl := Option.some.inj ht2
                refine .inr (.inr ⟨rfl, ?_⟩)
                rw [ht]
                simp only [nextL, List.foldl_append, List.foldl_cons, List.foldl_nil, hr1]
              · cases ht2
        · rintro σ' H7 ⟨acc, y6, rfl, mu6, tx6, hDk7, hlen, hst⟩
          have : acc = nextL m (lvl.take (i + 1)) := by
            rcases hst with ⟨e, _⟩ | ⟨e, _⟩ | ⟨_, e⟩
            · cases e
            · cases e
            · exact e
          subst this
          have s36 := ((s3.trans s4).trans s5).trans s6
          exact ⟨_, _, _, _, rfl, (mu.trans (rm_same s36)).trans mu6, (tx.trans (Same.tx s36)).trans tx6, hDk7⟩
      · cases r with
        | toss x y => cases q7
        | out j =>
        have s35 := (s3.trans s4).trans s5
        refine ⟨_, _, _, _, rfl, mu.trans (rm_same s35), tx.trans (Same.tx s35), ?_⟩
        have : nextL m (lvl.take (i + 1)) = nextL m (lvl.take i) := by
          rw [ht]
          simp only [nextL, List.foldl_append, List.foldl_cons, List.foldl_nil, hr1]
        rw [this]
        exact (hDk3.ex s4).ex s5
    · rintro σ' H2 ⟨x3, x4, x5, x6, rfl, mu, tx, hDk⟩
      have hl : lvl.take ((mv nI lvl).map fun p => D.tup [D.int (p.1 : Nat), p.2]).length = lvl := by
        rw [List.length_map, mv_len, List.take_length]
      rw [hl] at hDk
      obtain ⟨hq2, sU⟩ := L.fin s1 mu npq (Same.new hp) hp
      refine ⟨hq2.trans L.lk, ?_⟩
      have hDkU : Dk K (U H2) p (mv nI (nextL m lvl)) := by
        obtain ⟨kv, z1, z2⟩ := hDk
        exact ⟨kv, by rw [L.uo _ _ (Ne.symm npq)]; exact z1, z2.rs (L.back hq2)⟩
      exact w_one (s_ret (ev_var 2 rfl hDkU.im) fun v H3 s3 hv => k v H3 (sU.trans s3) hv)
end
end Dr
set_option Elab.async false
set_option linter.all false
set_option maxRecDepth 100000
set_option maxHeartbeats 4000000
set_option pp.deepTerms false
set_option pp.maxSteps 400
namespace Dr
open PySem PySem.Spec PyProof.Rows L2
/-! ### rows of equations: factors, numbers -/
abbrev RowQ := List (Nat × Rat) × List Rat
theorem fr_pl (q : Rat) : (fr q).pl = true := rfl
def flD (fs : List (Nat × Rat)) : D := dcD (mv fr fs)
def nlD (ns : List Rat) : D := .lst (ns.map fr)
def rwD (r : RowQ) : D := .tup [flD r.1, nlD r.2]
def unitQ (n i0 : Nat) : List Rat := (List.range n).map (fun i => if i = i0 then (1 : Rat) else 0) ++ [0]
def addF (live : List Nat) (t : Nat) (fs : List (Nat × Rat)) : List (Nat × Rat) := if live.contains t = true then pt fs t ((lk fs t).getD 0 + 1 / 2) else fs
def eqOf (m : Mc) (live : List Nat) (s : Nat) : RowQ := match m.rows[s]? with
  | some (Rw.out i) => ([], unitQ m.n i)
  | some (Rw.toss x y) => (addF live y (addF live x []), List.replicate m.n 0 ++ [1])
  | none => ([], [])
def eqsOf (m : Mc) (live : List Nat) : List (Nat × RowQ) := live.map fun s => (s, eqOf m live s)
section
variable {P : Program} {w : World} {K : PySem.W.Frag} {mg : Str → Option Value} {base : Heap}
theorem ev_zero {X : Cx} {σ : L2.St} {H : Hp} {pos : Pos} (T : Txt X.K X.mg) (hg : Gl X "ZERO" := by rfl) : Ev X (.Name "ZERO" pos) σ H (fr 0) := ev_glob T.zero (v := .ref (He.ga X.K "ZERO")) rfl (fun H2 => .tup (T.zeroT H2) (.cons (.int 0) (.cons (.int 1) .nil))) hg
theorem ev_oneF {X : Cx} {σ : L2.St} {H : Hp} {pos : Pos} (T : Txt X.K X.mg) (hg : Gl X "ONE" := by rfl) : Ev X (.Name "ONE" pos) σ H (fr 1) := ev_glob T.one (v := .ref (He.ga X.K "ONE")) rfl (fun H2 => .tup (T.oneT H2) (.cons (.int 1) (.cons (.int 1) .nil))) hg
theorem half_num : (1 / 2 : Rat).num = 1 ∧ (1 / 2 : Rat).den = 2 := by decide +kernel
theorem ev_half {X : Cx} {σ : L2.St} {H : Hp} {pos : Pos} (T : Txt X.K X.mg) (hg : Gl X "HALF" := by rfl) : Ev X (.Name "HALF" pos) σ H (fr (1 / 2)) := ev_glob T.half (v := .ref (He.ga X.K "HALF")) rfl (fun H2 => by
  unfold fr
  rw [half_num.1, half_num.2]
  exact .tup (T.halfT H2) (.cons (.int 1) (.cons (.int 2) .nil))) hg
theorem map_fr_range (n : Nat) (f : Nat → Rat) : ((List.range n).map f).map fr = kept n (fun _ => true) (fun i => fr (f i)) := by
  unfold kept
  rw [List.filter_eq_self.mpr (by intros; rfl), List.map_map]; rfl
/-! ### ended -/
theorem sc35 : FnScope ["machine", "level", "found", "at", "many", "standing"] ["machine", "level"] (defScope (top 35)) := ⟨rfl, rfl, rfl, by decide +kernel, rfl, by decide +kernel, by decide +kernel⟩
theorem endL_len (m : Mc) (lvl : List (Nat × Nat)) : (endL m lvl).length = m.n := by
  suffices h : ∀ (lvl : List (Nat × Nat)) (acc : List Nat), acc.length = m.n → (lvl.foldl (fun acc p => match m.rows[p.1]? with
      | some (Rw.out i) => acc.set i (acc.getD i 0 + p.2)
      | _ => acc) acc).length = m.n from h lvl _ (by simp)
  intro lvl
  induction lvl with
  | nil => intro acc h; exact h
  | cons p r ih =>
    intro acc h
    refine ih _ ?_
    dsimp only
    split
    · rw [List.length_set]; exact h
    · exact h
theorem LsI.cast {K : PySem.W.Frag} {H : Hp} {p : Addr} {ds ds2 : List D} (h : LsI K H p ds) (q : ds = ds2) : LsI K H p ds2 := q ▸ h
theorem pr_ended (T : Txt K mg) : Pr P w K mg base "ended" 1 ["machine", "level"] (spD K preEnd) := by
  refine mk_pr T 21 rfl sc35 (fun _ _ _ _ _ _ us hl => match us, hl with | [_, _], _ => rfl) (fun vs H Q E h => ?_) (fun cdv A outer s H vs Q E hr h => ?_)
  · obtain ⟨ds, d, ⟨m, l, rfl, _⟩, hI, _⟩ := h
    exact hI.len
  · obtain ⟨ds, d, ⟨m, lvl, rfl, ok, lok, rfl⟩, hI, k⟩ := h
    cases hI with
    | cons h1 hI =>
    cases hI with
    | cons h2 hI =>
    cases hI
    obtain ⟨tt, et⟩ := T.out
    obtain ⟨q, kvs, rfl, hrd, hkv⟩ := h2.dcI
    have n8 := ok.n8
    refine w_cons (s_setW sc35.nd 2 (we_evl (el_rep (el_lst (ea_one ev_int)) (ev_mn (ev_var 0 rfl h1)) (by omega) (by simp; omega) (by omega)) fun p H0 hp s0 hL => ?_))
    have e0 : (List.replicate ((m.n : Int)).toNat [D.int 0]).flatten = ((endL m (lvl.take 0)).map fun n : Nat => (n : Int)).map D.int := by
      rw [Int.toNat_natCast, List.map_map]
      show _ = (List.replicate m.n 0).map _
      rw [List.map_replicate]
      induction m.n with
      | zero => rfl
      | succ n ih => rw [List.replicate_succ, List.flatten_cons, ih, List.replicate_succ]; rfl
    have hL0 := hL.cast e0
    have npq : q ≠ p := by
      rintro rfl
      rcases hrd with z | ⟨_, z⟩ <;> rw [hp] at z <;> cases z
    refine w_cons (s_lock (Same.rd s0 hrd) fun o HL U L => ?_)
    have hkL := (hkv.ex s0).rs L.rs
    have hpL : LsI K HL p (((endL m (lvl.take 0)).map fun n : Nat => (n : Int)).map D.int) := by
      obtain ⟨xs, z1, z2⟩ := hL0
      exact ⟨xs, by rw [L.ot p (Ne.symm npq)]; exact z1, z2.rs L.rs⟩
    refine s_for (wk_items (vv_var 1 rfl) L.lk hkL (mv_pl nI_pl _)) fun H1 s1 => ⟨fun i σ' H' => ∃ (x3 x4 x5 : Option V), σ' = [some _, some (.ref q), some (.ref p), x3, x4, x5] ∧ Mu p H1 H' ∧ Tx K H1 H' ∧ LsI K H' p (((endL m (lvl.take i)).map fun n : Nat => (n : Int)).map D.int),
      ⟨none, none, none, rfl, Mu.refl, .refl, hpL.ex s1⟩, ?_, ?_, ?_⟩
    · rintro i σ' H' ⟨_, _, _, _, mu, tx, _⟩
      exact ⟨fun u z => mu.at npq z, tx⟩
    · rintro i d v σ' H2 H3 hd ⟨x3, x4, x5, rfl, mu, tx, hLs⟩ s3 hv
      obtain ⟨p0, hp0, rfl⟩ := lv_items hd
      obtain ⟨at_, many⟩ := p0
      refine g_pair sc35.nd 3 4 hv fun v1 v2 hv1 hv2 => ?_
      have e1 := hv1.intI
      have e2 := hv2.intI
      subst e1 e2
      have hat : at_ < m.rows.length := lok.1 _ (List.mem_of_getElem? hp0)
      obtain ⟨r, hr1, hrok⟩ := ok.at hat
      have hm3 : Im K H3 _ (mD m) := (h1.ex s0).rs L.rs |>.ex s1 |>.up tx (mD_pl m) |>.ex s3
      have hLs3 := hLs.ex s3
      have ht : lvl.take (i + 1) = lvl.take i ++ [(at_, many)] := by rw [List.take_succ, hp0]; rfl
      refine w_cons (s_set sc35.nd 5 (ev_row (ev_var 0 rfl hm3) (ev_var 3 rfl (.int _)) hr1) fun v5 H4 s4 hv5 => ?_)
      refine w_one (s_if (et_isOut et (ev_var 5 rfl hv5)) (fun q7 H5 s5 => ?_) fun q7 H5 s5 => w_nil ?_)
      · cases r with
        | toss x y => cases q7
        | out j =>
        have hj : j < m.n := hrok
        have hlen := endL_len m (lvl.take i)
        have hx : ((endL m (lvl.take i)).map fun n : Nat => (n : Int))[j]? = some (((endL m (lvl.take i)).getD j 0 : Nat) : Int) := by
          rw [List.getElem?_map, List.getD_eq_getElem?_getD, List.getElem?_eq_getElem (by omega)]; rfl
        refine w_one (s_augL (vv_var 2 rfl) ((hLs3.ex s4).ex s5) (j := j) (ev_ixT (ds := [.str "out", nI j]) (ev_var 5 rfl (hv5.ex s5)) ev_int rfl) hx (ev_var 4 rfl (.int _)) fun H6 m6 tx6 hL6 => ?_)
        have s35 := (s3.trans s4).trans s5
        refine ⟨_, _, _, rfl, (mu.trans (rm_same s35)).trans m6, (tx.trans (Same.tx s35)).trans tx6, hL6.cast ?_⟩
        rw [ht]
        simp only [endL, List.foldl_append, List.foldl_cons, List.foldl_nil, hr1]
        simp only [List.map_set]
        rfl
      · cases r with
        | out j => cases q7
        | toss x y =>
        have s35 := (s3.trans s4).trans s5
        refine ⟨_, _, _, rfl, mu.trans (rm_same s35), tx.trans (Same.tx s35), ((hLs3.ex s4).ex s5).cast ?_⟩
        rw [ht]
        simp only [endL, List.foldl_append, List.foldl_cons, List.foldl_nil, hr1]
    · rintro σ' H2 ⟨x3, x4, x5, rfl, mu, tx, hLs⟩
      have hl : lvl.take ((mv nI lvl).map fun p => D.tup [D.int (p.1 : Nat), p.2]).length = lvl := by
        rw [List.length_map, mv_len, List.take_length]
      rw [hl] at hLs
      obtain ⟨hq2, sU⟩ := L.fin s1 mu npq s0 hp
      refine ⟨hq2.trans L.lk, ?_⟩
      have hLU : Im K (U H2) (.ref p) (.lst ((endL m lvl).map nI)) := by
        have := hLs.im.rs (L.back hq2)
        rw [List.map_map] at this
        exact this
      exact w_one (s_ret (ev_var 2 rfl hLU) fun v H3 s3 hv => k v H3 (sU.trans s3) hv)
/-! ### unit_of -/
def preUnit (ds : List D) (d : D) : Prop := ∃ (m : Mc) (s i : Nat), ds = [mD m, .int s] ∧ m.Ok 1000 ∧ m.rows[s]? = some (.out i) ∧ d = nlD (unitQ m.n i)
theorem sc36 : FnScope ["machine", "at", "i"] ["machine", "at"] (defScope (top 36)) := ⟨rfl, rfl, rfl, by decide +kernel, rfl, by decide +kernel, by decide +kernel⟩
theorem pr_unit (T : Txt K mg) : Pr P w K mg base "unit_of" 1 ["machine", "at"] (spD K preUnit) := by
  refine mk_pr T 22 rfl sc36 (fun _ _ _ _ _ _ us hl => match us, hl with | [_, _], _ => rfl) (fun vs H Q E h => ?_) (fun cdv A outer s H vs Q E hr h => ?_)
  · obtain ⟨ds, d, ⟨m, l, i, rfl, _⟩, hI, _⟩ := h
    exact hI.len
  · obtain ⟨ds, d, ⟨m, s0, i0, rfl, ok, hrow, rfl⟩, hI, k⟩ := h
    cases hI with
    | cons h1 hI =>
    cases hI with
    | cons h2 hI =>
    cases hI
    have n8 := ok.n8
    have fr0 : mg "range" = none := T.free _ (by decide +kernel)
    refine w_one (s_retW (we_evl (el_cat (el_lc sc36 [("i", 2)] (fun _ => true) (fun i => fr (if i = i0 then (1 : Rat) else 0)) (fun _ => rfl) (wk_rng fr0 (ev_mn (ev_var 0 rfl h1)) (by omega)) (fun _ _ _ => trivial) (by simp [rgD]; omega) ?_) (el_lst (ea_one (ev_zero T))) ?_) fun p H1 hp s1 hL => k _ H1 s1 ?_))
    · intro i d v H1 s1 hi hv
      have hi' : i < m.n := by
        have := (List.getElem?_eq_some_iff.mp hi).1
        simpa [rgD] using this
      rw [rgD_at hi'] at hi
      obtain rfl := Option.some.inj hi
      refine ⟨_, fun Q2 q s H C cl fp => g_name sc36.nd 2 q, rfl, fun s H C cl fp => et_nil, fun _ s H C cl fp => ?_⟩
      have e0 : (0 : Int) + (i : Int) = (i : Int) := by omega
      rw [e0] at hv
      refine ev_if (t := decide (i = i0)) (EvT.cast (et_eqI (i := (i : Int)) (j := (i0 : Int)) (ev_var 2 rfl hv) (ev_ixT (ds := [.str "out", nI i0]) (ev_row (ev_var 0 rfl (h1.ex s1)) (ev_var 1 rfl (h2.ex s1)) hrow) ev_int rfl)) ?_) (fun q => ?_) (fun q => ?_)
      · by_cases q : i = i0
        · rw [decide_eq_true q, decide_eq_true (by omega)]
        · rw [decide_eq_false q, decide_eq_false (by omega)]
      · rw [if_pos (of_decide_eq_true q)]
        exact ev_oneF T
      · rw [if_neg (of_decide_eq_false q)]
        exact ev_zero T
    · have := kept_len (rgD 0 m.n).length (fun _ => true) (fun i => fr (if i = i0 then (1 : Rat) else 0))
      have e : (rgD 0 m.n).length = m.n := by simp [rgD]
      rw [e] at this
      rw [e]
      simp only [List.length_singleton]
      omega
    · have := hL.im
      unfold nlD unitQ
      rw [List.map_append, map_fr_range]
      have e : (rgD 0 m.n).length = m.n := by simp [rgD]
      rw [e] at this
      exact this
end
end Dr
set_option Elab.async false
set_option linter.all false
set_option maxRecDepth 100000
set_option maxHeartbeats 4000000
set_option pp.deepTerms false
set_option pp.maxSteps 400
namespace Dr
open PySem PySem.Spec PyProof.Rows L2
/-! ### ways_out -/
def isOut (m : Mc) (s : Nat) : Bool := match m.rows[s]? with
  | some (Rw.out _) => true
  | _ => false
def woOut (m : Mc) (j : Nat) : St := ((List.range j).filter (isOut m)).map fun s => (s, [])
def newOf (m : Mc) (f : St) (s : Nat) : Option (Nat × List Bool) := if hs f s = true then none else match m.rows[s]? with
  | some (Rw.toss x y) => if hs f x = true then some (s, false :: (lk f x).getD []) else if hs f y = true then some (s, true :: (lk f y).getD []) else none
  | _ => none
def woNew (m : Mc) (f : St) (j : Nat) : St := (List.range j).filterMap (newOf m f)
def woGo (m : Mc) : Nat → St → St
  | 0, f => f
  | n + 1, f => if woNew m f m.rows.length = [] then f else woGo m n (f ++ woNew m f m.rows.length)
def ends (m : Mc) : St := woGo m (m.rows.length + 1) (woOut m m.rows.length)
theorem newOf_key {m : Mc} {f : St} {s : Nat} {p : Nat × List Bool} (h : newOf m f s = some p) : p.1 = s ∧ hs f s = false := by
  unfold newOf at h
  split at h
  · cases h
  · rename_i hh
    refine ⟨?_, by simpa using hh⟩
    split at h
    · split at h
      · obtain rfl := Option.some.inj h; rfl
      · split at h
        · obtain rfl := Option.some.inj h; rfl
        · cases h
    · cases h
theorem woNew_succ (m : Mc) (f : St) (j : Nat) : woNew m f (j + 1) = woNew m f j ++ (newOf m f j).toList := by
  unfold woNew
  rw [List.range_succ, List.filterMap_append]
  cases e : newOf m f j <;> simp [e]
theorem woNew_mem {m : Mc} {f : St} {j : Nat} {p : Nat × List Bool} (h : p ∈ woNew m f j) : p.1 < j ∧ hs f p.1 = false := by
  obtain ⟨s, h1, h2⟩ := List.mem_filterMap.mp h
  obtain ⟨e, h3⟩ := newOf_key h2
  rw [e]
  exact ⟨List.mem_range.mp h1, h3⟩
theorem woNew_ok (m : Mc) (f : St) : ∀ j, TabOk j (woNew m f j)
  | 0 => .nil
  | j + 1 => by
    have ih := woNew_ok m f j
    rw [woNew_succ]
    cases e : newOf m f j with
    | none =>
      simp only [Option.toList_none, List.append_nil]
      exact ⟨fun p hp => Nat.lt_succ_of_lt (ih.lt p hp), ih.nd⟩
    | some p =>
      obtain ⟨e1, _⟩ := newOf_key e
      refine ⟨fun q hq => ?_, ?_⟩
      · rcases List.mem_append.mp hq with hq | hq
        · exact Nat.lt_succ_of_lt (ih.lt q hq)
        · simp at hq; subst hq; omega
      · rw [List.map_append, List.nodup_append]
        refine ⟨ih.nd, by simp, fun a ha c hc => ?_⟩
        obtain ⟨q, hq, rfl⟩ := List.mem_map.mp ha
        have := ih.lt q hq
        simp at hc
        omega
theorem woOut_succ (m : Mc) (j : Nat) : woOut m (j + 1) = woOut m j ++ if isOut m j = true then [(j, [])] else [] := by
  unfold woOut
  rw [List.range_succ, List.filter_append, List.map_append]
  congr 1
  by_cases h : isOut m j = true <;> simp [h]
theorem woOut_ok (m : Mc) : ∀ j, TabOk j (woOut m j)
  | 0 => .nil
  | j + 1 => by
    have ih := woOut_ok m j
    rw [woOut_succ]
    split
    · refine ⟨fun q hq => ?_, ?_⟩
      · rcases List.mem_append.mp hq with hq | hq
        · exact Nat.lt_succ_of_lt (ih.lt q hq)
        · simp at hq; subst hq; exact Nat.lt_succ_self _
      · rw [List.map_append, List.nodup_append]
        refine ⟨ih.nd, by simp, fun a ha c hc => ?_⟩
        obtain ⟨q, hq, rfl⟩ := List.mem_map.mp ha
        have := ih.lt q hq
        simp at hc
        omega
    · simp only [List.append_nil]
      exact ⟨fun p hp => Nat.lt_succ_of_lt (ih.lt p hp), ih.nd⟩
theorem hs_app {α : Type} (l r : List (Nat × α)) (k : Nat) : hs (l ++ r) k = (hs l k || hs r k) := by simp [hs]
theorem TabOk.app {α : Type} {n : Nat} {l r : List (Nat × α)} (h : TabOk n l) (h2 : TabOk n r) (hd : ∀ p ∈ r, hs l p.1 = false) : TabOk n (l ++ r) := by
  refine ⟨fun p hp => (List.mem_append.mp hp).elim (h.lt p) (h2.lt p), ?_⟩
  rw [List.map_append, List.nodup_append]
  refine ⟨h.nd, h2.nd, fun a ha c hc => ?_⟩
  rintro rfl
  obtain ⟨q, hq, rfl⟩ := List.mem_map.mp hc
  have := hd q hq
  rw [hs_mem.mpr ha] at this
  cases this
theorem hs_lt {α : Type} {n : Nat} {l : List (Nat × α)} (h : TabOk n l) : hs l n = false := by
  cases e : hs l n with
  | false => rfl
  | true =>
    obtain ⟨p, h1, h2⟩ := List.mem_map.mp (hs_mem.mp e)
    have := h.lt p h1
    omega
/-- the bit strings are short -/
def Short (f : St) (z : Nat) : Prop := ∀ p ∈ f, p.2.length ≤ z
theorem short_get {f : St} {z k : Nat} (h : Short f z) : ((lk f k).getD []).length ≤ z := by
  cases e : lk f k with
  | none => simp
  | some v => exact h _ (lk_mem e)
theorem woNew_short {m : Mc} {f : St} {z j : Nat} (h : Short f z) : Short (woNew m f j) (z + 1) := fun p hp => by
  obtain ⟨s, _, h2⟩ := List.mem_filterMap.mp hp
  unfold newOf at h2
  split at h2
  · cases h2
  · split at h2
    · split at h2
      · obtain rfl := Option.some.inj h2
        simp only [List.length_cons]
        exact Nat.succ_le_succ (short_get h)
      · split at h2
        · obtain rfl := Option.some.inj h2
          simp only [List.length_cons]
          exact Nat.succ_le_succ (short_get h)
        · cases h2
    · cases h2
def preOut (ds : List D) (d : D) : Prop := ∃ (m : Mc), ds = [mD m] ∧ m.Ok 1000 ∧ d = dcD (mv btD (ends m))
section
variable {P : Program} {w : World} {K : PySem.W.Frag} {mg : Str → Option Value} {base : Heap}
theorem en_row {m : Mc} {i : Nat} {d : D} (h : (enD (m.rows.map rowD))[i]? = some d) : ∃ r, m.rows[i]? = some r ∧ d = .tup [.int (i : Nat), rowD r] := by
  obtain ⟨x, h1, rfl⟩ := enD_at h
  rw [List.getElem?_map] at h1
  cases e : m.rows[i]? with
  | none => rw [e] at h1; cases h1
  | some r => rw [e] at h1; exact ⟨r, rfl, by rw [Option.some.inj h1]⟩
theorem ev_ne_nil {X : Cx} {σ : L2.St} {H : Hp} {a : Expr} {pos p1 : Pos} {k : Nat} {is : List Nat} (hr : Rm k X.A) (ha : Ev X a σ H (.lst (is.map nI))) : EvT X (.Compare a [.NotEq] [.List [] p1] pos) σ H (!decide (is = [])) := by
  classical
  have hsh : D.sh 1 (.lst (is.map nI)) = true := by
    show D.shs 0 (is.map nI) = true
    exact shs_map (fun _ => rfl) _
  have hnb : D.nb (.lst (is.map nI)) = true := by
    show D.nbs (is.map nI) = true
    exact nbs_map (fun _ => rfl) _
  refine EvT.cast (et_neD (n := 1) (m := 1) hr ha (EvL.ev (el_lst ea_nil)) hsh rfl hnb rfl) ?_
  congr 1
  by_cases h : is = []
  · subst h; simp
  · have : ¬ D.lst (is.map nI) = D.lst [] := by
      intro e
      injection e with e
      exact h (List.map_eq_nil_iff.mp e)
    rw [decide_eq_false h, decide_eq_false this]
theorem sc32 : FnScope ["machine", "found", "at", "standing", "fresh", "new"] ["machine"] (defScope (top 32)) := ⟨rfl, rfl, rfl, by decide +kernel, rfl, by decide +kernel, by decide +kernel⟩
theorem pr_out (T : Txt K mg) : Pr P w K mg base "ways_out" 1 ["machine"] (spD K preOut) := by
  refine mk_pr T 18 rfl sc32 (fun _ _ _ _ _ _ us hl => match us, hl with | [_], _ => rfl) (fun vs H Q E h => ?_) (fun cdv A outer s H vs Q E hr h => ?_)
  · obtain ⟨ds, d, ⟨m, rfl, _⟩, hI, _⟩ := h
    exact hI.len
  · obtain ⟨ds, d, ⟨m, rfl, ok, rfl⟩, hI, k⟩ := h
    cases hI with
    | cons h1 hI =>
    cases hI
    obtain ⟨tt, et⟩ := T.toss
    obtain ⟨to, eo⟩ := T.out
    have fe : mg "enumerate" = none := T.free _ (by decide +kernel)
    have fl : mg "list" = none := T.free _ (by decide +kernel)
    have ok' : m.rows.length ≤ 1000 := ok.le
    refine w_cons (s_setW sc32.nd 1 (we_dnew fun p hp => ?_))
    -- the outs
    refine w_cons (s_for (wk_enumT fe (ev_rows (ev_var 0 rfl (h1.ex (Same.new hp)))) (pls_map rowD_pl _)) fun H1 s1 => ⟨fun i σ' H' => ∃ (x2 x3 : Option V), σ' = [some _, some (.ref p), x2, x3, none, none] ∧ Same H H' ∧ Tx K H1 H' ∧ Dk K H' p (mv btD (woOut m i)),
      ⟨none, none, rfl, (Same.new hp).trans s1, .refl, [], s1 _ _ upd_same, .nil⟩, ?_, ?_, ?_⟩)
    · rintro i σ' H' ⟨_, _, _, _, tx, _⟩
      exact tx
    · rintro i d v σ' H2 H3 hd ⟨x2, x3, rfl, sH, tx, hDk⟩ s3 hv
      obtain ⟨r, hr1, rfl⟩ := en_row hd
      refine g_pair sc32.nd 2 3 hv fun v1 v2 hv1 hv2 => ?_
      have e1 := hv1.intI
      subst e1
      have hDk3 := hDk.ex s3
      have hi : i < m.rows.length := (List.getElem?_eq_some_iff.mp hr1).1
      refine w_one (s_if (et_isOut eo (ev_var 3 rfl hv2)) (fun q7 H5 s5 => ?_) fun q7 H5 s5 => w_nil ?_)
      · cases r with
        | toss x y => cases q7
        | out j =>
        have hno : hs (woOut m i) i = false := hs_lt (woOut_ok m i)
        refine w_one (s_dput hr (n := i) (d := btD []) (ev_tup ea_nil) (vv_var 1 rfl) (hDk3.ex s5) (ev_var 2 rfl (.int _)) rfl (mv_pl btD_pl _) (by rw [mv_len]; have := (woOut_ok m i).len; omega) fun H6 m6 tx6 hD6 => ?_)
        rw [← mv_pt, pt_new hno] at hD6
        refine ⟨_, _, rfl, m6.same ((sH.trans s3).trans s5) hp, (tx.trans (Same.tx (s3.trans s5))).trans tx6, ?_⟩
        have : woOut m (i + 1) = woOut m i ++ [(i, [])] := by rw [woOut_succ]; simp [isOut, hr1]
        rw [this]; exact hD6
      · cases r with
        | out j => cases q7
        | toss x y =>
        refine ⟨_, _, rfl, (sH.trans s3).trans s5, tx.trans (Same.tx (s3.trans s5)), ?_⟩
        have : woOut m (i + 1) = woOut m i := by rw [woOut_succ]; simp [isOut, hr1]
        rw [this]; exact hDk3.ex s5
    rintro σ' H2 ⟨x2, x3, rfl, sH, tx, hDk⟩
    rw [enD_len, List.length_map] at hDk
    refine w_cons (s_setW sc32.nd 4 (we_evl (el_keys fl (ev_var 1 rfl hDk.im)) fun q H3 hq s3 hL => ?_))
    have hL3 : LsI K H3 q ((woOut m m.rows.length).map fun p => nI p.1) := hL.cast (by simp [mv, nI])
    have hq0 : H q = none := sH.free hq
    -- the rounds
    refine w_cons (s_while (fun z σ H' => ∃ (f : St) (fr : List Nat) (n : Nat) (r : Addr) (x2 x3 x5 : Option V), σ = [some _, some (.ref p), x2, x3, some (.ref r), x5] ∧ Same H H' ∧ Dk K H' p (mv btD f) ∧ LsI K H' r (fr.map nI) ∧ TabOk m.rows.length f ∧ Short f f.length ∧
        (fr = [] → woNew m f m.rows.length = []) ∧ m.rows.length + 1 ≤ n + f.length ∧ woGo m n f = ends m ∧ z = 2 * (m.rows.length + 1 - f.length) + (if fr = [] then 0 else 1))
      _ ⟨woOut m m.rows.length, (woOut m m.rows.length).map (·.1), m.rows.length + 1, q, x2, x3, none, rfl, sH.trans s3, hDk.ex s3, hL3.cast (by rw [List.map_map]; rfl), woOut_ok m _, ?_, ?_, Nat.le_add_right _ _, rfl, rfl⟩ ?_)
    · intro p hp
      obtain ⟨s, _, rfl⟩ := List.mem_map.mp hp
      exact Nat.zero_le _
    · intro e
      have e : woOut m m.rows.length = [] := List.map_eq_nil_iff.mp e
      rw [e]
      unfold woNew
      rw [List.filterMap_eq_nil_iff]
      intro s _
      unfold newOf
      simp only [hs, List.any_nil, Bool.false_eq_true, if_false]
      split <;> rfl
    · rintro z σ H' ⟨f, fr, n, r, x2, x3, x5, rfl, sH, hDk, hLs, tab, hshort, hfr, hn, hgo, rfl⟩
      have flen := tab.len
      refine ⟨_, ev_ne_nil hr (ev_var 4 rfl hLs.im), fun tr H4 s4 => ?_, fun tr H4 s4 => ?_⟩
      · have hne : fr ≠ [] := by
          intro e; subst e; cases tr
        refine w_cons (s_setW sc32.nd 5 (we_dnew fun g hg => ?_))
        have npg : p ≠ g := by
          obtain ⟨kv, z, _⟩ := hDk.ex s4
          rintro rfl
          rw [hg] at z; cases z
        have sH5 : Same H (upd H4 g (.dK [])) := (sH.trans s4).trans (Same.new hg)
        have hDk5 := (hDk.ex s4).ex (Same.new (o := .dK []) hg)
        refine w_cons (s_for (wk_enumT fe (ev_rows (ev_var 0 rfl (h1.ex sH5))) (pls_map rowD_pl _)) fun H6 s6 => ⟨fun i σ' H' => ∃ (x2 x3 : Option V), σ' = [some _, some (.ref p), x2, x3, some (.ref r), some (.ref g)] ∧ Same H4 H' ∧ Tx K H6 H' ∧ Dk K H' g (mv btD (woNew m f i)),
          ⟨_, _, rfl, (Same.new hg).trans s6, .refl, [], s6 _ _ upd_same, .nil⟩, ?_, ?_, ?_⟩)
        · rintro i σ' H' ⟨_, _, _, _, tx, _⟩
          exact tx
        · rintro i d v σ' H7 H8 hd ⟨y2, y3, rfl, s47, tx, hDg⟩ s8 hv
          obtain ⟨rw_, hr1, rfl⟩ := en_row hd
          refine g_pair sc32.nd 2 3 hv fun v1 v2 hv1 hv2 => ?_
          have e1 := hv1.intI
          subst e1
          have hi : i < m.rows.length := (List.getElem?_eq_some_iff.mp hr1).1
          have hDp8 := (hDk.ex s4).ex (s47.trans s8)
          have hDg8 := hDg.ex s8
          have s48 := s47.trans s8
          refine w_one (s_if (EvW.t (ew_and (t := !hs f i) (u := rw_.isT) (EvT.cast (et_notin hr (n := i) (ev_var 2 rfl (.int _)) (ev_var 1 rfl hDp8.im)) (by rw [mv_hs])) fun _ => ew_and1 (et_isToss et (ev_var 3 rfl hv2)))) (fun q9 H9 s9 => ?_) fun q9 H9 s9 => w_nil ?_)
          · rw [Bool.and_eq_true] at q9
            cases rw_ with
            | out j => cases q9.2
            | toss x y =>
            have hni : hs f i = false := by simpa using q9.1
            have hDp9 := hDp8.ex s9
            have hDg9 := hDg8.ex s9
            have hv9 := hv2.ex s9
            have hno : hs (woNew m f i) i = false := hs_lt (woNew_ok m f i)
            refine w_one (s_if (EvT.cast (et_in hr (n := x) (ev_ixT (ds := [.str "toss", nI x, nI y]) (ev_var 3 rfl hv9) ev_int rfl) (ev_var 1 rfl hDp9.im)) (mv_hs _ _ _)) (fun q10 H10 s10 => ?_) fun q10 H10 s10 => ?_)
            · have hDp10 := hDp9.ex s10
              have hDg10 := hDg9.ex s10
              obtain ⟨val, hval⟩ := Option.isSome_iff_exists.mp (by rw [← lk_hs]; exact q10 : (lk f x).isSome = true)
              have hnew : newOf m f i = some (i, false :: val) := by simp [newOf, hni, hr1, q10, hval]
              have hvl : val.length ≤ 1000 := by
                have := hshort _ (lk_mem hval)
                simp only at this
                omega
              refine w_one (s_dput hr (n := i) (d := btD (false :: val)) (Ev.cast (ev_cat (ds := [bit false]) (es' := val.map bit) (ev_tup (ea_one ev_int)) (ev_dget hr (n := x) (ev_var 1 rfl hDp10.im) (ev_ixT (ds := [.str "toss", nI x, nI y]) (ev_var 3 rfl (hv9.ex s10)) ev_int rfl) (by rw [mv_lk, hval]; rfl)) (by rw [sizeLine_eq]; simp; omega)) rfl) (vv_var 5 rfl) hDg10 (ev_var 2 rfl (.int _)) (btD_pl _) (mv_pl btD_pl _) (by rw [mv_len]; have := (woNew_ok m f i).len; omega) fun H11 m11 tx11 hD11 => ?_)
              rw [← mv_pt, pt_new hno] at hD11
              refine ⟨_, _, rfl, m11.same ((s48.trans s9).trans s10) hg, (tx.trans (Same.tx ((s8.trans s9).trans s10))).trans tx11, ?_⟩
              rw [woNew_succ, hnew]
              exact hD11
            · have hno10 : hs f x = false := q10
              have hDp10 := hDp9.ex s10
              have hDg10 := hDg9.ex s10
              refine w_one (s_if (EvT.cast (et_in hr (n := y) (ev_ixT (ds := [.str "toss", nI x, nI y]) (ev_var 3 rfl (hv9.ex s10)) ev_int rfl) (ev_var 1 rfl hDp10.im)) (mv_hs _ _ _)) (fun q12 H12 s12 => ?_) fun q12 H12 s12 => w_nil ?_)
              · have hDp12 := hDp10.ex s12
                have hDg12 := hDg10.ex s12
                obtain ⟨val, hval⟩ := Option.isSome_iff_exists.mp (by rw [← lk_hs]; exact q12 : (lk f y).isSome = true)
                have hnew : newOf m f i = some (i, true :: val) := by simp [newOf, hni, hr1, hno10, q12, hval]
                have hvl : val.length ≤ 1000 := by
                  have := hshort _ (lk_mem hval)
                  simp only at this
                  omega
                refine w_one (s_dput hr (n := i) (d := btD (true :: val)) (Ev.cast (ev_cat (ds := [bit true]) (es' := val.map bit) (ev_tup (ea_one ev_int)) (ev_dget hr (n := y) (ev_var 1 rfl hDp12.im) (ev_ixT (ds := [.str "toss", nI x, nI y]) (ev_var 3 rfl ((hv9.ex s10).ex s12)) ev_int rfl) (by rw [mv_lk, hval]; rfl)) (by rw [sizeLine_eq]; simp; omega)) rfl) (vv_var 5 rfl) hDg12 (ev_var 2 rfl (.int _)) (btD_pl _) (mv_pl btD_pl _) (by rw [mv_len]; have := (woNew_ok m f i).len; omega) fun H11 m11 tx11 hD11 => ?_)
                rw [← mv_pt, pt_new hno] at hD11
                refine ⟨_, _, rfl, m11.same (((s48.trans s9).trans s10).trans s12) hg, (tx.trans (Same.tx (((s8.trans s9).trans s10).trans s12))).trans tx11, ?_⟩
                rw [woNew_succ, hnew]
                exact hD11
              · have hnew : newOf m f i = none := by simp [newOf, hni, hr1, hno10, q12]
                refine ⟨_, _, rfl, ((s48.trans s9).trans s10).trans s12, tx.trans (Same.tx (((s8.trans s9).trans s10).trans s12)), ?_⟩
                rw [woNew_succ, hnew]
                simp only [Option.toList_none, List.append_nil]
                exact hDg10.ex s12
          · have hnew : newOf m f i = none := by
              rw [Bool.and_eq_false_iff] at q9
              unfold newOf
              rw [hr1]
              rcases q9 with q9 | q9
              · rw [if_pos (by simpa using q9)]
              · cases rw_ with
                | toss x y => cases q9
                | out j => split <;> rfl
            refine ⟨_, _, rfl, s48.trans s9, tx.trans (Same.tx (s8.trans s9)), ?_⟩
            rw [woNew_succ, hnew]
            simp only [Option.toList_none, List.append_nil]
            exact hDg8.ex s9
        · rintro σ' H7 ⟨y2, y3, rfl, s47, tx, hDg⟩
          rw [enD_len, List.length_map] at hDg
          have hDp7 := (hDk.ex s4).ex s47
          have nwok := woNew_ok m f m.rows.length
          have nwlen := nwok.len
          have hdis : ∀ p ∈ woNew m f m.rows.length, hs f p.1 = false := fun p hp => (woNew_mem hp).2
          have emg : Dr.mg (mv btD f) (mv btD (woNew m f m.rows.length)) = mv btD (f ++ woNew m f m.rows.length) := by
            rw [← mv_mg, mg_new _ _ nwok.nd hdis]
          refine w_cons (s_upd (vv_var 1 rfl) hDp7 (vv_var 5 rfl) hDg npg (by rw [emg]; exact mv_pl btD_pl _) (by rw [mv_len, mv_len]; omega) fun H8 m8 tx8 hD8 => ?_)
          rw [emg] at hD8
          have hDg8 := hDg.mu (Ne.symm npg) m8 tx8 (mv_pl btD_pl _)
          have sH8 : Same H H8 := m8.same ((sH.trans s4).trans s47) hp
          refine w_one (s_setW sc32.nd 4 (we_evl (el_keys fl (ev_var 5 rfl hDg8.im)) fun r2 H9 hr2 s9 hL9 => ?_))
          have hL9' : LsI K H9 r2 (((woNew m f m.rows.length).map (·.1)).map nI) := hL9.cast (by simp [mv, nI])
          by_cases e : woNew m f m.rows.length = []
          · refine ⟨_, ?_, f, [], n, r2, _, _, _, rfl, sH8.trans s9, ?_, ?_, tab, hshort, fun _ => e, hn, hgo, rfl⟩
            · rw [if_neg hne]; simp
            · have := hD8.ex s9
              rwa [e, List.append_nil] at this
            · rwa [e] at hL9'
          · have l0 : 0 < (woNew m f m.rows.length).length := List.length_pos_iff.mpr e
            have tab2 : TabOk m.rows.length (f ++ woNew m f m.rows.length) := tab.app nwok hdis
            have len2 := tab2.len
            rw [List.length_append] at len2
            obtain ⟨n, rfl⟩ : ∃ n', n = n' + 1 := ⟨n - 1, by omega⟩
            refine ⟨_, ?_, f ++ woNew m f m.rows.length, (woNew m f m.rows.length).map (·.1), n, r2, _, _, _, rfl, sH8.trans s9, hD8.ex s9, hL9', tab2, ?_, fun z => absurd (List.map_eq_nil_iff.mp z) e, ?_, ?_, rfl⟩
            · rw [List.length_append, if_neg hne]
              split <;> omega
            · intro p hp
              rw [List.length_append]
              rcases List.mem_append.mp hp with hp | hp
              · have := hshort p hp; omega
              · have := woNew_short hshort p hp; omega
            · rw [List.length_append]; omega
            · rw [← hgo]
              simp only [woGo, if_neg e]
      · have hnil : fr = [] := by
          by_cases e : fr = []
          · exact e
          · rw [decide_eq_false e] at tr; cases tr
        have hcl := hfr hnil
        obtain ⟨n, rfl⟩ : ∃ n', n = n' + 1 := ⟨n - 1, by omega⟩
        refine w_one (s_ret (ev_var 1 rfl (hDk.ex s4).im) fun v5 H5 s5 hv5 => k v5 H5 ((sH.trans s4).trans s5) ?_)
        rw [← hgo]
        simp only [woGo, if_pos hcl]
        exact hv5
end
end Dr
set_option Elab.async false
set_option linter.all false
set_option maxRecDepth 100000
set_option maxHeartbeats 4000000
set_option pp.deepTerms false
set_option pp.maxSteps 400
set_option exponentiation.threshold 20000
namespace Dr
open PySem PySem.Spec PyProof.Rows L2
/-! ### sizes -/
theorem sm_mk {n a b : Nat} (ha : a < 2 ^ n) (hb : b < 2 ^ n) (h0 : 0 < b) : Sm n (mkRat (a : Int) b) := by
  obtain ⟨e1, e2⟩ := lowest_num a b h0
  refine ⟨?_, ?_, ?_⟩
  · rw [e1]
    exact Int.ediv_nonneg (by omega) (by omega)
  · rw [e1, ← Int.natCast_ediv, Int.natAbs_natCast]
    exact Nat.lt_of_le_of_lt (Nat.div_le_self _ _) ha
  · have e3 : ((mkRat (a : Int) b).den : Int) = ((b / Nat.gcd a b : Nat) : Int) := by rw [e2, Int.natCast_ediv]
    have e4 : (mkRat (a : Int) b).den = b / Nat.gcd a b := by exact_mod_cast e3
    rw [e4]
    exact Nat.lt_of_le_of_lt (Nat.div_le_self _ _) hb
theorem Sm.up {a b : Nat} {q : Rat} (h : Sm a q) (hab : a ≤ b) : Sm b q := ⟨h.1, Nat.lt_of_lt_of_le h.2.1 (two_le hab), Nat.lt_of_lt_of_le h.2.2 (two_le hab)⟩
theorem Sm.mul {a b : Nat} {p q : Rat} (hp : Sm a p) (hq : Sm b q) : Sm (a + b) (p * q) := by
  obtain ⟨ep, lp⟩ := hp.num
  obtain ⟨eq, lq⟩ := hq.num
  rw [← mk_times p q _ _ ep eq]
  exact sm_mk (mulB lp lq) (mulB hp.2.2 hq.2.2) (Nat.mul_pos p.den_pos q.den_pos)
theorem Sm.add {a b : Nat} {p q : Rat} (hp : Sm a p) (hq : Sm b q) : Sm (a + b + 1) (p + q) := by
  obtain ⟨ep, lp⟩ := hp.num
  obtain ⟨eq, lq⟩ := hq.num
  rw [← mk_plus p q _ _ ep eq]
  refine sm_mk ?_ (Nat.lt_of_lt_of_le (mulB hp.2.2 hq.2.2) (two_le (by omega))) (Nat.mul_pos p.den_pos q.den_pos)
  have h1 := mulB lp hq.2.2
  have h2 := mulB lq hp.2.2
  rw [Nat.add_comm b a] at h2
  rw [Nat.pow_succ]
  omega
theorem sm_zero (n : Nat) (h : 1 ≤ n) : Sm n 0 := ⟨by decide, Nat.lt_of_lt_of_le (show 0 < 2 ^ 1 by decide) (two_le h), Nat.lt_of_lt_of_le (show 1 < 2 ^ 1 by decide) (two_le h)⟩
theorem sm_one (n : Nat) (h : 1 ≤ n) : Sm n 1 := ⟨by decide, Nat.lt_of_lt_of_le (show 1 < 2 ^ 1 by decide) (two_le h), Nat.lt_of_lt_of_le (show 1 < 2 ^ 1 by decide) (two_le h)⟩
theorem sm_half : Sm 2 (1 / 2) := by
  refine ⟨?_, ?_, ?_⟩
  · rw [half_num.1]; decide
  · rw [half_num.1]; decide
  · rw [half_num.2]; decide
def SmL (n : Nat) (ns : List Rat) : Prop := ∀ q ∈ ns, Sm n q
def SmF (n : Nat) (fs : List (Nat × Rat)) : Prop := ∀ p ∈ fs, Sm n p.2
theorem SmF.get {n : Nat} {fs : List (Nat × Rat)} (h : SmF n fs) (h1 : 1 ≤ n) (k : Nat) : Sm n ((lk fs k).getD 0) := by
  cases e : lk fs k with
  | none => exact sm_zero n h1
  | some v => exact h _ (lk_mem e)
/-- a good row: z states, width numbers -/
structure RowOk (z wd : Nat) (r : RowQ) : Prop where
  tab : TabOk z r.1
  len : r.2.length = wd
  sf : SmF BW r.1
  sn : SmL BW r.2
/-! ### the steps -/
def wiQ (s : Nat) (r : RowQ) : RowQ := match lk r.1 s with
  | none => r
  | some f => (mv (fun x => x / (1 - f)) (r.1.filter fun p => !decide (p.1 = s)), r.2.map fun x => x / (1 - f))
def share (s : Nat) (r : RowQ) : Rat := (lk r.1 s).getD 0
def putF (sh : Rat) (o : List (Nat × Rat)) (acc : List (Nat × Rat)) : List (Nat × Rat) := o.foldl (fun acc p => pt acc p.1 ((lk acc p.1).getD 0 + sh * p.2)) acc
def putQ (s : Nat) (o r : RowQ) : RowQ := (putF (share s r) o.1 (r.1.filter fun p => !decide (p.1 = s)), List.zipWith (fun a b => a + share s r * b) r.2 o.2)
section
variable {P : Program} {w : World} {K : PySem.W.Frag} {mg : Str → Option Value} {base : Heap}
/-- a row comes back; its dict is new or was the first argument -/
def spRow (K : PySem.W.Frag) (pre : List D → RowQ → Prop) : Sp := fun vs H Q _ => ∃ ds r, pre ds r ∧ Ims K H vs ds ∧ ∀ a dd lv H', Same H H' → SqT K H' a [.ref dd, lv] → Im K H' (.ref dd) (flD r.1) → Im K H' lv (nlD r.2) → (H dd = none ∨ vs[0]? = some (.ref dd)) → Q (.ref a) H'
def preWi (z wd : Nat) (ds : List D) (r' : RowQ) : Prop := ∃ (r : RowQ) (s : Nat), ds = [flD r.1, nlD r.2, .int s] ∧ z ≤ 1000 ∧ wd ≤ 1000 ∧ RowOk z wd r ∧ (∀ f, lk r.1 s = some f → f < 1) ∧ r' = wiQ s r
theorem sc39 : FnScope ["factors", "numbers", "at", "rest", "found", "there", "factor", "number"] ["factors", "numbers", "at"] (defScope (top 39)) := ⟨rfl, rfl, rfl, by decide +kernel, rfl, by decide +kernel, by decide +kernel⟩
theorem fl_items {fs : List (Nat × Rat)} {i : Nat} {d : D} (h : ((mv fr fs).map fun p => D.tup [D.int (p.1 : Nat), p.2])[i]? = some d) : ∃ p, fs[i]? = some p ∧ d = .tup [.int (p.1 : Nat), fr p.2] := by
  rw [mv, List.map_map, List.getElem?_map] at h
  cases e : fs[i]? with
  | none => rw [e] at h; cases h
  | some p => rw [e] at h; exact ⟨p, rfl, (Option.some.inj h).symm⟩
theorem rat_sub_pos {f : Rat} (h : f < 1) : 0 < (1 - f).num := by
  have h1 := (Rat.lt_iff_sub_pos f 1).mp h
  have h2 := (Rat.lt_iff 0 (1 - f)).mp h1
  simpa using h2
theorem sub_sm {f : Rat} {n : Nat} (h : f < 1) (hf : Sm n f) : Sm n (1 - f) := by
  obtain ⟨ef, lf⟩ := hf.num
  have h1 := (Rat.lt_iff f 1).mp h
  have h2 : f.num < (f.den : Int) := by simpa using h1
  have e := mk_minus 1 f 1 f.num.toNat rfl ef (by simp; omega)
  rw [← e]
  refine sm_mk ?_ ?_ (by simpa using f.den_pos)
  · have := hf.2.2
    show 1 * f.den - f.num.toNat * 1 < _
    omega
  · simpa using hf.2.2
theorem kept_list {α : Type} [Inhabited α] (l : List α) (f : α → D) : kept l.length (fun _ => true) (fun i => f (l.getD i default)) = l.map f := by
  unfold kept
  rw [List.filter_eq_self.mpr (by intros; rfl)]
  apply List.ext_getElem?
  intro i
  by_cases h : i < l.length <;> simp [h]
theorem keptD_list {α : Type} (l : List (Nat × α)) (t : Nat × α → Bool) (f : α → D) (df : α) (nd : (l.map (·.1)).Nodup) :
    keptD l.length (fun i => t (l.getD i (0, df))) (fun i => (l.getD i (0, df)).1) (fun i => f (l.getD i (0, df)).2) = mv f (l.filter t) := by
  suffices h : ∀ n, n ≤ l.length → keptD n (fun i => t (l.getD i (0, df))) (fun i => (l.getD i (0, df)).1) (fun i => f (l.getD i (0, df)).2) = mv f ((l.take n).filter t) by
    have := h l.length (Nat.le_refl _)
    rwa [List.take_length] at this
  intro n
  induction n with
  | zero => intro _; rfl
  | succ n ih =>
    intro hn
    have ih := ih (by omega)
    have hlt : n < l.length := hn
    have e : l.getD n (0, df) = l[n] := by rw [List.getD_eq_getElem?_getD, List.getElem?_eq_getElem hlt]; rfl
    have ht : l.take (n + 1) = l.take n ++ [l[n]] := by rw [List.take_succ, List.getElem?_eq_getElem hlt]; rfl
    rw [ht, List.filter_append]
    cases q : t l[n] with
    | true =>
      rw [keptD_yes (by simp only [e]; exact q), ih]
      simp only [e]
      rw [pt_new]
      · simp [mv, q]
      · rw [mv_hs]
        cases q2 : hs ((l.take n).filter t) l[n].1 with
        | false => rfl
        | true =>
          exfalso
          obtain ⟨p, h1, h2⟩ := List.mem_map.mp (hs_mem.mp q2)
          have h3 := (List.mem_filter.mp h1).1
          have nd2 : ((l.take (n + 1)).map (·.1)).Nodup := nd.sublist ((List.take_sublist _ _).map _)
          rw [ht, List.map_append, List.nodup_append] at nd2
          exact nd2.2.2 p.1 (List.mem_map_of_mem h3) l[n].1 (by simp) h2
    | false =>
      rw [keptD_no (by simp only [e]; exact q), ih]
      simp [q]
theorem lk_bound {n : Nat} {fs : List (Nat × Rat)} (h : SmF n fs) {s : Nat} {f : Rat} (e : lk fs s = some f) : Sm n f := h _ (lk_mem e)
theorem pr_wi (T : Txt K mg) {z wd : Nat} (M : Pr P w K mg base "minus" 36 ["one", "other"] (spD K (preBin (fun p q => q ≤ p) (· - ·)))) (O : Pr P w K mg base "over" 36 ["one", "other"] (spD K (preBin (fun _ q => 0 < q.num) (· / ·)))) :
    Pr P w K mg base "without_itself" 37 ["factors", "numbers", "at"] (spRow K (preWi z wd)) := by
  have hBW := BW_eq
  refine mk_pr T 25 rfl sc39 (fun _ _ _ _ _ _ us hl => match us, hl with | [_, _, _], _ => rfl) (fun vs H Q E h => ?_) (fun cdv A outer s H vs Q E hr h => ?_)
  · obtain ⟨ds, d, ⟨r, s, rfl, _⟩, hI, _⟩ := h
    exact hI.len
  · obtain ⟨ds, d, ⟨r, s0, rfl, hz, hwd, ro, hpv, rfl⟩, hI, k⟩ := h
    cases hI with
    | @cons v1 _ _ _ h1 hI =>
    cases hI with
    | @cons v2 _ _ _ h2 hI =>
    cases hI with
    | cons h3 hI =>
    cases hI
    have e3 := h3.intI
    subst e3
    obtain ⟨q, kvs, rfl, hrd, hkv⟩ := h1.dcI
    refine w_cons (s_if (EvT.cast (et_notin hr (n := s0) (ev_var 2 rfl (.int _)) (ev_var 0 rfl h1)) (by rw [mv_hs])) (fun q1 H1 s1 => ?_) fun q1 H1 s1 => w_nil ?_)
    · -- not there
      have hno : lk r.1 s0 = none := by
        have : hs r.1 s0 = false := by simpa using q1
        rw [lk_hs] at this
        simpa using this
      refine w_one (s_retW (.of (pe_tup pa_W) (wa_cons ((vv_var 0 rfl) H1 (Same.refl _) _ fun H2 s2 => wa_cons ((vv_var 1 rfl) H2 (Same.refl _) _ fun H3 s3 => wa_nil ⟨by exact Nat.le_of_ble_eq_true rfl, fun a ha => ?_⟩)))))
      have s13 : Same H (upd H3 a (.tup [V.ref q, v2])) := ((s1.trans s2).trans s3).trans (Same.new ha)
      have ew : wiQ s0 r = r := by unfold wiQ; rw [hno]
      rw [ew] at k
      exact k a q v2 _ s13 (.of upd_same) (h1.ex s13) (h2.ex s13) (.inr rfl)
    · have hyes : hs r.1 s0 = true := by simpa using q1
      rw [lk_hs] at hyes
      obtain ⟨f, hf⟩ := Option.isSome_iff_exists.mp hyes
      have hf1 := hpv f hf
      have smf := lk_bound ro.sf hf
      have sm1 := sub_sm hf1 smf
      have ew : wiQ s0 r = (mv (fun x => x / (1 - f)) (r.1.filter fun p => !decide (p.1 = s0)), r.2.map fun x => x / (1 - f)) := by unfold wiQ; rw [hf]
      refine w_cons (s_set sc39.nd 3 (ev_call M hr (ea_cons (ev_oneF T) (ea_one (ev_dget hr (n := s0) (d := fr f) (ev_var 0 rfl (h1.ex s1)) (ev_var 2 rfl (.int _)) (by rw [mv_lk, hf]; rfl)))) ⟨1, f, rfl, sm_one _ (by omega), smf.up (by omega), Rat.le_of_lt hf1, rfl⟩) fun v4 H2 s2 hv4 => ?_)
      have s02 := s1.trans s2
      refine w_cons (s_lock (Same.rd s02 hrd) fun o HL U L => ?_)
      have hkL := (hkv.ex s02).rs L.rs
      have hv4L := hv4.rs L.rs
      have tb := ro.tab.len
      refine s_setK sc39 [("there", 5), ("factor", 6)] 4 (fun i => !decide ((r.1.getD i (0, 0)).1 = s0)) (fun i => (r.1.getD i (0, 0)).1) (fun i => fr ((r.1.getD i (0, 0)).2 / (1 - f))) (fun _ => rfl) (wk_items (vv_var 0 rfl) L.lk hkL (mv_pl fr_pl _)) (fun H1 H2 s => ⟨fun u z => s _ _ z, Same.tx s⟩) (by rw [List.length_map, mv_len]; omega) ?_ fun g H5 hg s5 hD => ?_
      · intro i d v H3 s3 hi hv
        obtain ⟨p, hp, rfl⟩ := fl_items hi
        obtain ⟨t, x⟩ := p
        have e : r.1.getD i (0, 0) = (t, x) := by rw [List.getD_eq_getElem?_getD, hp]; rfl
        obtain ⟨a, xs, rfl, g1, g2⟩ := hv.tupI
        cases g2 with
        | cons g2 g3 =>
        cases g3 with
        | cons g3 g4 =>
        cases g4
        have e5 := g2.intI
        subst e5
        rw [e]
        have fx : Sm BW x := ro.sf _ (List.mem_of_getElem? hp)
        refine ⟨_, fun Q2 q s H C cl fp => g_pairV sc39.nd 5 6 g1 q, rfl, fun s H C cl fp => et_one (EvT.cast (et_neI (i := (t : Int)) (j := (s0 : Int)) (ev_var 5 rfl (.int _)) (ev_var 2 rfl (.int _))) ?_), fun _ => ⟨fun s H C cl fp => ev_var 5 rfl (.int _), fun s H C cl fp => ?_⟩⟩
        · congr 1
          by_cases q : t = s0
          · rw [decide_eq_true q, decide_eq_true (by omega)]
          · rw [decide_eq_false q, decide_eq_false (by omega)]
        · exact ev_call O (hr.mono (by decide)) (ea_cons (ev_var 6 rfl g3) (ea_one (ev_var 3 rfl (hv4L.ex s3)))) ⟨x, 1 - f, rfl, fx.up (by omega), sm1.up (by omega), rat_sub_pos hf1, rfl⟩
      · -- the lists
        have hlen : ((mv fr r.1).map fun p => D.tup [D.int (p.1 : Nat), p.2]).length = r.1.length := by rw [List.length_map, mv_len]
        rw [hlen, keptD_list r.1 (fun p => !decide (p.1 = s0)) (fun x => fr (x / (1 - f))) 0 ro.tab.nd] at hD
        have hqd : H5 q = HL q := by rw [s5 _ _ L.lk, L.lk]
        refine ⟨hqd.trans L.lk, ?_⟩
        obtain ⟨n1, n2⟩ := L.none hg
        have hDU : Dk K (U H5) g (mv fr (wiQ s0 r).1) := by
          obtain ⟨kv, z1, z2⟩ := hD
          refine ⟨kv, by rw [L.uo _ _ n2]; exact z1, ?_⟩
          have := z2.rs (L.back hqd)
          rw [ew]
          have e : mv fr (mv (fun x => x / (1 - f)) (r.1.filter fun p => !decide (p.1 = s0))) = mv (fun x => fr (x / (1 - f))) (r.1.filter fun p => !decide (p.1 = s0)) := by simp [mv]
          rw [e]
          exact this
        have s5U : Same H2 (U H5) := L.same s5
        have hg0 : H g = none := s02.free n1
        have h2U := (h2.ex s02).ex s5U
        have hv4U := hv4.ex s5U
        refine w_one (s_retW (.of (pe_tup pa_W) (wa_cons ((vv_var 4 rfl) (U H5) (Same.refl _) _ fun H6 s6 => wa_cons (we_evl (el_lc sc39 [("number", 7)] (fun _ => true) (fun i => fr (r.2.getD i 0 / (1 - f))) (fun _ => rfl) (wk_lstD (ev_var 1 rfl (h2U.ex s6)) (pls_map fr_pl _)) (fun H1 H2 s => ⟨Same.tx s, Same.ls s⟩) (by rw [List.length_map, ro.len]; omega) ?_) fun l7 H7 hl7 s7 hL7 => wa_nil ⟨by exact Nat.le_of_ble_eq_true rfl, fun a ha => ?_⟩)))))
        · intro i d v H8 s8 hi hv
          rw [List.getElem?_map] at hi
          cases e : r.2[i]? with
          | none => rw [e] at hi; cases hi
          | some x =>
            rw [e] at hi
            obtain rfl := Option.some.inj hi
            have e2 : r.2.getD i 0 = x := by rw [List.getD_eq_getElem?_getD, e]; rfl
            rw [e2]
            have fx : Sm BW x := ro.sn _ (List.mem_of_getElem? e)
            refine ⟨_, fun Q2 q s H C cl fp => g_name sc39.nd 7 q, rfl, fun s H C cl fp => et_nil, fun _ s H C cl fp => ?_⟩
            exact ev_call O (hr.mono (by decide)) (ea_cons (ev_var 7 rfl hv) (ea_one (ev_var 3 rfl ((hv4U.ex s6).ex s8)))) ⟨x, 1 - f, rfl, fx.up (by omega), sm1.up (by omega), rat_sub_pos hf1, rfl⟩
        · have sE : Same H (upd H7 a (.tup [V.ref g, V.ref l7])) := (((s02.trans s5U).trans s6).trans s7).trans (Same.new ha)
          refine k a g (.ref l7) _ sE (.of upd_same) (((hDU.ex s6).ex s7).ex (Same.new ha)).im ?_ (.inl hg0)
          have := hL7.im.ex (Same.new (o := .tup [V.ref g, V.ref l7]) ha)
          have e1 : (List.map fr r.2).length = r.2.length := by simp
          rw [e1] at this
          have e2 := kept_list r.2 (fun x => fr (x / (1 - f)))
          have e3 : kept r.2.length (fun _ => true) (fun i => fr (r.2.getD i 0 / (1 - f))) = (wiQ s0 r).2.map fr := by
            rw [ew, List.map_map]
            exact e2
          rw [e3] at this
          exact this
end
end Dr
set_option Elab.async false
set_option linter.all false
set_option maxRecDepth 100000
set_option maxHeartbeats 4000000
set_option pp.deepTerms false
set_option pp.maxSteps 400
set_option exponentiation.threshold 20000
namespace Dr
open PySem PySem.Spec PyProof.Rows L2
theorem lk_cons {α : Type} (p : Nat × α) (l : List (Nat × α)) (k : Nat) : lk (p :: l) k = if p.1 = k then some p.2 else lk l k := by
  unfold lk
  by_cases h : p.1 = k <;> simp [h]
theorem lk_app {α : Type} : ∀ (l r : List (Nat × α)) (k : Nat), lk (l ++ r) k = (lk l k).or (lk r k)
  | [], r, k => by simp [lk]
  | p :: l, r, k => by
    rw [List.cons_append, lk_cons, lk_cons, lk_app l r k]
    split <;> simp
theorem lk_repl {α : Type} (k : Nat) (v : α) (j : Nat) : ∀ l : List (Nat × α), lk (l.map fun p => if p.1 = k then (p.1, v) else p) j = if j = k then (lk l j).map (fun _ => v) else lk l j
  | [] => by simp [lk]
  | p :: l => by
    rw [List.map_cons, lk_cons, lk_cons, lk_repl k v j l]
    by_cases h : p.1 = k
    · subst h
      by_cases h2 : p.1 = j
      · subst h2; simp
      · simp [h2, Ne.symm h2, fun e : j = p.1 => h2 e.symm]
    · by_cases h2 : p.1 = j
      · subst h2; simp [h]
      · simp [h, h2]
theorem lk_pt {α : Type} (l : List (Nat × α)) (k : Nat) (v : α) (j : Nat) : lk (pt l k v) j = if j = k then some v else lk l j := by
  unfold pt
  split
  · rename_i h
    rw [lk_repl]
    split
    · rename_i e
      subst e
      rw [lk_hs] at h
      obtain ⟨x, hx⟩ := Option.isSome_iff_exists.mp h
      rw [hx]; rfl
    · rfl
  · rename_i h
    rw [lk_app, lk_cons]
    have hn : lk l k = none := by
      have : hs l k = false := by simpa using h
      rw [lk_hs] at this
      simpa using this
    by_cases e : j = k
    · subst e; simp [hn]
    · have : ¬ k = j := fun z => e z.symm
      simp [e, this, lk]
theorem lk_filter {α : Type} (t : Nat) : ∀ (l : List (Nat × α)) (k : Nat), lk (l.filter fun p => !decide (p.1 = t)) k = if k = t then none else lk l k
  | [], k => by simp [lk]
  | p :: l, k => by
    rw [List.filter_cons]
    by_cases h : p.1 = t
    · subst h
      simp only [decide_true, Bool.not_true, Bool.false_eq_true, if_false, lk_filter p.1 l k]
      by_cases e : k = p.1
      · simp [e]
      · have : ¬ p.1 = k := fun z => e z.symm
        simp [e, lk_cons, this]
    · simp only [h, decide_false, Bool.not_false, if_true, lk_cons, lk_filter t l k]
      by_cases e : p.1 = k
      · subst e; simp [h]
      · simp [e]
theorem putF_out {sh : Rat} {t : Nat} : ∀ (o acc : List (Nat × Rat)), t ∉ o.map (·.1) → lk (putF sh o acc) t = lk acc t
  | [], acc, _ => rfl
  | p :: o, acc, h => by
    rw [List.map_cons, List.mem_cons, not_or] at h
    show lk (putF sh o (pt acc p.1 _)) t = _
    rw [putF_out o _ h.2, lk_pt, if_neg h.1]
theorem TabOk.filter {α : Type} {n : Nat} {l : List (Nat × α)} (h : TabOk n l) (f : Nat × α → Bool) : TabOk n (l.filter f) :=
  ⟨fun p hp => h.lt p (List.mem_filter.mp hp).1, h.nd.sublist (List.filter_sublist.map _)⟩
theorem putF_tab {sh : Rat} {n : Nat} : ∀ (o acc : List (Nat × Rat)), (∀ p ∈ o, p.1 < n) → TabOk n acc → TabOk n (putF sh o acc)
  | [], acc, _, h => h
  | p :: o, acc, ho, h => putF_tab o _ (fun q hq => ho q (List.mem_cons_of_mem _ hq)) (h.pt (ho p (List.mem_cons_self ..)) _)
/-- rows as data, apart from the dict at p -/
theorem rw_rm {K : PySem.W.Frag} {H : Hp} {p a dd : Addr} {lv : V} {kv : List (Key × V)} {r : RowQ} (hp : H p = some (.dK kv)) (ha : SqT K H a [.ref dd, lv]) (hd : Im K H (.ref dd) (flD r.1)) (hl : Im K H lv (nlD r.2)) (ne : dd ≠ p) : Im K (rm p H) (.ref a) (rwD r) := by
  refine .tup ((rm_tx hp).sq _ _ ha) (.cons ?_ (.cons (hl.lsx (rm_ls hp) (rm_tx hp) (pls_map fr_pl _)) .nil))
  obtain ⟨d2, kvs, e, h1, h2⟩ := hd.dcI
  cases e
  exact .dc (rm_rd h1 ne) (h2.up (rm_tx hp) (mv_pl fr_pl _))
section
variable {P : Program} {w : World} {K : PySem.W.Frag} {mg : Str → Option Value} {base : Heap}
def prePut (z wd : Nat) (ds : List D) (r' : RowQ) : Prop := ∃ (r o : RowQ) (s : Nat), ds = [flD r.1, nlD r.2, .int s, rwD o] ∧ z ≤ 1000 ∧ wd ≤ 1000 ∧ RowOk z wd r ∧ RowOk z wd o ∧ hs r.1 s = true ∧ r' = putQ s o r
theorem sc38 : FnScope ["factors", "numbers", "at", "other", "share", "found", "there", "factor", "near", "far"] ["factors", "numbers", "at", "other"] (defScope (top 38)) := ⟨rfl, rfl, rfl, by decide +kernel, rfl, by decide +kernel, by decide +kernel⟩
theorem pr_put (T : Txt K mg) {z wd : Nat} (Fp : Pr P w K mg base "plus" 36 ["one", "other"] (spD K (preBin (fun _ _ => True) (· + ·)))) (Ft : Pr P w K mg base "times" 36 ["one", "other"] (spD K (preBin (fun _ _ => True) (· * ·)))) :
    Pr P w K mg base "put_in" 37 ["factors", "numbers", "at", "other"] (spRow K (prePut z wd)) := by
  have hBW := BW_eq
  refine mk_pr T 24 rfl sc38 (fun _ _ _ _ _ _ us hl => match us, hl with | [_, _, _, _], _ => rfl) (fun vs H Q E h => ?_) (fun cdv A outer s H vs Q E hr h => ?_)
  · obtain ⟨ds, d, ⟨r, o, s, rfl, _⟩, hI, _⟩ := h
    exact hI.len
  · obtain ⟨ds, d, ⟨r, o, s0, rfl, hz, hwd, ro, oo, hs0, rfl⟩, hI, k⟩ := h
    cases hI with
    | @cons v1 _ _ _ h1 hI =>
    cases hI with
    | @cons v2 _ _ _ h2 hI =>
    cases hI with
    | cons h3 hI =>
    cases hI with
    | @cons v4 _ _ _ h4 hI =>
    cases hI
    have e3 := h3.intI
    subst e3
    obtain ⟨q, kvs, rfl, hrd, hkv⟩ := h1.dcI
    have h4' := h4
    obtain ⟨a4, xs4, rfl, hsq4, hx4⟩ := h4'.tupI
    cases hx4 with
    | @cons w1 _ _ _ g1 hx4 =>
    cases hx4 with
    | @cons w2 _ _ _ g2 hx4 =>
    cases hx4
    obtain ⟨q2, kvs2, rfl, hrd2, hkv2⟩ := g1.dcI
    have fz : mg "zip" = none := T.free _ (by decide +kernel)
    rw [lk_hs] at hs0
    obtain ⟨sh, hsh⟩ := Option.isSome_iff_exists.mp hs0
    have esh : share s0 r = sh := by unfold share; rw [hsh]; rfl
    have smsh := lk_bound ro.sf hsh
    have tb := ro.tab.len
    have tb2 := oo.tab.len
    refine w_cons (s_parC sc38.nd 4 5 (wa_cons (we_ev (ev_dget hr (n := s0) (d := fr sh) (ev_var 0 rfl h1) (ev_var 2 rfl (.int _)) (by rw [mv_lk, hsh]; rfl)) fun v5 H1 s1 hv5 => wa_cons (we_dnew fun p hp => wa_nil ⟨_, _, rfl, fun pt2 hpt2 => ?_⟩))))
    have sN : Same (upd H1 p (.dK [])) (upd (upd H1 p (.dK [])) pt2 (.tup [v5, .ref p])) := Same.new hpt2
    have npq : q ≠ p := by
      rintro rfl
      rcases Same.rd s1 hrd with z | ⟨_, z⟩ <;> rw [hp] at z <;> cases z
    have npq2 : q2 ≠ p := by
      rintro rfl
      rcases Same.rd s1 hrd2 with z | ⟨_, z⟩ <;> rw [hp] at z <;> cases z
    have hp0 : H p = none := s1.free hp
    have s02 : Same H (upd (upd H1 p (.dK [])) pt2 (.tup [v5, .ref p])) := (s1.trans (Same.new hp)).trans sN
    have hpp : (upd (upd H1 p (.dK [])) pt2 (.tup [v5, .ref p])) p = some (.dK []) := sN _ _ upd_same
    -- the first walk
    refine w_cons (s_lock (Same.rd s02 hrd) fun ob HL U L => ?_)
    have hkL := (hkv.ex s02).rs L.rs
    refine s_for (wk_items (vv_var 0 rfl) L.lk hkL (mv_pl fr_pl _)) fun H3 s3 => ⟨fun i σ' H' => ∃ (x6 x7 : Option V), σ' = [some (.ref q), some v2, some (.int (s0 : Nat)), some (.ref a4), some v5, some (.ref p), x6, x7, none, none] ∧ Mu p H3 H' ∧ Tx K H3 H' ∧ Dk K H' p (mv fr ((r.1.take i).filter fun p => !decide (p.1 = s0))),
      ⟨none, none, rfl, Mu.refl, .refl, [], s3 _ _ (by rw [L.ot p (Ne.symm npq)]; exact hpp), .nil⟩, ?_, ?_, ?_⟩
    · rintro i σ' H' ⟨_, _, _, mu, tx, _⟩
      exact ⟨fun u z => mu.at npq z, tx⟩
    · rintro i d v σ' H4 H5 hd ⟨x6, x7, rfl, mu, tx, hDk⟩ s5 hv
      obtain ⟨p0, hp0, rfl⟩ := fl_items hd
      obtain ⟨t, x⟩ := p0
      refine g_pair sc38.nd 6 7 hv fun w6 w7 hw6 hw7 => ?_
      have e6 := hw6.intI
      subst e6
      have hit : i < r.1.length := (List.getElem?_eq_some_iff.mp hp0).1
      have ht : r.1.take (i + 1) = r.1.take i ++ [(t, x)] := by rw [List.take_succ, hp0]; rfl
      have hDk5 := hDk.ex s5
      refine w_one (s_if (EvT.cast (et_neI (i := (t : Int)) (j := (s0 : Int)) (ev_var 6 rfl (.int _)) (ev_var 2 rfl (.int _))) (show _ = !decide (t = s0) from ?_)) (fun q6 H6 s6 => ?_) fun q6 H6 s6 => w_nil ?_)
      · congr 1
        by_cases q : t = s0
        · rw [decide_eq_true q, decide_eq_true (by omega)]
        · rw [decide_eq_false q, decide_eq_false (by omega)]
      · have hno : hs ((r.1.take i).filter fun p => !decide (p.1 = s0)) t = false := by
          cases q2 : hs ((r.1.take i).filter fun p => !decide (p.1 = s0)) t with
          | false => rfl
          | true =>
            exfalso
            obtain ⟨pp, g1, g2⟩ := List.mem_map.mp (hs_mem.mp q2)
            have g3 := (List.mem_filter.mp g1).1
            have nd2 : ((r.1.take (i + 1)).map (·.1)).Nodup := ro.tab.nd.sublist ((List.take_sublist _ _).map _)
            rw [ht, List.map_append, List.nodup_append] at nd2
            exact nd2.2.2 pp.1 (List.mem_map_of_mem g3) t (by simp) g2
        refine w_one (s_dput hr (n := t) (d := fr x) (ev_var 7 rfl (hw7.ex s6)) (vv_var 5 rfl) (hDk5.ex s6) (ev_var 6 rfl (.int _)) rfl (mv_pl fr_pl _) (by
          rw [mv_len]
          have : ((r.1.take i).filter fun p => !decide (p.1 = s0)).length ≤ r.1.length := Nat.le_trans (List.length_filter_le _ _) (by rw [List.length_take]; omega)
          omega) fun H7 m7 tx7 hD7 => ?_)
        rw [← mv_pt, pt_new hno] at hD7
        have s46 := s5.trans s6
        refine ⟨_, _, rfl, (mu.trans (rm_same s46)).trans m7, (tx.trans (Same.tx s46)).trans tx7, ?_⟩
        rw [ht, List.filter_append]
        have : [(t, x)].filter (fun p => !decide (p.1 = s0)) = [(t, x)] := by simp only [List.filter_cons, q6, if_true, List.filter_nil]
        rw [this]; exact hD7
      · have s46 := s5.trans s6
        refine ⟨_, _, rfl, mu.trans (rm_same s46), tx.trans (Same.tx s46), ?_⟩
        rw [ht, List.filter_append]
        have : [(t, x)].filter (fun p => !decide (p.1 = s0)) = [] := by simp only [List.filter_cons, q6, Bool.false_eq_true, if_false, List.filter_nil]
        rw [this, List.append_nil]; exact hDk5.ex s6
    rintro σ' H4 ⟨x6, x7, rfl, mu4, tx4, hDk4⟩
    rw [List.length_map, mv_len, List.take_length] at hDk4
    obtain ⟨hq4, sU⟩ := L.fin s3 mu4 npq s02 hp0
    refine ⟨hq4.trans L.lk, ?_⟩
    have hD4 : Dk K (U H4) p (mv fr (r.1.filter fun p => !decide (p.1 = s0))) := by
      obtain ⟨kv, z1, z2⟩ := hDk4
      exact ⟨kv, by rw [L.uo _ _ (Ne.symm npq)]; exact z1, z2.rs (L.back hq4)⟩
    have hv5U : Im K (U H4) v5 (fr sh) := (((((hv5.ex (Same.new hp)).ex sN).rs L.rs).ex s3).up tx4 rfl).rs (L.back hq4)
    have fl1 : (r.1.filter fun p => !decide (p.1 = s0)).length ≤ r.1.length := List.length_filter_le _ _
    -- the second walk
    refine w_cons (s_lock (Same.rd sU hrd2) fun ob2 HL2 U2 L2 => ?_)
    have hkL2 := (hkv2.ex sU).rs L2.rs
    have hpL2 : Dk K HL2 p (mv fr (r.1.filter fun p => !decide (p.1 = s0))) := by
      obtain ⟨kv, z1, z2⟩ := hD4
      exact ⟨kv, by rw [L2.ot p (Ne.symm npq2)]; exact z1, z2.rs L2.rs⟩
    have hsq4L : SqT K HL2 a4 [.ref q2, w2] := L2.rs.tx.sq _ _ ((Same.tx sU).sq _ _ hsq4)
    have tab0 : TabOk z (r.1.filter fun p => !decide (p.1 = s0)) := ro.tab.filter _
    refine s_for (wk_items (vv_ixT (vv_var 3 rfl) hsq4L ev_int rfl) L2.lk hkL2 (mv_pl fr_pl _)) fun H5 s5 => ⟨fun i σ' H' => ∃ (x6 x7 : Option V), σ' = [some (.ref q), some v2, some (.int (s0 : Nat)), some (.ref a4), some v5, some (.ref p), x6, x7, none, none] ∧ Mu p H5 H' ∧ Tx K H5 H' ∧ Dk K H' p (mv fr (putF sh (o.1.take i) (r.1.filter fun p => !decide (p.1 = s0)))),
      ⟨x6, x7, rfl, Mu.refl, .refl, hpL2.ex s5⟩, ?_, ?_, ?_⟩
    · rintro i σ' H' ⟨_, _, _, mu, tx, _⟩
      exact ⟨fun u z => mu.at npq2 z, tx⟩
    · rintro i d v σ' H6 H7 hd ⟨y6, y7, rfl, mu, tx, hDk⟩ s7 hv
      obtain ⟨p0, hp0', rfl⟩ := fl_items hd
      obtain ⟨t, x⟩ := p0
      refine g_pair sc38.nd 6 7 hv fun w6 w7 hw6 hw7 => ?_
      have e6 := hw6.intI
      subst e6
      have ht : o.1.take (i + 1) = o.1.take i ++ [(t, x)] := by rw [List.take_succ, hp0']; rfl
      have hDk7 := hDk.ex s7
      have hv5' : Im K H7 v5 (fr sh) := (((hv5U.rs L2.rs).ex s5).up tx rfl).ex s7
      have smx : Sm BW x := oo.sf _ (List.mem_of_getElem? hp0')
      have tabi : TabOk z (putF sh (o.1.take i) (r.1.filter fun p => !decide (p.1 = s0))) := putF_tab _ _ (fun p hp => oo.tab.lt p (List.mem_of_mem_take hp)) tab0
      have leni := tabi.len
      have hold : lk (putF sh (o.1.take i) (r.1.filter fun p => !decide (p.1 = s0))) t = lk (r.1.filter fun p => !decide (p.1 = s0)) t := by
        refine putF_out _ _ fun hm => ?_
        have nd2 : ((o.1.take (i + 1)).map (·.1)).Nodup := oo.tab.nd.sublist ((List.take_sublist _ _).map _)
        rw [ht, List.map_append, List.nodup_append] at nd2
        exact nd2.2.2 t hm t (by simp) rfl
      have smold : Sm BW ((lk (putF sh (o.1.take i) (r.1.filter fun p => !decide (p.1 = s0))) t).getD 0) := by
        rw [hold]
        exact SmF.get (fun p hp => ro.sf p (List.mem_filter.mp hp).1) (by omega) t
      have smprod : Sm (BW + BW) (sh * x) := smsh.mul smx
      refine w_one (s_dput hr (n := t) (d := fr ((lk (putF sh (o.1.take i) (r.1.filter fun p => !decide (p.1 = s0))) t).getD 0 + sh * x)) (ev_call Fp hr (ea_cons (Ev.cast (ev_dgetd hr (n := t) (ev_var 5 rfl hDk7.im) (ev_var 6 rfl (.int _)) (ev_zero T)) (show _ = fr ((lk (putF sh (o.1.take i) (r.1.filter fun p => !decide (p.1 = s0))) t).getD 0) from ?_)) (ea_one (ev_call Ft hr (ea_cons (ev_var 4 rfl hv5') (ea_one (ev_var 7 rfl hw7))) ⟨sh, x, rfl, smsh.up (by omega), smx.up (by omega), trivial, rfl⟩)))
        ⟨_, sh * x, rfl, smold.up (by omega), smprod.up (by omega), trivial, rfl⟩) (vv_var 5 rfl) hDk7 (ev_var 6 rfl (.int _)) rfl (mv_pl fr_pl _) (by rw [mv_len]; omega) fun H8 m8 tx8 hD8 => ?_)
      · rw [mv_lk]
        cases lk (putF sh (o.1.take i) (r.1.filter fun p => !decide (p.1 = s0))) t <;> rfl
      · rw [← mv_pt] at hD8
        refine ⟨_, _, rfl, (mu.trans (rm_same s7)).trans m8, (tx.trans (Same.tx s7)).trans tx8, ?_⟩
        have : putF sh (o.1.take (i + 1)) (r.1.filter fun p => !decide (p.1 = s0)) = pt (putF sh (o.1.take i) (r.1.filter fun p => !decide (p.1 = s0))) t ((lk (putF sh (o.1.take i) (r.1.filter fun p => !decide (p.1 = s0))) t).getD 0 + sh * x) := by
          rw [ht]
          simp only [putF, List.foldl_append, List.foldl_cons, List.foldl_nil]
        rw [this]; exact hD8
    rintro σ' H6 ⟨y6, y7, rfl, mu6, tx6, hDk6⟩
    rw [List.length_map, mv_len, List.take_length] at hDk6
    obtain ⟨hq6, sU2⟩ := L2.fin s5 mu6 npq2 sU hp0
    refine ⟨hq6.trans L2.lk, ?_⟩
    have hD6 : Dk K (U2 H6) p (mv fr (putQ s0 o r).1) := by
      obtain ⟨kv, z1, z2⟩ := hDk6
      refine ⟨kv, by rw [L2.uo _ _ (Ne.symm npq2)]; exact z1, ?_⟩
      have := z2.rs (L2.back hq6)
      unfold putQ
      rw [esh]; exact this
    have hv5E : Im K (U2 H6) v5 (fr sh) := (((hv5U.rs L2.rs).ex s5).up tx6 rfl).rs (L2.back hq6)
    have h2E := h2.ex sU2
    have h4E := h4.ex sU2
    have lz : r.2.length = o.2.length := by rw [ro.len, oo.len]
    refine w_one (s_retW (.of (pe_tup pa_W) (wa_cons ((vv_var 5 rfl) (U2 H6) (Same.refl _) _ fun H7 s7 => wa_cons (we_evl (el_lc sc38 [("near", 8), ("far", 9)] (fun _ => true) (fun i => fr (r.2.getD i 0 + sh * o.2.getD i 0)) (fun _ => rfl) (wk_zip fz (ev_var 1 rfl (h2E.ex s7)) (ev_ixT (ds := [flD o.1, nlD o.2]) (ev_var 3 rfl (h4E.ex s7)) ev_int rfl) (pls_map fr_pl _) (pls_map fr_pl _) (by rw [List.length_map, List.length_map, lz])) (fun H1 H2 s => ⟨Same.tx s, Same.ls s⟩) (by simp [zpD, ro.len, oo.len]; omega) ?_) fun l8 H8 hl8 s8 hL8 => wa_nil ⟨by exact Nat.le_of_ble_eq_true rfl, fun a ha => ?_⟩)))))
    · intro i d v H9 s9 hi hv
      obtain ⟨dx, dy, e1, e2, rfl⟩ := zpD_at hi
      rw [List.getElem?_map] at e1 e2
      cases q1 : r.2[i]? with
      | none => rw [q1] at e1; cases e1
      | some x =>
      cases q2 : o.2[i]? with
      | none => rw [q2] at e2; cases e2
      | some y =>
      rw [q1] at e1
      rw [q2] at e2
      obtain rfl := Option.some.inj e1
      obtain rfl := Option.some.inj e2
      have f1 : r.2.getD i 0 = x := by rw [List.getD_eq_getElem?_getD, q1]; rfl
      have f2 : o.2.getD i 0 = y := by rw [List.getD_eq_getElem?_getD, q2]; rfl
      rw [f1, f2]
      have smx : Sm BW x := ro.sn _ (List.mem_of_getElem? q1)
      have smy : Sm BW y := oo.sn _ (List.mem_of_getElem? q2)
      obtain ⟨a, xs, rfl, g1, g2⟩ := hv.tupI
      cases g2 with
      | cons g2 g3 =>
      cases g3 with
      | cons g3 g4 =>
      cases g4
      refine ⟨_, fun Q2 q s H C cl fp => g_pairV sc38.nd 8 9 g1 q, rfl, fun s H C cl fp => et_nil, fun _ s H C cl fp => ?_⟩
      exact ev_call Fp (hr.mono (by decide)) (ea_cons (ev_var 8 rfl g2) (ea_one (ev_call Ft (hr.mono (by decide)) (ea_cons (ev_var 4 rfl ((hv5E.ex s7).ex s9)) (ea_one (ev_var 9 rfl g3))) ⟨sh, y, rfl, smsh.up (by omega), smy.up (by omega), trivial, rfl⟩)))
        ⟨x, sh * y, rfl, smx.up (by omega), (smsh.mul smy).up (by omega), trivial, rfl⟩
    · have sE : Same H (upd H8 a (.tup [V.ref p, V.ref l8])) := ((sU2.trans s7).trans s8).trans (Same.new ha)
      refine k a p (.ref l8) _ sE (.of upd_same) (((hD6.ex s7).ex s8).ex (Same.new ha)).im ?_ (.inl hp0)
      have := hL8.im.ex (Same.new (o := .tup [V.ref p, V.ref l8]) ha)
      have e1 : (zpD (r.2.map fr) (o.2.map fr)).length = r.2.length := by simp [zpD, lz]
      rw [e1] at this
      have e3 : kept r.2.length (fun _ => true) (fun i => fr (r.2.getD i 0 + sh * o.2.getD i 0)) = (putQ s0 o r).2.map fr := by
        unfold putQ kept
        rw [esh, List.filter_eq_self.mpr (by intros; rfl)]
        apply List.ext_getElem?
        intro i
        by_cases hi : i < r.2.length
        · have hi2 : i < o.2.length := by omega
          simp [hi, hi2, List.getElem?_zipWith]
        · have hi2 : ¬ i < o.2.length := by omega
          simp [hi, List.getElem?_zipWith]
      rw [e3] at this
      exact this
end
end Dr
set_option Elab.async false
set_option linter.all false
set_option maxRecDepth 100000
set_option maxHeartbeats 4000000
set_option pp.deepTerms false
set_option pp.maxSteps 400
set_option exponentiation.threshold 20000
namespace Dr
open PySem PySem.Spec PyProof.Rows L2
theorem addF_tab {live : List Nat} {n t : Nat} {fs : List (Nat × Rat)} (h : TabOk n fs) (ht : t < n) : TabOk n (addF live t fs) := by
  unfold addF
  split
  · exact h.pt ht _
  · exact h
theorem addF_sm {live : List Nat} {n t : Nat} {fs : List (Nat × Rat)} (h : SmF n fs) (hn : 1 ≤ n) : SmF (n + 3) (addF live t fs) := by
  unfold addF
  split
  · refine pt_all (P := fun q => Sm (n + 3) q) (fun p hp => (h p hp).up (by omega)) ?_
    exact (SmF.get h hn t).add sm_half
  · exact fun p hp => (h p hp).up (by omega)
theorem eqOf_ok {m : Mc} {z : Nat} (ok : m.Ok z) (live : List Nat) (s : Nat) (hs : s < m.rows.length) : RowOk m.rows.length (m.n + 1) (eqOf m live s) := by
  have hBW := BW_eq
  obtain ⟨r, hr, hok⟩ := ok.at hs
  unfold eqOf
  rw [hr]
  cases r with
  | out i =>
    refine ⟨.nil, by simp [unitQ], (fun p hp => nomatch hp), fun q hq => ?_⟩
    simp only [unitQ] at hq
    rcases List.mem_append.mp hq with hq | hq
    · obtain ⟨i, _, rfl⟩ := List.mem_map.mp hq
      split
      · exact sm_one _ (by omega)
      · exact sm_zero _ (by omega)
    · rw [List.mem_singleton.mp hq]; exact sm_zero _ (by omega)
  | toss x y =>
    refine ⟨addF_tab (addF_tab .nil hok.1) hok.2, by simp, ?_, fun q hq => ?_⟩
    · have h0 : SmF 1 ([] : List (Nat × Rat)) := fun p hp => nomatch hp
      have := addF_sm (live := live) (t := y) (addF_sm (live := live) (t := x) h0 (by omega)) (by omega)
      exact fun p hp => (this p hp).up (by omega)
    · simp only at hq
      rcases List.mem_append.mp hq with hq | hq
      · rw [(List.mem_replicate.mp hq).2]; exact sm_zero _ (by omega)
      · rw [List.mem_singleton.mp hq]; exact sm_one _ (by omega)
section
variable {P : Program} {w : World} {K : PySem.W.Frag} {mg : Str → Option Value} {base : Heap}
/-- a new dict comes back, of values that may hold dicts -/
def spNew (K : PySem.W.Frag) (pre : List D → List (Nat × D) → Prop) : Sp := fun vs H Q _ => ∃ ds l, pre ds l ∧ Ims K H vs ds ∧ ∀ p H', H p = none → Same H H' → Dn K H' p l → Q (.ref p) H'
def preEqs (ds : List D) (l : List (Nat × D)) : Prop := ∃ (m : Mc) (L : List Nat), ds = [mD m, .lst (L.map nI)] ∧ m.Ok 1000 ∧ L.Nodup ∧ (∀ s ∈ L, s < m.rows.length) ∧ l = mv rwD (eqsOf m L)
theorem hs_live (L : List Nat) (k : Nat) : hs (mv (fun _ => D.bl true) (L.map fun s => (s, ()))) k = L.contains k := by
  rw [mv_hs]
  induction L with
  | nil => rfl
  | cons a L ih =>
    unfold hs at ih ⊢
    simp only [List.map_cons, List.any_cons, List.contains_cons, ih]
    congr 1
    by_cases h : a = k
    · subst h; simp
    · have : ¬ k = a := fun e => h e.symm
      simp [h, this]
theorem el_zeros {X : Cx} {σ : L2.St} {H : Hp} {e : Expr} {pos p0 p1 : Pos} {n : Nat} (T : Txt X.K X.mg) (h : Ev X e σ H (.int (n : Int))) (hn : n ≤ 100000) (hg : Gl X "ZERO" := by rfl) (hs : starEach [.Name "ZERO" p0] X.env = (false, eval (.Name "ZERO" p0) X.env) :: starEach [] X.env := by rfl) :
    EvL X (.BinOp (.List [.Name "ZERO" p0] p1) .Mult e pos) σ H ((List.replicate n (0 : Rat)).map fr) :=
  EvL.cast (el_rep (el_lst (ea_one (ev_zero T hg) hs)) h (by omega) (by simpa using hn) (by omega)) (by
    rw [Int.toNat_natCast, List.map_replicate]
    clear h hn
    induction n with
    | zero => rfl
    | succ n ih => rw [List.replicate_succ, List.flatten_cons, ih, List.replicate_succ]; rfl)
theorem sc37 : FnScope ["machine", "order", "at", "found", "live", "standing", "factors", "there"] ["machine", "order"] (defScope (top 37)) := ⟨rfl, rfl, rfl, by decide +kernel, rfl, by decide +kernel, by decide +kernel⟩
theorem pr_eqs (T : Txt K mg) (Fu : Pr P w K mg base "unit_of" 1 ["machine", "at"] (spD K preUnit)) (Fp : Pr P w K mg base "plus" 36 ["one", "other"] (spD K (preBin (fun _ _ => True) (· + ·)))) :
    Pr P w K mg base "equations_of" 37 ["machine", "order"] (spNew K preEqs) := by
  have hBW := BW_eq
  refine mk_pr T 23 rfl sc37 (fun _ _ _ _ _ _ us hl => match us, hl with | [_, _], _ => rfl) (fun vs H Q E h => ?_) (fun cdv A outer s H vs Q E hr h => ?_)
  · obtain ⟨ds, l, ⟨m, L, rfl, _⟩, hI, _⟩ := h
    exact hI.len
  · obtain ⟨ds, l, ⟨m, L, rfl, ok, hnd, hlt, rfl⟩, hI, k⟩ := h
    cases hI with
    | @cons vm _ _ _ h1 hI =>
    cases hI with
    | @cons vo _ _ _ h2 hI =>
    cases hI
    obtain ⟨to, eo⟩ := T.out
    have ok' := ok.le
    have n8 := ok.n8
    have lL : L.length ≤ 1000 := Nat.le_trans (nodup_len hnd hlt) ok'
    refine w_cons (s_par2W sc37.nd 3 4 (wa_cons (we_dnew fun p hp => wa_cons (we_dc sc37 [("at", 2)] (fun _ => true) (fun i => L.getD i 0) (fun _ => .bl true) (fun _ => rfl) (wk_lstD (ev_var 1 rfl (h2.ex (Same.new hp))) (pls_map nI_pl _)) (fun H1 H2 s => ⟨Same.tx s, Same.ls s⟩) (by rw [List.length_map]; omega) ?_ fun g H2 hg s2 hD => wa_nil ⟨_, _, rfl, ?_⟩))))
    · intro i d v H3 s3 hi hv
      rw [List.getElem?_map] at hi
      cases e : L[i]? with
      | none => rw [e] at hi; cases hi
      | some t =>
        rw [e] at hi
        obtain rfl := Option.some.inj hi
        have e2 : L.getD i 0 = t := by rw [List.getD_eq_getElem?_getD, e]; rfl
        rw [e2]
        exact ⟨_, fun Q2 q s H C cl fp => g_name sc37.nd 2 q, rfl, fun s H C cl fp => et_nil, fun _ => ⟨fun s H C cl fp => ev_var 2 rfl hv, fun s H C cl fp => ev_bl⟩⟩
    have eL : keptD (L.map nI).length (fun _ => true) (fun i => L.getD i 0) (fun _ => D.bl true) = mv (fun _ => D.bl true) (L.map fun s => (s, ())) := by
      have := keptD_list (L.map fun s => (s, ())) (fun _ => true) (fun _ => D.bl true) () (by rw [List.map_map]; simpa [Function.comp_def] using hnd)
      rw [List.filter_eq_self.mpr (by intros; rfl)] at this
      rw [← this, List.length_map, List.length_map]
      congr 1
      funext i
      simp only [List.getD_eq_getElem?_getD, List.getElem?_map]
      cases L[i]? <;> rfl
    rw [eL] at hD
    have npg : p ≠ g := by
      obtain ⟨kv, z, _⟩ := hD
      have := hg
      rintro rfl
      rw [upd_same] at this; cases this
    have hg0 : H g = none := (Same.new hp).free hg
    have s02 : Same H H2 := (Same.new hp).trans s2
    have hD0 : Dn K H2 p (mv rwD ((L.take 0).map fun s => (s, eqOf m L s))) := ⟨[], s2 _ _ upd_same, .nil⟩
    refine w_cons (s_for (wk_lstD (ev_var 1 rfl (h2.ex s02)) (pls_map nI_pl _)) fun H3 s3 => ⟨fun i σ' H' => ∃ (x2 x5 x6 x7 : Option V), σ' = [some vm, some vo, x2, some (.ref p), some (.ref g), x5, x6, x7] ∧ Same H H' ∧ Tx K H3 H' ∧ LsX H3 H' ∧ Dk K H' g (mv (fun _ => D.bl true) (L.map fun s => (s, ()))) ∧ Dn K H' p (mv rwD ((L.take i).map fun s => (s, eqOf m L s))),
      ⟨none, none, none, none, rfl, s02.trans s3, .refl, .refl, hD.ex s3, hD0.ex s3⟩, ?_, ?_, ?_⟩)
    · rintro i σ' H' ⟨_, _, _, _, _, _, tx, ls, _⟩
      exact ⟨tx, ls⟩
    · rintro i d v σ' H4 H5 hd ⟨x2, x5, x6, x7, rfl, sH, tx, ls, hLv, hDn⟩ s5 hv
      rw [List.getElem?_map] at hd
      cases e : L[i]? with
      | none => rw [e] at hd; cases hd
      | some t =>
      rw [e] at hd
      obtain rfl := Option.some.inj hd
      have ev := hv.intI
      subst ev
      have htlt := hlt t (List.mem_of_getElem? e)
      obtain ⟨r, hr1, hrok⟩ := ok.at htlt
      have ht : L.take (i + 1) = L.take i ++ [t] := by rw [List.take_succ, e]; rfl
      have hno : hs (mv rwD ((L.take i).map fun s => (s, eqOf m L s))) t = false := by
        rw [mv_hs]
        cases q : hs ((L.take i).map fun s => (s, eqOf m L s)) t with
        | false => rfl
        | true =>
          exfalso
          have := hs_mem.mp q
          rw [List.map_map] at this
          have hm : t ∈ L.take i := by simpa [Function.comp_def] using this
          have nd2 : (L.take (i + 1)).Nodup := hnd.sublist (List.take_sublist _ _)
          rw [ht, List.nodup_append] at nd2
          exact nd2.2.2 t hm t (by simp) rfl
      have hgl : (mv rwD ((L.take i).map fun s => (s, eqOf m L s))).length ≤ 1000 := by
        rw [mv_len, List.length_map, List.length_take]; omega
      have hput : ∀ (kvs : List (Key × V)) (H6 : Hp) (vv : V), H6 p = some (.dK kvs) → KvI K (rm p H6) kvs (mv rwD ((L.take i).map fun s => (s, eqOf m L s))) → Im K (rm p H6) vv (rwD (eqOf m L t)) → Dn K (upd H6 p (.dK (putK kvs (nk t) vv))) p (mv rwD ((L.take (i + 1)).map fun s => (s, eqOf m L s))) := by
        intro kvs H6 vv z1 z2 z3
        refine ⟨_, upd_same, ?_⟩
        rw [rm_upd]
        have := z2.put t z3
        rw [pt_new hno] at this
        rw [ht]
        simpa [mv] using this
      refine g_name sc37.nd 2 ?_
      have sH5 := sH.trans s5
      refine w_cons (s_set sc37.nd 5 (ev_row (ev_var 0 rfl (h1.ex sH5)) (ev_var 2 rfl (.int _)) hr1) fun v5 H6 s6 hv5 => ?_)
      have sH6 := sH5.trans s6
      refine w_one (s_if (et_isOut eo (ev_var 5 rfl hv5)) (fun q7 H7 s7 => ?_) fun q7 H7 s7 => ?_)
      · cases r with
        | toss x y => cases q7
        | out j =>
        have sH7 := sH6.trans s7
        have eqo : eqOf m L t = ([], unitQ m.n j) := by simp [eqOf, hr1]
        refine w_one (s_dputW hr (.of (pe_tup pa_W) (wa_cons (we_dnew fun c hc => wa_cons (we_ev (ev_call Fu (hr.mono (by decide)) (ea_cons (ev_var 0 rfl ((h1.ex sH7).ex (Same.new hc))) (ea_one (ev_var 2 rfl (.int _)))) ⟨m, t, j, rfl, ok, hr1, rfl⟩) fun v8 H8 s8 hv8 => wa_nil ⟨by exact Nat.le_of_ble_eq_true rfl, fun a ha => ?_⟩)))))
        have s78 : Same H7 (upd H8 a (.tup [.ref c, v8])) := ((Same.new hc).trans s8).trans (Same.new ha)
        have sX : Same H5 (upd H8 a (.tup [.ref c, v8])) := (s6.trans s7).trans s78
        obtain ⟨kvs, z1, z2⟩ := hDn.ex (s5.trans sX)
        have ncp : c ≠ p := by
          rintro rfl
          obtain ⟨kv, z, _⟩ := hDn.ex ((s5.trans s6).trans s7)
          rw [hc] at z; cases z
        refine dtail z1 (by rw [z2.len]; omega) (vv_var 3 rfl) (ev_var 2 rfl (.int _)) fun H9 s9 => ?_
        have hrow : Im K (rm p H9) (.ref a) (rwD (eqOf m L t)) := by
          rw [eqo]
          refine rw_rm (s9 _ _ z1) (dd := c) (lv := v8) (.of (s9 _ _ upd_same)) (Im.dc (kvs := []) (.of (s9 _ _ ((s8.trans (Same.new ha)) _ _ upd_same))) .nil) (hv8.ex ((Same.new ha).trans s9)) ncp
        have z2' := z2.ex (rm_same s9)
        have sY := sX.trans s9
        have mu : Mu p H9 (upd H9 p (.dK (putK kvs (nk t) (.ref a)))) := by unfold Mu; rw [rm_upd]; exact Same.refl _
        refine ⟨_, _, _, _, rfl, mu.same (sH5.trans sY) hp, (tx.trans (Same.tx (s5.trans sY))).trans (Tx.put (s9 _ _ z1) trivial), (ls.trans (Same.ls (s5.trans sY))).trans (mu.ls (s9 _ _ z1)), (hLv.ex (s5.trans sY)).mu (Ne.symm npg) mu (Tx.put (s9 _ _ z1) trivial) (mv_pl (fun _ => rfl) _), hput _ _ _ (s9 _ _ z1) z2' hrow⟩
      · cases r with
        | out j => cases q7
        | toss x y =>
        have sH7 := sH6.trans s7
        have eqo : eqOf m L t = (addF L y (addF L x []), List.replicate m.n 0 ++ [1]) := by simp [eqOf, hr1]
        refine w_cons (s_setW sc37.nd 6 (we_dnew fun c hc => ?_))
        have s57 : Same H5 (upd H7 c (.dK [])) := (s6.trans s7).trans (Same.new hc)
        have ncp : c ≠ p := by
          rintro rfl
          obtain ⟨kv, z, _⟩ := hDn.ex ((s5.trans s6).trans s7)
          rw [hc] at z; cases z
        have ncg : c ≠ g := by
          rintro rfl
          obtain ⟨kv, z, _⟩ := hLv.ex ((s5.trans s6).trans s7)
          rw [hc] at z; cases z
        refine w_cons (s_for (wk_tup (ev_sl1 (d := .str "toss") (ds := [nI x, nI y]) (ev_var 5 rfl ((hv5.ex s7).ex (Same.new hc)))) rfl) fun H8 s8 => ⟨fun j σ' H' => ∃ (fs : List (Nat × Rat)) (y7 : Option V), σ' = [some vm, some vo, some (.int (t : Nat)), some (.ref p), some (.ref g), some v5, some (.ref c), y7] ∧ Same H7 H' ∧ Tx K H8 H' ∧ Dk K H' c (mv fr fs) ∧ TabOk m.rows.length fs ∧ SmF (1 + 3 * j) fs ∧
            ((j = 0 ∧ fs = []) ∨ (j = 1 ∧ fs = addF L x []) ∨ (j = 2 ∧ fs = addF L y (addF L x []))), ⟨[], x7, rfl, (Same.new hc).trans s8, .refl, ⟨[], s8 _ _ upd_same, .nil⟩, .nil, (fun p hp => nomatch hp), .inl ⟨rfl, rfl⟩⟩, ?_, ?_, ?_⟩)
        · rintro j σ' H' ⟨_, _, _, _, tx, _⟩
          exact tx
        · rintro j d v σ' H9 H10 hj ⟨fs, y7, rfl, s79, tx9, hDc, tab, smf, hst⟩ s10 hv10
          obtain ⟨u, hu, hult, rfl⟩ : ∃ u, [x, y][j]? = some u ∧ u < m.rows.length ∧ d = nI u := by
            match j, hj with
            | 0, hj => exact ⟨x, rfl, hrok.1, (Option.some.inj hj).symm⟩
            | 1, hj => exact ⟨y, rfl, hrok.2, (Option.some.inj hj).symm⟩
          have e10 := hv10.intI
          subst e10
          refine g_name sc37.nd 7 ?_
          have hst2 : (j + 1 = 1 ∧ addF L u fs = addF L x []) ∨ (j + 1 = 2 ∧ addF L u fs = addF L y (addF L x [])) := by
            rcases hst with ⟨rfl, rfl⟩ | ⟨rfl, rfl⟩ | ⟨rfl, rfl⟩
            · obtain rfl := Option.some.inj hu
              exact .inl ⟨rfl, rfl⟩
            · obtain rfl := Option.some.inj hu
              exact .inr ⟨rfl, rfl⟩
            · cases hu
          have sm3 : SmF (1 + 3 * (j + 1)) (addF L u fs) := by
            have := addF_sm (live := L) (t := u) smf (Nat.le_add_right 1 _)
            rwa [show 1 + 3 * j + 3 = 1 + 3 * (j + 1) by omega] at this
          have j2 : j < 2 := by
            have := (List.getElem?_eq_some_iff.mp hj).1
            simpa using this
          have hLv10 : Dk K H10 g (mv (fun _ => D.bl true) (L.map fun s => (s, ()))) := hLv.ex ((((s5.trans s6).trans s7).trans s79).trans s10)
          have hDc10 := hDc.ex s10
          have tabl := tab.len
          refine w_one (s_if (EvT.cast (et_in hr (n := u) (ev_var 7 rfl (.int _)) (ev_var 4 rfl hLv10.im)) (hs_live L u)) (fun q11 H11 s11 => ?_) fun q11 H11 s11 => w_nil ?_)
          · have ead : addF L u fs = pt fs u ((lk fs u).getD 0 + 1 / 2) := by unfold addF; rw [if_pos q11]
            have smold : Sm (1 + 3 * j) ((lk fs u).getD 0) := SmF.get smf (Nat.le_add_right 1 _) u
            refine w_one (s_dput hr (n := u) (d := fr ((lk fs u).getD 0 + 1 / 2)) (ev_call Fp hr (ea_cons (Ev.cast (ev_dgetd hr (n := u) (ev_var 6 rfl (hDc10.ex s11).im) (ev_var 7 rfl (.int _)) (ev_zero T)) (show _ = fr ((lk fs u).getD 0) from ?_)) (ea_one (ev_half T))) ⟨_, 1 / 2, rfl, smold.up (by omega), sm_half.up (by omega), trivial, rfl⟩) (vv_var 6 rfl) (hDc10.ex s11) (ev_var 7 rfl (.int _)) rfl (mv_pl fr_pl _) (by rw [mv_len]; omega) fun H12 m12 tx12 hD12 => ?_)
            · rw [mv_lk]
              cases lk fs u <;> rfl
            · rw [← mv_pt, ← ead] at hD12
              exact ⟨_, _, rfl, m12.same ((s79.trans s10).trans s11) hc, (tx9.trans (Same.tx (s10.trans s11))).trans tx12, hD12, addF_tab tab hult, sm3, .inr hst2⟩
          · have ead : addF L u fs = fs := by unfold addF; rw [if_neg (by rw [q11]; simp)]
            rw [ead] at hst2 sm3
            exact ⟨_, _, rfl, (s79.trans s10).trans s11, tx9.trans (Same.tx (s10.trans s11)), hDc10.ex s11, tab, sm3, .inr hst2⟩
        · rintro σ' H9 ⟨fs, y7, rfl, s79, tx9, hDc, tab, smf, hst⟩
          have efs : fs = addF L y (addF L x []) := by
            rcases hst with ⟨e, _⟩ | ⟨e, _⟩ | ⟨_, e⟩
            · cases e
            · cases e
            · exact e
          subst efs
          have sH9 := sH7.trans s79
          refine w_one (s_dputW hr (.of (pe_tup pa_W) (wa_cons ((vv_var 6 rfl) H9 (Same.refl _) _ fun H10 s10 => wa_cons (we_evl (el_cat (el_zeros T (ev_mn (ev_var 0 rfl (h1.ex (sH9.trans s10)))) (by omega)) (el_lst (ea_one (ev_oneF T))) (by simp; omega)) fun l11 H11 hl11 s11 hL11 => wa_nil ⟨by exact Nat.le_of_ble_eq_true rfl, fun a ha => ?_⟩)))))
          have sX : Same H9 (upd H11 a (.tup [.ref c, .ref l11])) := (s10.trans s11).trans (Same.new ha)
          have s59 := ((s6.trans s7).trans s79)
          obtain ⟨kvs, z1, z2⟩ := hDn.ex ((s5.trans s59).trans sX)
          refine dtail z1 (by rw [z2.len]; omega) (vv_var 3 rfl) (ev_var 2 rfl (.int _)) fun H12 s12 => ?_
          have hrow : Im K (rm p H12) (.ref a) (rwD (eqOf m L t)) := by
            rw [eqo]
            refine rw_rm (s12 _ _ z1) (dd := c) (lv := .ref l11) (.of (s12 _ _ upd_same)) (hDc.ex (sX.trans s12)).im ?_ ncp
            have := (hL11.ex ((Same.new (o := .tup [.ref c, .ref l11]) ha).trans s12)).im
            unfold nlD
            rw [List.map_append]
            exact this
          have z2' := z2.ex (rm_same s12)
          have sY := (s59.trans sX).trans s12
          have mu : Mu p H12 (upd H12 p (.dK (putK kvs (nk t) (.ref a)))) := by unfold Mu; rw [rm_upd]; exact Same.refl _
          refine ⟨_, _, _, _, rfl, mu.same (sH5.trans sY) hp, (tx.trans (Same.tx (s5.trans sY))).trans (Tx.put (s12 _ _ z1) trivial), (ls.trans (Same.ls (s5.trans sY))).trans (mu.ls (s12 _ _ z1)), (hLv.ex (s5.trans sY)).mu (Ne.symm npg) mu (Tx.put (s12 _ _ z1) trivial) (mv_pl (fun _ => rfl) _), hput _ _ _ (s12 _ _ z1) z2' hrow⟩
    · rintro σ' H4 ⟨x2, x5, x6, x7, rfl, sH, tx, ls, hLv, hDn⟩
      rw [List.length_map, List.take_length] at hDn
      exact w_one (s_retW ((vv_var 3 rfl) H4 (Same.refl _) _ fun H5 s5 => k p H5 hp (sH.trans s5) (hDn.ex s5)))
end
end Dr
set_option Elab.async false
set_option linter.all false
set_option maxRecDepth 100000
set_option maxHeartbeats 4000000
set_option pp.deepTerms false
set_option pp.maxSteps 400
set_option exponentiation.threshold 20000
namespace Dr
open PySem PySem.Spec PyProof.Rows L2
section
variable {X : Cx} {σ : L2.St} {H H' : Hp} {a b c e : Expr} {es : List Expr} {pos p p1 p2 apos cpos tpos : Pos} {d d1 d2 : D} {ds ds2 : List D} {n k : Nat} {Z : Ends}
/-- range(n - 1, -1, -1) -/
def rdD (n : Nat) : List D := (List.range n).map fun i : Nat => D.int ((n : Int) - 1 - (i : Int))
theorem rdD_at {n i : Nat} {d : D} (h : (rdD n)[i]? = some d) : i < n ∧ d = nI (n - 1 - i) := by
  have hi : i < n := by
    have := (List.getElem?_eq_some_iff.mp h).1
    simpa [rdD] using this
  refine ⟨hi, ?_⟩
  simp only [rdD, List.getElem?_map, List.getElem?_range hi, Option.map_some, Option.some.injEq] at h
  rw [← h]
  unfold nI
  congr 1
  omega
theorem wk_rngD {tg : Expr} (hm : X.mg "range" = none) (ha : Ev X a σ H (.int ((n : Int) - 1))) (hb : Ev X b σ H (.int (-1))) (hc : Ev X c σ H (.int (-1))) (hn : n ≤ 1000000) (hg : Gl X "range" := by rfl)
    (hs : starEach [a, b, c] X.env = (false, eval a X.env) :: starEach [b, c] X.env := by rfl) (hs2 : starEach [b, c] X.env = (false, eval b X.env) :: starEach [c] X.env := by rfl) (hs3 : starEach [c] X.env = (false, eval c X.env) :: starEach [] X.env := by rfl)
    (hpl : (backTo pos (starEach [b, c] X.env)).any (·.1) = false := by rfl) : Wk X tg (.Call (.Name "range" p) [a, b, c] [] pos) σ H (rdD n) (fun _ _ => True) := fun H1 s R r =>
  ⟨_, pi_range3 hg hm pa_W hs hpl, wa_cons (ha.int H1 s _ fun H2 s2 => wa_cons (hb.int H2 (s.trans s2) _ fun H3 s3 => wa_cons (hc.int H3 ((s.trans s2).trans s3) _ fun H4 s4 => wa_nil ⟨(n : Int) - 1, -1, -1, ((n : Int) - 1 - (-1)).toNat, rfl, RgC.neg (by omega) (by omega) (by omega) (by omega), by
    have e : ((n : Int) - 1 - (-1)).toNat = n := by omega
    rw [e]
    refine r _ H4 (fun _ => True) ((s2.trans s3).trans s4) ⟨fun i H' hi t => by show i < n; simpa [rdD] using hi, fun H' t => by show n ≤ _; simp [rdD], fun i H' x H5 hi t y => ?_⟩ fun H' n => trivial
    obtain ⟨rfl, rfl⟩ := y
    have hi : i < n := by simpa [rdD] using hi
    refine ⟨Same.refl _, .int ((n : Int) - 1 - (i : Int)), ?_, ?_⟩
    · simp [rdD, hi]
    · have e2 : (n : Int) - 1 + (i : Int) * -1 = (n : Int) - 1 - (i : Int) := by omega
      rw [e2]
      exact .int _⟩) hs3) hs2) hs⟩
/-- l[:n] -/
theorem el_upto (ha : Ev X a σ H (.lst ds)) (hb : Ev X b σ H (.int (n : Int))) (hn : n ≤ ds.length) : EvL X (.Subscript a (.Slice none (some b) none p2) pos) σ H (ds.take n) :=
  fun H1 s Q q => .of (pe_slice sl_list pe_W po_none (po_some pe_W)) (ha H1 s _ fun v H2 s2 hv => hb.int H2 (s.trans s2) _ fun H3 s3 => ⟨n, rfl, by
    obtain ⟨p, xs, rfl, h1, h2⟩ := (hv.ex s3).lstI
    refine ⟨p, xs, rfl, .inl h1, fun r hr => ?_⟩
    have e : cutV xs none (some (n : Int)) = xs.take n := by
      unfold cutV
      rw [HT.sIx_none, HT.sIx_nat, List.drop_zero, Nat.sub_zero, h2.len, Nat.min_eq_left hn]
    rw [e]
    exact q r _ _ (s2.free (s3.free hr)) ((s2.trans s3).trans (Same.new hr)) upd_same ((h2.take n).ex (Same.new hr))⟩)
end
/-! ### the elimination, plain -/
abbrev Rows := List (Nat × RowQ)
def rowAt (rows : Rows) (s : Nat) : RowQ := (lk rows s).getD ([], [])
def nearStep (s : Nat) (o : RowQ) (rows : Rows) (near : Nat) : Rows := if hs (rowAt rows near).1 s = true then pt rows near (putQ s o (rowAt rows near)) else rows
def spotA (rows : Rows) (s : Nat) : Rows := pt rows s (wiQ s (rowAt rows s))
def nears (L : List Nat) (rows : Rows) (s j : Nat) : Rows := (L.take j).foldl (nearStep s (wiQ s (rowAt rows s))) (spotA rows s)
def elimAt (m : Mc) (L : List Nat) : Nat → Rows
  | 0 => eqsOf m L
  | i + 1 => nears L (elimAt m L i) (L.getD (L.length - 1 - i) 0) (L.length - 1 - i)
def liveL (m : Mc) : List Nat := ((ways m 0).map (·.1)).filter (hs (ends m))
def numStep (found : List (Nat × List Rat)) (num : List Rat) (p : Nat × Rat) : List Rat := List.zipWith (fun a b => a + p.2 * b) num ((lk found p.1).getD [])
def backNum (rows : Rows) (found : List (Nat × List Rat)) (s j : Nat) : List Rat := ((rowAt rows s).1.take j).foldl (numStep found) (rowAt rows s).2
def backStep (rows : Rows) (found : List (Nat × List Rat)) (s : Nat) : List (Nat × List Rat) := pt found s (backNum rows found s (rowAt rows s).1.length)
def found0 (m : Mc) : List (Nat × List Rat) := (ways m 0).map fun p => (p.1, List.replicate (m.n + 1) 0)
def backAt (m : Mc) (rows : Rows) (L : List Nat) (i : Nat) : List (Nat × List Rat) := (L.take i).foldl (backStep rows) (found0 m)
def valsQ (m : Mc) : List (Nat × List Rat) := backAt m (elimAt m (liveL m) (liveL m).length) (liveL m) (liveL m).length
def GoodRows (m : Mc) (L : List Nat) (rows : Rows) : Prop := ∀ t ∈ L, RowOk m.rows.length (m.n + 1) (rowAt rows t)
structure SolveOk (m : Mc) : Prop where
  good : ∀ i, i ≤ (liveL m).length → GoodRows m (liveL m) (elimAt m (liveL m) i)
  piv : ∀ i, i < (liveL m).length → ∀ f, lk (rowAt (elimAt m (liveL m) i) ((liveL m).getD ((liveL m).length - 1 - i) 0)).1 ((liveL m).getD ((liveL m).length - 1 - i) 0) = some f → f < 1
  near : ∀ i, i < (liveL m).length → ∀ j, j ≤ (liveL m).length - 1 - i → GoodRows m (liveL m) (nears (liveL m) (elimAt m (liveL m) i) ((liveL m).getD ((liveL m).length - 1 - i) 0) j)
  keys : ∀ t ∈ liveL m, ∀ p ∈ (rowAt (elimAt m (liveL m) (liveL m).length) t).1, p.1 ∈ liveL m
  back : ∀ i, i ≤ (liveL m).length → ∀ p ∈ backAt m (elimAt m (liveL m) (liveL m).length) (liveL m) i, SmL BW p.2
  part : ∀ i, i < (liveL m).length → ∀ j, SmL BW (backNum (elimAt m (liveL m) (liveL m).length) (backAt m (elimAt m (liveL m) (liveL m).length) (liveL m) i) ((liveL m).getD i 0) j)
/-! keys stay -/
theorem pt_same {α : Type} {l : List (Nat × α)} {k : Nat} {v : α} (h : hs l k = true) : (pt l k v).map (·.1) = l.map (·.1) := by rw [pt_keys, if_pos h]
theorem near_keys {rows : Rows} {s near : Nat} {o : RowQ} : ((nearStep s o rows near).map (·.1)) = rows.map (·.1) := by
  unfold nearStep
  split
  · rename_i h
    refine pt_same ?_
    rw [lk_hs]
    unfold rowAt at h
    cases e : lk rows near with
    | none => rw [e] at h; cases h
    | some r => rfl
  · rfl
theorem nears_keys {L : List Nat} {rows : Rows} {s : Nat} (hs0 : s ∈ rows.map (·.1)) : ∀ j, (nears L rows s j).map (·.1) = rows.map (·.1) := by
  intro j
  unfold nears
  have h0 : (spotA rows s).map (·.1) = rows.map (·.1) := pt_same (hs_mem.mpr hs0)
  generalize spotA rows s = r0 at h0
  rw [← h0]
  induction L.take j generalizing r0 with
  | nil => rfl
  | cons t r ih => rw [List.foldl_cons, ih _ (near_keys.trans h0)]; exact near_keys
theorem getD_mem {L : List Nat} {i : Nat} (h : i < L.length) : L.getD i 0 ∈ L := by
  rw [List.getD_eq_getElem?_getD, List.getElem?_eq_getElem h]
  exact List.getElem_mem h
theorem elim_keys {m : Mc} {L : List Nat} : ∀ i, i ≤ L.length → (elimAt m L i).map (·.1) = L
  | 0, _ => by simp [elimAt, eqsOf, Function.comp_def]
  | i + 1, h => by
    have ih := elim_keys (m := m) (L := L) i (by omega)
    show (nears _ _ _ _).map _ = _
    rw [nears_keys, ih]
    rw [ih]
    exact getD_mem (by omega)
theorem rowAt_some {rows : Rows} {t : Nat} (h : t ∈ rows.map (·.1)) : lk rows t = some (rowAt rows t) := by
  have := hs_mem.mpr h
  rw [lk_hs] at this
  obtain ⟨r, hr⟩ := Option.isSome_iff_exists.mp this
  unfold rowAt
  rw [hr]; rfl
theorem back_keys {m : Mc} {rows : Rows} {L : List Nat} (hL : ∀ t ∈ L, t ∈ (ways m 0).map (·.1)) : ∀ i, (backAt m rows L i).map (·.1) = (ways m 0).map (·.1) := by
  intro i
  unfold backAt
  have h0 : (found0 m).map (·.1) = (ways m 0).map (·.1) := by simp [found0, Function.comp_def]
  have hL' : ∀ t ∈ L.take i, t ∈ (ways m 0).map (·.1) := fun t h => hL t (List.mem_of_mem_take h)
  generalize found0 m = f0 at h0
  generalize L.take i = M at hL'
  induction M generalizing f0 with
  | nil => exact h0
  | cons t r ih =>
    rw [List.foldl_cons]
    refine ih (backStep rows f0 t) ?_ fun u hu => hL' u (List.mem_cons_of_mem _ hu)
    unfold backStep
    rw [pt_same, h0]
    rw [hs_mem, h0]
    exact hL' t (List.mem_cons_self ..)
theorem backNum_len {rows : Rows} {found : List (Nat × List Rat)} {s wd : Nat} (h1 : (rowAt rows s).2.length = wd) (h2 : ∀ p ∈ (rowAt rows s).1, ∃ x, lk found p.1 = some x ∧ x.length = wd) : ∀ j, (backNum rows found s j).length = wd := by
  intro j
  unfold backNum
  have h2' : ∀ p ∈ (rowAt rows s).1.take j, ∃ x, lk found p.1 = some x ∧ x.length = wd := fun p hp => h2 p (List.mem_of_mem_take hp)
  generalize (rowAt rows s).2 = num at h1
  generalize (rowAt rows s).1.take j = M at h2'
  induction M generalizing num with
  | nil => exact h1
  | cons p r ih =>
    rw [List.foldl_cons]
    refine ih (numStep found num p) ?_ fun q hq => h2' q (List.mem_cons_of_mem _ hq)
    obtain ⟨x, hx, hl⟩ := h2' p (List.mem_cons_self ..)
    unfold numStep
    rw [hx, List.length_zipWith, h1, Option.getD_some, hl, Nat.min_self]
theorem back_len {m : Mc} {rows : Rows} {L : List Nat} {wd : Nat} (hwd : m.n + 1 = wd) (hL : ∀ t ∈ L, t ∈ (ways m 0).map (·.1)) (h1 : ∀ t ∈ L, (rowAt rows t).2.length = wd) (h2 : ∀ t ∈ L, ∀ p ∈ (rowAt rows t).1, p.1 ∈ L) : ∀ i, ∀ p ∈ backAt m rows L i, p.2.length = wd
  | 0 => fun p hp => by
    have hp : p ∈ (ways m 0).map fun p => (p.1, List.replicate (m.n + 1) (0 : Rat)) := hp
    obtain ⟨q, _, rfl⟩ := List.mem_map.mp hp
    simpa using hwd
  | i + 1 => by
    have ih := back_len hwd hL h1 h2 i
    by_cases hi : i < L.length
    · have ht : L.take (i + 1) = L.take i ++ [L[i]] := by rw [List.take_succ, List.getElem?_eq_getElem hi]; rfl
      have e : backAt m rows L (i + 1) = backStep rows (backAt m rows L i) L[i] := by
        unfold backAt
        rw [ht, List.foldl_append]; rfl
      rw [e]
      have hm : L[i] ∈ L := List.getElem_mem hi
      refine pt_all (P := fun x : List Rat => x.length = wd) ih (backNum_len (h1 _ hm) (fun p hp => ?_) _)
      have hk : p.1 ∈ (backAt m rows L i).map (·.1) := by
        rw [back_keys hL]
        exact hL _ (h2 _ hm p hp)
      have := hs_mem.mpr hk
      rw [lk_hs] at this
      obtain ⟨x, hx⟩ := Option.isSome_iff_exists.mp this
      exact ⟨x, hx, ih _ (lk_mem hx)⟩
    · have e : backAt m rows L (i + 1) = backAt m rows L i := by
        unfold backAt
        rw [List.take_of_length_le (by omega), List.take_of_length_le (by omega)]
      rw [e]; exact ih
theorem Dk.dn {K : PySem.W.Frag} {H : Hp} {p : Addr} {l : List (Nat × D)} (h : Dk K H p l) (hl : ∀ x ∈ l, ∃ ds, x.2 = .lst ds ∧ D.pls ds = true) : Dn K H p l := by
  obtain ⟨kvs, h1, h2⟩ := h
  refine ⟨kvs, h1, ?_⟩
  have aux : ∀ {kv : List (Key × V)} {l : List (Nat × D)}, KvI K H kv l → (∀ x ∈ l, ∃ ds, x.2 = .lst ds ∧ D.pls ds = true) → KvI K (rm p H) kv l := by
    intro kv l h2
    induction h2 with
    | nil => intro _; exact .nil
    | cons h t ih =>
      intro hl
      obtain ⟨ds, e, hp⟩ := hl _ (List.mem_cons_self ..)
      simp only at e
      subst e
      exact .cons (h.lsx (rm_ls h1) (rm_tx h1) hp) (ih fun x m => hl x (List.mem_cons_of_mem _ m))
  exact aux h2 hl
end Dr
set_option Elab.async false
set_option linter.all false
set_option maxRecDepth 100000
set_option maxHeartbeats 4000000
set_option pp.deepTerms false
set_option pp.maxSteps 400
set_option exponentiation.threshold 20000
namespace Dr
open PySem PySem.Spec PyProof.Rows L2
theorem rwD_in {K : PySem.W.Frag} {H : Hp} {v : V} {r : RowQ} (h : Im K H v (rwD r)) : ∃ a dd lv, v = .ref a ∧ SqT K H a [.ref dd, lv] ∧ Im K H (.ref dd) (flD r.1) ∧ Im K H lv (nlD r.2) ∧ ∃ kv, Rd H dd (.dK kv) ∧ KvI K H kv (mv fr r.1) := by
  obtain ⟨a, xs, rfl, h1, h2⟩ := h.tupI
  cases h2 with
  | cons h2 h3 =>
  cases h3 with
  | cons h3 h4 =>
  cases h4
  have h2' := h2
  obtain ⟨dd, kv, rfl, h5, h6⟩ := h2.dcI
  exact ⟨a, dd, _, rfl, h1, h2', h3, kv, h5, h6⟩
/-- a row in a dict of rows -/
theorem Dn.row {K : PySem.W.Frag} {H : Hp} {p : Addr} {rows : Rows} {t : Nat} {r : RowQ} (h : Dn K H p (mv rwD rows)) (hr : lk rows t = some r) : ∃ kvs a dd lv, H p = some (.dK kvs) ∧ valV kvs (nk t) = some (.ref a) ∧ SqT K H a [.ref dd, lv] ∧ Im K H (.ref dd) (flD r.1) ∧ Im K H lv (nlD r.2) ∧ dd ≠ p ∧ ∃ kv, Rd H dd (.dK kv) ∧ KvI K H kv (mv fr r.1) := by
  obtain ⟨kvs, h1, h2⟩ := h
  rcases h2.val t with ⟨h3, _⟩ | ⟨d, v, h3, h4, h5⟩
  · rw [mv_lk, hr] at h3; cases h3
  · rw [mv_lk, hr] at h3
    obtain rfl := Option.some.inj h3
    obtain ⟨a, dd, lv, rfl, g1, g2, g3, kv, g4, g5⟩ := rwD_in h5
    refine ⟨kvs, a, dd, lv, h1, h4, (Same.tx rm_le).sq _ _ g1, g2.ex rm_le, g3.ex rm_le, ?_, kv, Same.rd rm_le g4, g5.ex rm_le⟩
    rintro rfl
    rcases g4 with z | ⟨_, z⟩ <;> rw [rm_self] at z <;> cases z
theorem Dn.lkrow {K : PySem.W.Frag} {H : Hp} {p : Addr} {rows : Rows} (h : Dn K H p (mv rwD rows)) : Im K H (.ref p) (dcD (mv rwD rows)) := h.im
section
variable {P : Program} {w : World} {K : PySem.W.Frag} {mg : Str → Option Value} {base : Heap}
def preVals (ds : List D) (d : D) : Prop := ∃ (m : Mc), ds = [mD m] ∧ m.Ok 1000 ∧ SolveOk m ∧ d = dcD (mv nlD (valsQ m))
theorem sc40 : FnScope ["machine", "ways", "out", "at", "order", "rows", "spot", "near", "found", "numbers", "there", "factor", "far"] ["machine"] (defScope (top 40)) := ⟨rfl, rfl, rfl, by decide +kernel, rfl, by decide +kernel, by decide +kernel⟩
theorem live_nodup {m : Mc} {z : Nat} (ok : m.Ok z) : (liveL m).Nodup := (ways_i ok ok.pos).nd.sublist List.filter_sublist
theorem live_ways {m : Mc} : ∀ t ∈ liveL m, t ∈ (ways m 0).map (·.1) := fun t h => (List.mem_filter.mp h).1
theorem live_lt {m : Mc} {z : Nat} (ok : m.Ok z) : ∀ t ∈ liveL m, t < m.rows.length := fun t h => by
  obtain ⟨p, h1, rfl⟩ := List.mem_map.mp (live_ways t h)
  exact (ways_i ok ok.pos).lt p h1
theorem kept_filter {α : Type} (l : List (Nat × α)) (df : α) (f : Nat → Bool) : kept l.length (fun i => f (l.getD i (0, df)).1) (fun i => nI (l.getD i (0, df)).1) = ((l.map (·.1)).filter f).map nI := by
  suffices h : ∀ n, n ≤ l.length → kept n (fun i => f (l.getD i (0, df)).1) (fun i => nI (l.getD i (0, df)).1) = (((l.take n).map (·.1)).filter f).map nI by
    have := h l.length (Nat.le_refl _)
    rwa [List.take_length] at this
  intro n
  induction n with
  | zero => intro _; simp [kept]
  | succ n ih =>
    intro hn
    have ih := ih (by omega)
    have hlt : n < l.length := hn
    have e : l.getD n (0, df) = l[n] := by rw [List.getD_eq_getElem?_getD, List.getElem?_eq_getElem hlt]; rfl
    have ht : l.take (n + 1) = l.take n ++ [l[n]] := by rw [List.take_succ, List.getElem?_eq_getElem hlt]; rfl
    rw [ht, List.map_append, List.filter_append, List.map_append]
    cases q : f l[n].1 with
    | true =>
      rw [kept_yes (by simp only [e]; exact q), ih]
      simp only [e]
      simp [q]
    | false =>
      rw [kept_no (by simp only [e]; exact q), ih]
      simp [q]
theorem pr_vals (T : Txt K mg) (W : Pr P w K mg base "ways_from" 1 ["machine", "first"] (spD K preWays)) (O : Pr P w K mg base "ways_out" 1 ["machine"] (spD K preOut)) (Q4 : Pr P w K mg base "equations_of" 37 ["machine", "order"] (spNew K preEqs))
    (Wi : ∀ z wd, Pr P w K mg base "without_itself" 37 ["factors", "numbers", "at"] (spRow K (preWi z wd))) (Pu : ∀ z wd, Pr P w K mg base "put_in" 37 ["factors", "numbers", "at", "other"] (spRow K (prePut z wd)))
    (Fp : Pr P w K mg base "plus" 36 ["one", "other"] (spD K (preBin (fun _ _ => True) (· + ·)))) (Ft : Pr P w K mg base "times" 36 ["one", "other"] (spD K (preBin (fun _ _ => True) (· * ·)))) : Pr P w K mg base "raw_values" 38 ["machine"] (spD K preVals) := by
  have hBW := BW_eq
  refine mk_pr T 26 rfl sc40 (fun _ _ _ _ _ _ us hl => match us, hl with | [_], _ => rfl) (fun vs H Q E h => ?_) (fun cdv A outer s H vs Q E hr h => ?_)
  · obtain ⟨ds, d, ⟨m, rfl, _⟩, hI, _⟩ := h
    exact hI.len
  · obtain ⟨ds, d, ⟨m, rfl, ok, so, rfl⟩, hI, k⟩ := h
    cases hI with
    | @cons vm _ _ _ h1 hI =>
    cases hI
    have fl : mg "len" = none := T.free _ (by decide +kernel)
    have fR : mg "range" = none := T.free _ (by decide +kernel)
    have fz : mg "zip" = none := T.free _ (by decide +kernel)
    have ok' := ok.le
    have n8 := ok.n8
    have wi := ways_i ok ok.pos
    have wlen := wi.len
    have lnd := live_nodup ok
    have llt := live_lt ok
    have lL : (liveL m).length ≤ 1000 := Nat.le_trans (nodup_len lnd llt) ok'
    -- ways, out
    refine w_cons (s_parC sc40.nd 1 2 (wa_cons (we_ev (ev_call W (hr.mono (by decide)) (ea_cons (ev_var 0 rfl h1) (ea_one ev_int)) ⟨m, 0, rfl, ok, ok.pos, rfl⟩) fun v1 H1 s1 hv1 => wa_cons (we_ev (ev_call O (hr.mono (by decide)) (ea_one (ev_var 0 rfl (h1.ex s1))) ⟨m, rfl, ok, rfl⟩) fun v2 H2 s2 hv2 => wa_nil ⟨_, _, rfl, fun pt2 hpt2 => ?_⟩))))
    have s03 : Same H (upd H2 pt2 (.tup [v1, v2])) := (s1.trans s2).trans (Same.new hpt2)
    have hw3 : Im K (upd H2 pt2 (.tup [v1, v2])) v1 (dcD (mv btD (ways m 0))) := hv1.ex (s2.trans (Same.new hpt2))
    have ho3 : Im K (upd H2 pt2 (.tup [v1, v2])) v2 (dcD (mv btD (ends m))) := hv2.ex (Same.new hpt2)
    generalize upd H2 pt2 (.tup [v1, v2]) = H3 at s03 hw3 ho3
    obtain ⟨qw, kvw, rfl, hrdw, hkvw⟩ := hw3.dcI
    have ew : (mv btD (ways m 0)).map (fun p => D.int (p.1 : Nat)) = (ways m 0).map fun p => nI p.1 := by simp [mv, nI]
    -- order
    refine w_cons (s_lock hrdw fun ob HL U L => ?_)
    have hkL := hkvw.rs L.rs
    have hoL := ho3.rs L.rs
    refine s_setL sc40 [("at", 3)] 4 (fun i => hs (ends m) ((ways m 0).getD i (0, [])).1) (fun i => nI ((ways m 0).getD i (0, [])).1) (fun _ => rfl) (wk_keys (vv_var 1 rfl) L.lk hkL) (fun H1 H2 s u z => s _ _ z) (by rw [ew, List.length_map]; omega) ?_ fun r H4 hr4 s4 hL4 => ?_
    · intro i d v H5 s5 hi hv
      rw [ew, List.getElem?_map] at hi
      cases e : (ways m 0)[i]? with
      | none => rw [e] at hi; cases hi
      | some t =>
        rw [e] at hi
        obtain rfl := Option.some.inj hi
        have e2 : (ways m 0).getD i (0, []) = t := by rw [List.getD_eq_getElem?_getD, e]; rfl
        have ev := hv.intI
        subst ev
        rw [e2]
        refine ⟨_, fun Q2 q s H C cl fp => g_name sc40.nd 3 q, rfl, fun s H C cl fp => et_one (EvT.cast (et_in hr (n := t.1) (ev_var 3 rfl (.int _)) (ev_var 2 rfl (hoL.ex s5))) (mv_hs _ _ _)), fun _ s H C cl fp => ev_var 3 rfl (.int _)⟩
    rw [ew, List.length_map, kept_filter] at hL4
    have hL4 : LsI K H4 r ((liveL m).map nI) := hL4
    have hq4 : H4 qw = HL qw := by rw [s4 _ _ L.lk, L.lk]
    refine ⟨hq4.trans L.lk, ?_⟩
    obtain ⟨nr1, nr2⟩ := L.none hr4
    have hL5 : LsI K (U H4) r ((liveL m).map nI) := by
      obtain ⟨xs, z1, z2⟩ := hL4
      exact ⟨xs, by rw [L.uo _ _ nr2]; exact z1, z2.rs (L.back hq4)⟩
    have s35 : Same H3 (U H4) := L.same s4
    generalize U H4 = H5 at hL5 s35
    clear hkL hoL L hq4 s4 hL4 hr4
    have s05 := s03.trans s35
    -- rows
    refine w_cons (s_setW sc40.nd 5 (we_call Q4 hr (wa_cons (we_ev (ev_var 0 rfl (h1.ex s05)) fun w1 H6 s6 hw1 => wa_cons (we_ev (ev_var 4 rfl (hL5.im.ex s6)) fun w2 H7 s7 hw2 => wa_nil ⟨_, _, ⟨m, liveL m, rfl, ok, lnd, llt, rfl⟩, .cons (hw1.ex s7) (.cons hw2 .nil), fun p H8 hp s8 hD => ?_⟩)))))
    have s58 : Same H5 H8 := (s6.trans s7).trans s8
    have hp5 : H5 p = none := (s6.trans s7).free hp
    have hp0 : H p = none := s05.free hp5
    have npr : r ≠ p := by
      obtain ⟨xs, z, _⟩ := hL5
      rintro rfl
      rw [hp5] at z; cases z
    have npw : qw ≠ p := by
      rintro rfl
      rcases Same.rd s35 hrdw with z | ⟨_, z⟩ <;> rw [hp5] at z <;> cases z
    have hL8 := hL5.ex s58
    have hw8 := hw3.ex (s35.trans s58)
    have s08 := s05.trans s58
    -- what stays besides rows
    -- the elimination
    refine w_cons (s_for (wk_rngD (n := (liveL m).length) fR (Ev.cast (ev_sub (ev_lenL fl (vv_var 4 rfl) hL8) ev_int) (by rw [List.length_map])) (ev_neg ev_int) (ev_neg ev_int) (by omega)) fun H9 s9 => ⟨fun i σ' H' => ∃ (x3 x6 x7 : Option V), σ' = [some vm, some (.ref qw), some v2, x3, some (.ref r), some (.ref p), x6, x7, none, none, none, none, none] ∧ Same H5 H' ∧ Dn K H' p (mv rwD (elimAt m (liveL m) i)),
      ⟨none, none, none, rfl, s58.trans s9, hD.ex s9⟩, fun _ _ _ _ => trivial, ?_, ?_⟩)
    · rintro i d v σ' H10 H11 hd ⟨x3, x6, x7, rfl, s510, hDn⟩ s11 hv
      obtain ⟨hi, rfl⟩ := rdD_at hd
      have hpos : (liveL m).length - 1 - i < (liveL m).length := by omega
      have ev := hv.intI
      subst ev
      refine g_name sc40.nd 6 ?_
      have hDn11 := hDn.ex s11
      have s511 := s510.trans s11
      -- at
      have hat : (liveL m)[(liveL m).length - 1 - i]? = some ((liveL m).getD ((liveL m).length - 1 - i) 0) := by
        rw [List.getD_eq_getElem?_getD, List.getElem?_eq_getElem hpos]; rfl
      have hsM : (liveL m).getD ((liveL m).length - 1 - i) 0 ∈ liveL m := getD_mem hpos
      generalize hS : (liveL m).getD ((liveL m).length - 1 - i) 0 = sS at hat hsM
      have hpiv := so.piv i hi
      have hnear := so.near i hi
      have hgood := so.good i (Nat.le_of_lt hi)
      rw [hS] at hpiv hnear
      have hkeys := elim_keys (m := m) (L := liveL m) i (Nat.le_of_lt hi)
      generalize hR : elimAt m (liveL m) i = rows at hDn11 hpiv hnear hgood hkeys
      refine w_cons (s_set sc40.nd 3 (ev_ixL (d := nI sS) (vv_var 4 rfl) (hL5.ex s511) (ev_var 6 rfl (.int _)) (atI_nat (by rw [List.getElem?_map, hat]; rfl))) fun v3 H12 s12 hv3 => ?_)
      have e3 := hv3.intI
      subst e3
      have hDn12 := hDn11.ex s12
      have hrow := rowAt_some (rows := rows) (t := sS) (by rw [hkeys]; exact hsM)
      obtain ⟨kvs, a1, d1, l1, g1, g2, g3, g4, g5, g6, _⟩ := hDn12.row hrow
      -- rows[at] = without_itself(..)
      refine w_cons (s_dputW hr (we_call (Wi m.rows.length (m.n + 1)) hr (wa_cons ((vv_ixT (i := 0) (vv_dget hr (n := sS) (vv_var 5 rfl) (.of g1) (ev_var 3 rfl (.int _)) g2) g3 ev_int rfl) H12 (Same.refl _) _ fun H13 s13 => wa_cons (we_ev (ev_ixT (ds := [flD (rowAt rows sS).1, nlD (rowAt rows sS).2]) (ev_dget hr (n := sS) (d := rwD (rowAt rows sS)) (ev_var 5 rfl (hDn12.ex s13).im) (ev_var 3 rfl (.int _)) (by rw [mv_lk, hrow]; rfl)) ev_int rfl) fun w2 H14 s14 hw2 => wa_cons (we_ev (ev_var 3 rfl (.int _)) fun w3 H15 s15 hw3 => wa_nil ⟨_, _, ⟨rowAt rows sS, sS, rfl, by omega, by omega, hgood sS hsM, hpiv, rfl⟩, .cons (g4.ex ((s13.trans s14).trans s15)) (.cons (hw2.ex s15) (.cons hw3 .nil)), fun a dd lv H16 s16 k1 k2 k3 k4 => ?_⟩))))))
      have s1216 : Same H12 H16 := ((s13.trans s14).trans s15).trans s16
      have ndp : dd ≠ p := by
        rintro rfl
        rcases k4 with k4 | k4
        · obtain ⟨kv, z, _⟩ := hDn12.ex ((s13.trans s14).trans s15)
          rw [k4] at z; cases z
        · have := Option.some.inj k4
          injection this with this
          exact g6 this
      obtain ⟨kv16, z1, z2⟩ := hDn12.ex s1216
      refine dtail z1 (by rw [z2.len, mv_len, ← List.length_map (f := Prod.fst), hkeys]; omega) (vv_var 5 rfl) (ev_var 3 rfl (.int _)) fun H17 s17 => ?_
      have hnew : Im K (rm p H17) (.ref a) (rwD (wiQ sS (rowAt rows sS))) := rw_rm (s17 _ _ z1) ((Same.tx s17).sq _ _ k1) (k2.ex s17) (k3.ex s17) ndp
      have hDnA : Dn K (upd H17 p (.dK (putK kv16 (nk sS) (.ref a)))) p (mv rwD (spotA rows sS)) := by
        refine ⟨_, upd_same, ?_⟩
        rw [rm_upd]
        have := (z2.ex (rm_same s17)).put sS hnew
        rw [← mv_pt] at this
        exact this
      have mu17 : Mu p H17 (upd H17 p (.dK (putK kv16 (nk sS) (.ref a)))) := by unfold Mu; rw [rm_upd]; exact Same.refl _
      have s5A : Same H5 (upd H17 p (.dK (putK kv16 (nk sS) (.ref a)))) := mu17.same (((s511.trans s12).trans s1216).trans s17) hp5
      generalize (upd H17 p (.dK (putK kv16 (nk sS) (.ref a)))) = HA at hDnA s5A
      have hkA : (spotA rows sS).map (·.1) = liveL m := (pt_same (hs_mem.mpr (by rw [hkeys]; exact hsM))).trans hkeys
      have htk : ((liveL m).map nI).take ((liveL m).length - 1 - i) = ((liveL m).take ((liveL m).length - 1 - i)).map nI := by rw [List.map_take]
      -- the near ones
      refine w_one (s_for (wk_lstD (ds := ((liveL m).take ((liveL m).length - 1 - i)).map nI) (EvL.ev (EvL.cast (el_upto (n := (liveL m).length - 1 - i) (ev_var 4 rfl (hL5.ex s5A).im) (ev_var 6 rfl (.int _)) (by rw [List.length_map]; omega)) htk)) (pls_map nI_pl _)) fun HB sB => ⟨fun j σ' H' => ∃ (x7 : Option V), σ' = [some vm, some (.ref qw), some v2, some (.int (sS : Nat)), some (.ref r), some (.ref p), some (.int (((liveL m).length - 1 - i : Nat) : Int)), x7, none, none, none, none, none] ∧ Same H5 H' ∧ Tx K HB H' ∧ LsX HB H' ∧ Dn K H' p (mv rwD (nears (liveL m) rows sS j)),
        ⟨x7, rfl, s5A.trans sB, .refl, .refl, hDnA.ex sB⟩, ?_, ?_, ?_⟩)
      · rintro j σ' H' ⟨_, _, _, tx, ls, _⟩
        exact ⟨tx, ls⟩
      · rintro j d v σ' HC HD hd2 ⟨y7, rfl, s5C, txC, lsC, hDnC⟩ sD hvj
        rw [List.getElem?_map] at hd2
        cases e : ((liveL m).take ((liveL m).length - 1 - i))[j]? with
        | none => rw [e] at hd2; cases hd2
        | some t =>
        rw [e] at hd2
        obtain rfl := Option.some.inj hd2
        have evj := hvj.intI
        subst evj
        refine g_name sc40.nd 7 ?_
        have hj : j < (liveL m).length - 1 - i := by
          have := (List.getElem?_eq_some_iff.mp e).1
          rw [List.length_take] at this; omega
        have htM : t ∈ liveL m := List.mem_of_mem_take (List.mem_of_getElem? e)
        have hjt : (liveL m).take (j + 1) = (liveL m).take j ++ [t] := by
          have : (liveL m)[j]? = some t := by
            rw [List.getElem?_take, if_pos hj] at e; exact e
          rw [List.take_succ, this]; rfl
        have ntS : t ≠ sS := by
          rintro rfl
          have h1 : (liveL m)[j]? = some t := by
            rw [List.getElem?_take, if_pos hj] at e; exact e
          obtain ⟨l1, e1⟩ := List.getElem?_eq_some_iff.mp h1
          obtain ⟨l2, e2⟩ := List.getElem?_eq_some_iff.mp hat
          have := (List.getElem_inj lnd).mp (e1.trans e2.symm)
          omega
        have hkN : (nears (liveL m) rows sS j).map (·.1) = liveL m := (nears_keys (by rw [hkeys]; exact hsM) j).trans hkeys
        have hgN := hnear j (Nat.le_of_lt hj)
        have hgN1 := hgN t htM
        have hgNS := hgN sS hsM
        have hnst : nears (liveL m) rows sS (j + 1) = nearStep sS (wiQ sS (rowAt rows sS)) (nears (liveL m) rows sS j) t := by
          unfold nears
          rw [hjt, List.foldl_append]; rfl
        have hSrow : rowAt (nears (liveL m) rows sS j) sS = wiQ sS (rowAt rows sS) := by
          have aux : ∀ (M : List Nat) (r0 : Rows), sS ∉ M → rowAt (M.foldl (nearStep sS (wiQ sS (rowAt rows sS))) r0) sS = rowAt r0 sS := by
            intro M
            induction M with
            | nil => intro r0 _; rfl
            | cons u M ih =>
              intro r0 hM
              rw [List.mem_cons, not_or] at hM
              rw [List.foldl_cons, ih _ hM.2]
              unfold nearStep
              split
              · unfold rowAt
                rw [lk_pt, if_neg hM.1]
              · rfl
          unfold nears
          rw [aux]
          · unfold spotA rowAt
            rw [lk_pt, if_pos rfl]; rfl
          · intro hM
            obtain ⟨jj, hjj⟩ := List.mem_iff_getElem?.mp hM
            obtain ⟨l1, e1⟩ := List.getElem?_eq_some_iff.mp hjj
            rw [List.getElem_take] at e1
            obtain ⟨l2, e2⟩ := List.getElem?_eq_some_iff.mp hat
            have := (List.getElem_inj lnd).mp (e1.trans e2.symm)
            rw [List.length_take] at l1
            omega
        generalize hN : nears (liveL m) rows sS j = rN at hDnC hkN hgN1 hgNS hnst hSrow
        have hDnD := hDnC.ex sD
        have hrowN := rowAt_some (rows := rN) (t := t) (by rw [hkN]; exact htM)
        have hrowS := rowAt_some (rows := rN) (t := sS) (by rw [hkN]; exact hsM)
        refine w_one (s_if (EvT.cast (et_in hr (n := sS) (ev_var 3 rfl (.int _)) (ev_ixT (ds := [flD (rowAt rN t).1, nlD (rowAt rN t).2]) (ev_dget hr (n := t) (d := rwD (rowAt rN t)) (ev_var 5 rfl hDnD.im) (ev_var 7 rfl (.int _)) (by rw [mv_lk, hrowN]; rfl)) ev_int rfl)) (mv_hs _ _ _)) (fun qE HE sE => ?_) fun qE HE sE => w_nil ?_)
        · have hDnE := hDnD.ex sE
          obtain ⟨kvs, a1, d1, l1, g1, g2, g3, g4, g5, g6, _⟩ := hDnE.row hrowN
          refine w_one (s_dputW hr (we_call (Pu m.rows.length (m.n + 1)) hr (wa_cons ((vv_ixT (i := 0) (vv_dget hr (n := t) (vv_var 5 rfl) (.of g1) (ev_var 7 rfl (.int _)) g2) g3 ev_int rfl) HE (Same.refl _) _ fun H13 s13 => wa_cons (we_ev (ev_ixT (ds := [flD (rowAt rN t).1, nlD (rowAt rN t).2]) (ev_dget hr (n := t) (d := rwD (rowAt rN t)) (ev_var 5 rfl (hDnE.ex s13).im) (ev_var 7 rfl (.int _)) (by rw [mv_lk, hrowN]; rfl)) ev_int rfl) fun w2 H14 s14 hw2 => wa_cons (we_ev (ev_var 3 rfl (.int _)) fun w3 H15 s15 hw3 => wa_cons (we_ev (ev_dget hr (n := sS) (d := rwD (rowAt rN sS)) (ev_var 5 rfl ((hDnE.ex ((s13.trans s14).trans s15))).im) (ev_var 3 rfl (.int _)) (by rw [mv_lk, hrowS]; rfl)) fun w4 H16 s16 hw4 => wa_nil ⟨_, _, ⟨rowAt rN t, rowAt rN sS, sS, rfl, by omega, by omega, hgN1, hgNS, qE, rfl⟩, .cons (g4.ex (((s13.trans s14).trans s15).trans s16)) (.cons ((hw2.ex s15).ex s16) (.cons (hw3.ex s16) (.cons hw4 .nil))), fun a dd lv H17 s17 k1 k2 k3 k4 => ?_⟩)))))))
          have sE16 : Same HE H16 := ((s13.trans s14).trans s15).trans s16
          have sE17 := sE16.trans s17
          have ndp : dd ≠ p := by
            rintro rfl
            rcases k4 with k4 | k4
            · obtain ⟨kv, z, _⟩ := hDnE.ex sE16
              rw [k4] at z; cases z
            · have := Option.some.inj k4
              injection this with this
              exact g6 this
          obtain ⟨kv17, z1, z2⟩ := hDnE.ex sE17
          refine dtail z1 (by rw [z2.len, mv_len, ← List.length_map (f := Prod.fst), hkN]; omega) (vv_var 5 rfl) (ev_var 7 rfl (.int _)) fun H18 s18 => ?_
          have hnew : Im K (rm p H18) (.ref a) (rwD (putQ sS (rowAt rN sS) (rowAt rN t))) := rw_rm (s18 _ _ z1) ((Same.tx s18).sq _ _ k1) (k2.ex s18) (k3.ex s18) ndp
          have mu18 : Mu p H18 (upd H18 p (.dK (putK kv17 (nk t) (.ref a)))) := by unfold Mu; rw [rm_upd]; exact Same.refl _
          have sC18 := ((sD.trans sE).trans sE17).trans s18
          refine ⟨_, rfl, mu18.same (s5C.trans sC18) hp5, (txC.trans (Same.tx sC18)).trans (Tx.put (s18 _ _ z1) trivial), (lsC.trans (Same.ls sC18)).trans (mu18.ls (s18 _ _ z1)), _, upd_same, ?_⟩
          rw [rm_upd]
          have := (z2.ex (rm_same s18)).put t hnew
          rw [← mv_pt] at this
          rw [hnst]
          unfold nearStep
          rw [if_pos qE, ← hSrow]
          exact this
        · have sCE := sD.trans sE
          refine ⟨_, rfl, s5C.trans sCE, txC.trans (Same.tx sCE), lsC.trans (Same.ls sCE), ?_⟩
          rw [hnst]
          unfold nearStep
          rw [if_neg (by rw [qE]; simp)]
          exact hDnD.ex sE
      · rintro σ' HC ⟨y7, rfl, s5C, txC, lsC, hDnC⟩
        have el : (((liveL m).take ((liveL m).length - 1 - i)).map nI).length = (liveL m).length - 1 - i := by rw [List.length_map, List.length_take]; omega
        rw [el] at hDnC
        refine ⟨_, _, _, rfl, s5C, ?_⟩
        show Dn K HC p (mv rwD (nears (liveL m) (elimAt m (liveL m) i) ((liveL m).getD ((liveL m).length - 1 - i) 0) ((liveL m).length - 1 - i)))
        rw [hS, hR]
        exact hDnC
    rintro σ' H10 ⟨x3, x6, x7, rfl, s510, hDn⟩
    rw [show (rdD (liveL m).length).length = (liveL m).length by simp [rdD]] at hDn
    have hkF := elim_keys (m := m) (L := liveL m) (liveL m).length (Nat.le_refl _)
    have hgF := so.good (liveL m).length (Nat.le_refl _)
    have hfk := so.keys
    have hback := so.back
    have hpart := so.part
    have hblen := back_len (m := m) (rows := elimAt m (liveL m) (liveL m).length) (wd := m.n + 1) rfl live_ways (fun t ht => (hgF t ht).len) hfk
    have hbkey := back_keys (m := m) (rows := elimAt m (liveL m) (liveL m).length) (L := liveL m) live_ways
    have hval : valsQ m = backAt m (elimAt m (liveL m) (liveL m).length) (liveL m) (liveL m).length := rfl
    rw [hval] at k
    generalize elimAt m (liveL m) (liveL m).length = rF at hDn hkF hgF hfk hback hpart hblen hbkey k
    -- found
    have hw10 := hw3.ex (s35.trans s510)
    have hrd10 := Same.rd (s35.trans s510) hrdw
    have hkv10 := hkvw.ex (s35.trans s510)
    refine w_cons (s_lock hrd10 fun ob HL U L => ?_)
    have hkL := hkv10.rs L.rs
    have hmL := (h1.ex (s05.trans s510)).rs L.rs
    refine s_setK sc40 [("at", 3)] 8 (fun _ => true) (fun i => ((ways m 0).getD i (0, [])).1) (fun _ => .lst ((List.replicate (m.n + 1) (0 : Rat)).map fr)) (fun _ => pls_map fr_pl _) (wk_keys (vv_var 1 rfl) L.lk hkL) (fun H1 H2 s u z => s _ _ z) (by rw [ew, List.length_map]; omega) ?_ fun g H11 hg11 s11 hD11 => ?_
    · intro i d v H12 s12 hi hv
      rw [ew, List.getElem?_map] at hi
      cases e : (ways m 0)[i]? with
      | none => rw [e] at hi; cases hi
      | some t =>
        rw [e] at hi
        obtain rfl := Option.some.inj hi
        have e2 : (ways m 0).getD i (0, []) = t := by rw [List.getD_eq_getElem?_getD, e]; rfl
        have ev := hv.intI
        subst ev
        rw [e2]
        exact ⟨_, fun Q2 q s H C cl fp => g_name sc40.nd 3 q, rfl, fun s H C cl fp => et_nil, fun _ => ⟨fun s H C cl fp => ev_var 3 rfl (.int _), fun s H C cl fp => EvL.ev (el_zeros T (n := m.n + 1) (ev_add (ev_mn (ev_var 0 rfl (hmL.ex s12))) ev_int) (by omega))⟩⟩
    have ef0 : keptD ((mv btD (ways m 0)).map (fun p => D.int (p.1 : Nat))).length (fun _ => true) (fun i => ((ways m 0).getD i (0, [])).1) (fun _ => D.lst ((List.replicate (m.n + 1) (0 : Rat)).map fr)) = mv nlD (found0 m) := by
      have := keptD_list (ways m 0) (fun _ => true) (fun _ => D.lst ((List.replicate (m.n + 1) (0 : Rat)).map fr)) [] wi.nd
      rw [List.filter_eq_self.mpr (by intros; rfl)] at this
      rw [ew, List.length_map, this]
      simp [mv, found0, nlD]
    rw [ef0] at hD11
    have hq11 : H11 qw = HL qw := by rw [s11 _ _ L.lk, L.lk]
    refine ⟨hq11.trans L.lk, ?_⟩
    obtain ⟨ng1, ng2⟩ := L.none hg11
    have hD12 : Dn K (U H11) g (mv nlD (found0 m)) := by
      have : Dk K (U H11) g (mv nlD (found0 m)) := by
        obtain ⟨kv, z1, z2⟩ := hD11
        exact ⟨kv, by rw [L.uo _ _ ng2]; exact z1, z2.rs (L.back hq11)⟩
      refine this.dn fun x hx => ?_
      obtain ⟨q, _, rfl⟩ := List.mem_map.mp hx
      exact ⟨_, rfl, pls_map fr_pl _⟩
    have s1012 : Same H10 (U H11) := L.same s11
    generalize U H11 = H12 at hD12 s1012
    clear hkL hmL L hq11 s11 hD11 hg11
    have hg0 : H g = none := s05.free (s510.free ng1)
    have hg10 : H10 g = none := ng1
    have npg : p ≠ g := by
      obtain ⟨kv, z, _⟩ := hDn
      rintro rfl
      rw [hg10] at z; cases z
    -- back
    refine w_cons (s_for (wk_lstD (ds := (liveL m).map nI) (ev_var 4 rfl (hL5.ex (s510.trans s1012)).im) (pls_map nI_pl _)) fun HB sB => ⟨fun i σ' H' => ∃ (x3 x9 x10 x11 : Option V), σ' = [some vm, some (.ref qw), some v2, x3, some (.ref r), some (.ref p), x6, x7, some (.ref g), x9, x10, x11, none] ∧ Same H10 H' ∧ Tx K HB H' ∧ LsX HB H' ∧ Dn K H' g (mv nlD (backAt m rF (liveL m) i)),
      ⟨_, none, none, none, rfl, s1012.trans sB, .refl, .refl, ?_⟩, ?_, ?_, ?_⟩)
    · have : backAt m rF (liveL m) 0 = found0 m := rfl
      rw [this]; exact hD12.ex sB
    · rintro j σ' H' ⟨_, _, _, _, _, _, tx, ls, _⟩
      exact ⟨tx, ls⟩
    · rintro i d v σ' HC HD hd2 ⟨y3, y9, y10, y11, rfl, s10C, txC, lsC, hDg⟩ sD hvj
      rw [List.getElem?_map] at hd2
      cases e : (liveL m)[i]? with
      | none => rw [e] at hd2; cases hd2
      | some t =>
      rw [e] at hd2
      obtain rfl := Option.some.inj hd2
      have evj := hvj.intI
      subst evj
      have hi : i < (liveL m).length := (List.getElem?_eq_some_iff.mp e).1
      have htM : t ∈ liveL m := List.mem_of_getElem? e
      have htD : (liveL m).getD i 0 = t := by rw [List.getD_eq_getElem?_getD, e]; rfl
      have htk : (liveL m).take (i + 1) = (liveL m).take i ++ [t] := by rw [List.take_succ, e]; rfl
      have hparti := hpart i hi
      rw [htD] at hparti
      have hbi := hback i (Nat.le_of_lt hi)
      have hbli := hblen i
      have hbki := hbkey i
      have hstep : backAt m rF (liveL m) (i + 1) = backStep rF (backAt m rF (liveL m) i) t := by
        unfold backAt
        rw [htk, List.foldl_append]; rfl
      generalize backAt m rF (liveL m) i = fB at hDg hparti hbi hbli hbki hstep
      have hgt := hgF t htM
      have hrowt := rowAt_some (rows := rF) (t := t) (by rw [hkF]; exact htM)
      have hlkB : ∀ pp ∈ (rowAt rF t).1, ∃ x, lk fB pp.1 = some x ∧ x.length = m.n + 1 := fun pp hp => by
        have hk : pp.1 ∈ fB.map (·.1) := by
          rw [hbki]
          exact live_ways _ (hfk t htM pp hp)
        have := hs_mem.mpr hk
        rw [lk_hs] at this
        obtain ⟨x, hx⟩ := Option.isSome_iff_exists.mp this
        exact ⟨x, hx, hbli _ (lk_mem hx)⟩
      have hnl := backNum_len (rows := rF) (found := fB) (s := t) hgt.len hlkB
      refine g_name sc40.nd 3 ?_
      have s10D := s10C.trans sD
      have hDnD := hDn.ex s10D
      have hDgD := hDg.ex sD
      refine w_cons (s_set sc40.nd 9 (ev_ixT (ds := [flD (rowAt rF t).1, nlD (rowAt rF t).2]) (ev_dget hr (n := t) (d := rwD (rowAt rF t)) (ev_var 5 rfl hDnD.im) (ev_var 3 rfl (.int _)) (by rw [mv_lk, hrowt]; rfl)) ev_int rfl) fun v9 HE sE hv9 => ?_)
      have hDnE := hDnD.ex sE
      have hDgE := hDgD.ex sE
      obtain ⟨kvs, a1, d1, l1, g1, g2, g3, g4, g5, g6, kv1, g7, g8⟩ := hDnE.row hrowt
      refine w_cons (s_lock g7 fun ob2 HL2 U2 L2 => ?_)
      have hk2 := g8.rs L2.rs
      have hDgL : Im K HL2 (.ref g) (dcD (mv nlD fB)) := hDgE.im.rs L2.rs
      have g1L : Rd HL2 p (.dK kvs) := L2.rs.rd _ _ nf_dk (.of g1)
      have g3L : SqT K HL2 a1 [.ref d1, l1] := L2.rs.tx.sq _ _ g3
      refine s_for (wk_items (vv_ixT (i := 0) (vv_dget hr (n := t) (vv_var 5 rfl) g1L (ev_var 3 rfl (.int _)) g2) g3L ev_int rfl) L2.lk hk2 (mv_pl fr_pl _)) fun HF sF => ⟨fun j σ' H' => ∃ (v9 : V) (x10 x11 : Option V), σ' = [some vm, some (.ref qw), some v2, some (.int (t : Nat)), some (.ref r), some (.ref p), x6, x7, some (.ref g), some v9, x10, x11, none] ∧ Same HF H' ∧ Im K H' v9 (nlD (backNum rF fB t j)),
        ⟨v9, _, _, rfl, Same.refl _, (hv9.rs L2.rs).ex sF⟩, ?_, ?_, ?_⟩
      · rintro j σ' H' ⟨_, _, _, _, sm, _⟩
        exact ⟨fun u z => sm _ _ z, Same.tx sm⟩
      · rintro j d v σ' HG HI hd3 ⟨v9, x10, x11, rfl, sFG, hv9⟩ sI hvp
        obtain ⟨pp, hpp, rfl⟩ := fl_items hd3
        obtain ⟨u, x⟩ := pp
        refine g_pair sc40.nd 10 11 hvp fun w10 w11 hw10 hw11 => ?_
        have e10 := hw10.intI
        subst e10
        have hmem : (u, x) ∈ (rowAt rF t).1 := List.mem_of_getElem? hpp
        obtain ⟨far, hfar, hflen⟩ := hlkB _ hmem
        have hsmF : SmL BW far := hbi _ (lk_mem hfar)
        have hsmx : Sm BW x := hgt.sf _ hmem
        have hnext : backNum rF fB t (j + 1) = numStep fB (backNum rF fB t j) (u, x) := by
          unfold backNum
          rw [List.take_succ, hpp, Option.toList_some, List.foldl_append]; rfl
        have hsmN := hparti j
        have hlN := hnl j
        generalize backNum rF fB t j = nB at hv9 hnext hsmN hlN
        have hDgI : Im K HI (.ref g) (dcD (mv nlD fB)) := ((hDgL.ex sF).ex sFG).ex sI
        have hv9I := hv9.ex sI
        have hzl : (zpD (nB.map fr) (far.map fr)).length = nB.length := by simp [zpD, hlN, hflen]
        refine w_one (s_setL sc40 [("near", 7), ("far", 12)] 9 (fun _ => true) (fun i => fr (nB.getD i 0 + x * far.getD i 0)) (fun _ => rfl) (wk_zip fz (ev_var 9 rfl hv9I) (ev_dget hr (n := u) (d := nlD far) (ev_var 8 rfl hDgI) (ev_var 10 rfl (.int _)) (by rw [mv_lk, hfar]; rfl)) (pls_map fr_pl _) (pls_map fr_pl _) (by rw [List.length_map, List.length_map, hlN, hflen])) (fun H1 H2 s => ⟨Same.tx s, Same.ls s⟩) (by rw [hzl, hlN]; omega) ?_ fun l9 HJ hl9 sJ hL9 => ?_)
        · intro i d v H9 s9 hi hv
          obtain ⟨dx, dy, e1, e2, rfl⟩ := zpD_at hi
          rw [List.getElem?_map] at e1 e2
          cases q1 : nB[i]? with
          | none => rw [q1] at e1; cases e1
          | some nx =>
          cases q2 : far[i]? with
          | none => rw [q2] at e2; cases e2
          | some ny =>
          rw [q1] at e1
          rw [q2] at e2
          obtain rfl := Option.some.inj e1
          obtain rfl := Option.some.inj e2
          have f1 : nB.getD i 0 = nx := by rw [List.getD_eq_getElem?_getD, q1]; rfl
          have f2 : far.getD i 0 = ny := by rw [List.getD_eq_getElem?_getD, q2]; rfl
          rw [f1, f2]
          have smx := hsmN _ (List.mem_of_getElem? q1)
          have smy := hsmF _ (List.mem_of_getElem? q2)
          obtain ⟨a, xs, rfl, g1, g2⟩ := hv.tupI
          cases g2 with
          | cons g2 g3 =>
          cases g3 with
          | cons g3 g4 =>
          cases g4
          refine ⟨_, fun Q2 q s H C cl fp => g_pairV sc40.nd 7 12 g1 q, rfl, fun s H C cl fp => et_nil, fun _ s H C cl fp => ?_⟩
          exact ev_call Fp (hr.mono (by decide)) (ea_cons (ev_var 7 rfl g2) (ea_one (ev_call Ft (hr.mono (by decide)) (ea_cons (ev_var 11 rfl (hw11.ex s9)) (ea_one (ev_var 12 rfl g3))) ⟨x, ny, rfl, hsmx.up (by omega), smy.up (by omega), trivial, rfl⟩)))
            ⟨nx, x * ny, rfl, smx.up (by omega), (hsmx.mul smy).up (by omega), trivial, rfl⟩
        · refine ⟨.ref l9, _, _, rfl, (sFG.trans sI).trans sJ, ?_⟩
          rw [hzl] at hL9
          have e3 : kept nB.length (fun _ => true) (fun i => fr (nB.getD i 0 + x * far.getD i 0)) = (backNum rF fB t (j + 1)).map fr := by
            rw [hnext]
            unfold numStep kept
            rw [hfar, Option.getD_some, List.filter_eq_self.mpr (by intros; rfl)]
            apply List.ext_getElem?
            intro i
            by_cases hi : i < nB.length
            · have hi2 : i < far.length := by omega
              simp [hi, hi2, List.getElem?_zipWith]
            · have hi2 : ¬ i < far.length := by omega
              simp [hi, List.getElem?_zipWith]
          rw [e3] at hL9
          exact hL9.im
      · rintro σ' HG ⟨v9, x10, x11, rfl, sFG, hv9⟩
        rw [List.length_map, mv_len] at hv9
        have sLG := sF.trans sFG
        have hqG : HG d1 = HL2 d1 := by rw [sLG _ _ L2.lk, L2.lk]
        refine ⟨hqG.trans L2.lk, ?_⟩
        have hv9U := hv9.rs (L2.back hqG)
        have sEU : Same HE (U2 HG) := L2.same sLG
        generalize U2 HG = HU at hv9U sEU
        -- found[at] = numbers
        refine w_one (s_dputW hr (we_ev (ev_var 9 rfl hv9U) fun vN HV sV hvN => ?_))
        have sEV := sEU.trans sV
        obtain ⟨kvg, z1, z2⟩ := hDgE.ex sEV
        refine dtail z1 (by rw [z2.len, mv_len, ← List.length_map (f := Prod.fst), hbki, List.length_map]; omega) (vv_var 8 rfl) (ev_var 3 rfl (.int _)) fun HW sW => ?_
        have hnew : Im K (rm g HW) vN (nlD (backNum rF fB t (rowAt rF t).1.length)) := (hvN.ex sW).lsx (rm_ls (sW _ _ z1)) (rm_tx (sW _ _ z1)) (pls_map fr_pl _)
        have mu : Mu g HW (upd HW g (.dK (putK kvg (nk t) vN))) := by unfold Mu; rw [rm_upd]; exact Same.refl _
        have sDW := (sE.trans sEV).trans sW
        refine ⟨_, _, _, _, rfl, mu.same ((s10D.trans sDW)) hg10, (txC.trans (Same.tx (sD.trans sDW))).trans (Tx.put (sW _ _ z1) trivial), (lsC.trans (Same.ls (sD.trans sDW))).trans (mu.ls (sW _ _ z1)), _, upd_same, ?_⟩
        rw [rm_upd, hstep]
        have := (z2.ex (rm_same sW)).put t hnew
        rw [← mv_pt] at this
        exact this
    · rintro σ' HC ⟨y3, y9, y10, y11, rfl, s10C, txC, lsC, hDg⟩
      rw [List.length_map] at hDg
      exact w_one (s_ret (ev_var 8 rfl hDg.im) fun v HD sD hv => k v HD ((s05.trans (s510.trans s10C)).trans sD) hv)
end
end Dr
set_option Elab.async false
set_option linter.all false
set_option maxRecDepth 100000
set_option maxHeartbeats 4000000
set_option pp.deepTerms false
set_option pp.maxSteps 400
set_option exponentiation.threshold 20000
namespace Dr
open PySem PySem.Spec PyProof.Rows L2
section
variable {X : Cx} {σ : L2.St} {H H' : Hp} {a b c e : Expr} {es : List Expr} {pos p p1 p2 apos cpos tpos : Pos} {d d1 d2 : D} {ds ds2 : List D} {n k : Nat} {Z : Ends}
/-- l[:-1] -/
theorem el_but1 (ha : Ev X a σ H (.lst ds)) (hb : Ev X b σ H (.int (-1))) (h0 : 0 < ds.length) : EvL X (.Subscript a (.Slice none (some b) none p2) pos) σ H ds.dropLast :=
  fun H1 s Q q => .of (pe_slice sl_list pe_W po_none (po_some pe_W)) (ha H1 s _ fun v H2 s2 hv => hb.int H2 (s.trans s2) _ fun H3 s3 => ⟨-1, rfl, by
    obtain ⟨p, xs, rfl, h1, h2⟩ := (hv.ex s3).lstI
    have hl := h2.len
    refine ⟨p, xs, rfl, .inl h1, fun r hr => ?_⟩
    have e : cutV xs none (some (-1)) = xs.dropLast := by
      unfold cutV
      have e1 : HT.sIx xs.length xs.length (some (-1)) = xs.length - 1 := by
        show (if (-1 : Int) < 0 then ((-1 : Int) + (xs.length : Int)).toNat else min (-1 : Int).toNat xs.length) = _
        rw [if_pos (by decide)]
        omega
      rw [HT.sIx_none, e1, List.drop_zero, Nat.sub_zero, List.dropLast_eq_take]
    rw [e]
    have h3 : Ims X.K H3 xs.dropLast ds.dropLast := by
      rw [List.dropLast_eq_take, List.dropLast_eq_take, hl]
      exact h2.take _
    exact q r _ _ (s2.free (s3.free hr)) ((s2.trans s3).trans (Same.new hr)) upd_same (h3.ex (Same.new hr))⟩)
end
def valsAt (m : Mc) (s : Nat) : List Rat := (lk (valsQ m) s).getD []
def chQ (m : Mc) : List Rat := (valsAt m 0).dropLast
def chD (m : Mc) : D := .tup ((chQ m).map fr)
def preCh (ds : List D) (d : D) : Prop := ∃ (m : Mc), ds = [mD m] ∧ m.Ok 1000 ∧ SolveOk m ∧ d = chD m
def preTwo (ds : List D) (d : D) : Prop := ∃ m m' : Mc, ds = [mD m, mD m'] ∧ m.Ok 1000 ∧ m'.Ok 1000 ∧ m.n = m'.n ∧ d = .non
open Classical in
def preAlike (ds : List D) (d : D) : Prop := ∃ m m' : Mc, ds = [mD m, mD m'] ∧ m.Ok 1000 ∧ m'.Ok 1000 ∧ m.n = m'.n ∧ SolveOk m ∧ SolveOk m' ∧ d = .bl (decide (chD m = chD m'))
def preNeedB (ds : List D) (d : D) : Prop := ∃ bs : List Bool, ds = [btD bs] ∧ bs.length ≤ 100000 ∧ d = .non
def preRun (ds : List D) (d : D) : Prop := ∃ (m : Mc) (bs : List Bool), ds = [mD m, btD bs] ∧ m.Ok 1000 ∧ bs.length ≤ 100000 ∧ d = runD (runM m 0 bs 0)
theorem Mc.Ok.up {m : Mc} {a b : Nat} (h : m.Ok a) (hab : a ≤ b) : m.Ok b := ⟨h.n1, h.n8, h.pos, Nat.le_trans h.le hab, h.row⟩
theorem ways_zero {m : Mc} {z : Nat} (ok : m.Ok z) : 0 ∈ (ways m 0).map (·.1) := by
  have aux : ∀ (n i : Nat) (st : St), WfI m st → 0 ∈ st.map (·.1) → 0 ∈ (wfGo m n i st).map (·.1) := by
    intro n
    induction n with
    | zero => intro i st _ h; exact h
    | succ n ih =>
      intro i st w h
      unfold wfGo
      cases e : st[i]? with
      | none => exact h
      | some p =>
        obtain ⟨w1, r1, e1⟩ := visit_i (here := p.1) (b := false) ok w
        obtain ⟨w2, r2, e2⟩ := visit_i (here := p.1) (b := true) ok w1
        refine ih _ _ w2 ?_
        show 0 ∈ (visit m p.1 true (visit m p.1 false st)).map _
        rw [e2, e1]
        simp only [List.map_append, List.mem_append]
        exact .inl (.inl h)
  exact aux _ _ _ ⟨by simp, by simpa using ok.pos, by simp⟩ (by simp)
theorem valsQ_keys (m : Mc) : (valsQ m).map (·.1) = (ways m 0).map (·.1) := back_keys live_ways _
theorem valsAt_some {m : Mc} {z : Nat} (ok : m.Ok z) : lk (valsQ m) 0 = some (valsAt m 0) := by
  have : hs (valsQ m) 0 = true := hs_mem.mpr (by rw [valsQ_keys]; exact ways_zero ok)
  rw [lk_hs] at this
  obtain ⟨x, hx⟩ := Option.isSome_iff_exists.mp this
  unfold valsAt
  rw [hx]; rfl
theorem valsAt_len {m : Mc} {z : Nat} (ok : m.Ok z) (so : SolveOk m) : (valsAt m 0).length = m.n + 1 :=
  back_len (wd := m.n + 1) rfl live_ways (fun t ht => (so.good _ (Nat.le_refl _) t ht).len) so.keys _ _ (lk_mem (valsAt_some ok))
section
variable {P : Program} {w : World} {K : PySem.W.Frag} {mg : Str → Option Value} {base : Heap}
theorem sc41 : FnScope ["machine"] ["machine"] (defScope (top 41)) := ⟨rfl, rfl, rfl, by decide +kernel, rfl, by decide +kernel, by decide +kernel⟩
theorem pr_ch (T : Txt K mg) (F : Pr P w K mg base "raw_values" 38 ["machine"] (spD K preVals)) : Pr P w K mg base "raw_chances" 39 ["machine"] (spD K preCh) := by
  refine mk_pr T 27 rfl sc41 (fun _ _ _ _ _ _ us hl => match us, hl with | [_], _ => rfl) (fun vs H Q E h => ?_) (fun cdv A outer s H vs Q E hr h => ?_)
  · obtain ⟨ds, d, ⟨m, rfl, _⟩, hI, _⟩ := h
    exact hI.len
  · obtain ⟨ds, d, ⟨m, rfl, ok, so, rfl⟩, hI, k⟩ := h
    cases hI with
    | cons h1 hI =>
    cases hI
    have ft : mg "tuple" = none := T.free _ (by decide +kernel)
    have hl := valsAt_len ok so
    have n8 := ok.n8
    refine w_one (s_ret (Ev.cast (ev_tupleL ft (el_but1 (ev_dget hr (n := 0) (d := nlD (valsAt m 0)) (ev_call F hr (ea_one (ev_var 0 rfl h1)) ⟨m, rfl, ok, so, rfl⟩) ev_int (by rw [mv_lk, valsAt_some ok]; rfl)) (ev_neg ev_int) (by rw [List.length_map, hl]; omega))) ?_) k)
    unfold chD chQ
    rw [List.map_dropLast]
theorem sc46 : FnScope ["one", "other"] ["one", "other"] (defScope (top 46)) := ⟨rfl, rfl, rfl, by decide +kernel, rfl, by decide +kernel, by decide +kernel⟩
theorem pr_two (T : Txt K mg) (F : Pr P w K mg base "need_machine" 5 ["machine"] (spD K preNeed)) : Pr P w K mg base "need_two" 6 ["one", "other"] (spD K preTwo) := by
  refine mk_pr T 31 rfl sc46 (fun _ _ _ _ _ _ us hl => match us, hl with | [_, _], _ => rfl) (fun vs H Q E h => ?_) (fun cdv A outer s H vs Q E hr h => ?_)
  · obtain ⟨ds, d, ⟨m, m', rfl, _⟩, hI, _⟩ := h
    exact hI.len
  · obtain ⟨ds, d, ⟨m, m', rfl, ok, ok', hn, rfl⟩, hI, k⟩ := h
    cases hI with
    | cons h1 hI =>
    cases hI with
    | cons h2 hI =>
    cases hI
    refine w_cons (s_expr (ev_call F hr (ea_one (ev_var 0 rfl h1)) ⟨m, rfl, ok.up (by omega), rfl⟩) fun H1 s1 => ?_)
    refine w_cons (s_expr (ev_call F hr (ea_one (ev_var 1 rfl (h2.ex s1))) ⟨m', rfl, ok'.up (by omega), rfl⟩) fun H2 s2 => ?_)
    have s02 := s1.trans s2
    refine w_one (s_if (EvT.cast (et_neI (ev_mn (ev_var 0 rfl (h1.ex s02))) (ev_mn (ev_var 1 rfl (h2.ex s02)))) (b' := false) (by rw [hn]; simp)) (fun q => nomatch q) fun _ H3 s3 => w_nil (k _ H3 (s02.trans s3) .non))
theorem ch_sh (m : Mc) : D.sh 2 (chD m) = true := shs_map (n := 1) (f := fr) (fun _ => rfl) _
theorem ch_nb (m : Mc) : (chD m).nb = true := nbs_map (f := fr) (fun _ => rfl) _
theorem sc52 : FnScope ["one", "other"] ["one", "other"] (defScope (top 52)) := ⟨rfl, rfl, rfl, by decide +kernel, rfl, by decide +kernel, by decide +kernel⟩
theorem prB_alike (T : Txt K mg) (N : Pr P w K mg base "need_two" 6 ["one", "other"] (spD K preTwo)) (F : Pr P w K mg base "raw_chances" 39 ["machine"] (spD K preCh)) : PrB P w K mg base "are_alike" 52 40 ["one", "other"] (spD K preAlike) := by
  refine mk_prB T 37 rfl sc52 (fun _ _ _ _ _ _ us hl => match us, hl with | [_, _], _ => rfl) (fun vs H Q E h => ?_) (fun cdv A outer s H vs Q E hr h => ?_)
  · obtain ⟨ds, d, ⟨m, m', rfl, _⟩, hI, _⟩ := h
    exact hI.len
  · obtain ⟨ds, d, ⟨m, m', rfl, ok, ok', hn, so, so', rfl⟩, hI, k⟩ := h
    cases hI with
    | cons h1 hI =>
    cases hI with
    | cons h2 hI =>
    cases hI
    refine w_cons (s_expr (ev_call N (hr.mono (by decide)) (ea_cons (ev_var 0 rfl h1) (ea_one (ev_var 1 rfl h2))) ⟨m, m', rfl, ok, ok', hn, rfl⟩) fun H1 s1 => ?_)
    exact w_one (s_ret (ev_eqD hr (ev_call F hr (ea_one (ev_var 0 rfl (h1.ex s1))) ⟨m, rfl, ok, so, rfl⟩) (ev_call F hr (ea_one (ev_var 1 rfl (h2.ex s1))) ⟨m', rfl, ok', so', rfl⟩) (ch_sh m) (ch_sh m') (ch_nb m) (ch_nb m')) fun v H2 s2 hv => k v H2 (s1.trans s2) hv)
theorem sc54 : FnScope ["bits"] ["bits"] (defScope (top 54)) := ⟨rfl, rfl, rfl, by decide +kernel, rfl, by decide +kernel, by decide +kernel⟩
theorem bt_all (bs : List Bool) : (bs.map b1).all (fun i => decide (0 ≤ i) && decide (i ≤ 1)) = true := by
  rw [List.all_map, List.all_eq_true]
  intro b _
  cases b <;> rfl
theorem btD_ints (bs : List Bool) : btD bs = .tup ((bs.map b1).map D.int) := by rw [List.map_map]; rfl
theorem pr_needb (T : Txt K mg) (F : Pr P w K mg base "are_bits_value" 4 ["thing"] (spD K preBits)) : Pr P w K mg base "need_bits" 5 ["bits"] (spD K preNeedB) := by
  refine mk_pr T 38 rfl sc54 (fun _ _ _ _ _ _ us hl => match us, hl with | [_], _ => rfl) (fun vs H Q E h => ?_) (fun cdv A outer s H vs Q E hr h => ?_)
  · obtain ⟨ds, d, ⟨m, rfl, _⟩, hI, _⟩ := h
    exact hI.len
  · obtain ⟨ds, d, ⟨bs, rfl, hz, rfl⟩, hI, k⟩ := h
    cases hI with
    | cons h1 hI =>
    cases hI
    exact w_one (s_if (EvT.cast (et_not (et_val (ev_call F hr (ea_one (ev_var 0 rfl h1)) ⟨bs.map b1, by rw [btD_ints], by rw [List.length_map]; exact hz, rfl⟩))) (b' := false) (by rw [bt_all]; rfl)) (fun q => nomatch q) fun _ H3 s3 => w_nil (k _ H3 s3 .non))
theorem sc56 : FnScope ["machine", "bits"] ["machine", "bits"] (defScope (top 56)) := ⟨rfl, rfl, rfl, by decide +kernel, rfl, by decide +kernel, by decide +kernel⟩
theorem pr_run (T : Txt K mg) (N : Pr P w K mg base "need_machine" 5 ["machine"] (spD K preNeed)) (B : Pr P w K mg base "need_bits" 5 ["bits"] (spD K preNeedB)) (F : Pr P w K mg base "run_from" 1 ["machine", "first", "bits"] (spD K preRunF)) : Pr P w K mg base "run" 6 ["machine", "bits"] (spD K preRun) := by
  refine mk_pr T 39 rfl sc56 (fun _ _ _ _ _ _ us hl => match us, hl with | [_, _], _ => rfl) (fun vs H Q E h => ?_) (fun cdv A outer s H vs Q E hr h => ?_)
  · obtain ⟨ds, d, ⟨m, m', rfl, _⟩, hI, _⟩ := h
    exact hI.len
  · obtain ⟨ds, d, ⟨m, bs, rfl, ok, hz, rfl⟩, hI, k⟩ := h
    cases hI with
    | cons h1 hI =>
    cases hI with
    | cons h2 hI =>
    cases hI
    refine w_cons (s_expr (ev_call N hr (ea_one (ev_var 0 rfl h1)) ⟨m, rfl, ok.up (by omega), rfl⟩) fun H1 s1 => ?_)
    refine w_cons (s_expr (ev_call B hr (ea_one (ev_var 1 rfl (h2.ex s1))) ⟨bs, rfl, hz, rfl⟩) fun H2 s2 => ?_)
    have s02 := s1.trans s2
    exact w_one (s_ret (ev_call F (hr.mono (by decide)) (ea_cons (ev_var 0 rfl (h1.ex s02)) (ea_cons ev_int (ea_one (ev_var 1 rfl (h2.ex s02))))) ⟨m, 0, bs, rfl, ok.up (by omega), ok.pos, rfl⟩) fun v H3 s3 hv => k v H3 (s02.trans s3) hv)
end
end Dr
set_option Elab.async false
set_option linter.all false
set_option maxRecDepth 100000
set_option maxHeartbeats 4000000
set_option pp.deepTerms false
set_option pp.maxSteps 400
namespace Dr
open PySem PySem.Spec PyProof.Rows L2
/-! ### dicts whose keys are tuples of numbers -/
inductive KvT (K : PySem.W.Frag) (H : Hp) : List (List Key × V) → List (List Nat × D) → Prop
  | nil : KvT K H [] []
  | cons {v : V} {d : D} {r : List (List Key × V)} {l : List (List Nat × D)} {k : List Nat} (h : Im K H v d) (t : KvT K H r l) : KvT K H ((k.map nk, v) :: r) ((k, d) :: l)
theorem nks_inj : ∀ {a b : List Nat}, a.map nk = b.map nk ↔ a = b
  | [], [] => by simp
  | [], _ :: _ => by simp
  | _ :: _, [] => by simp
  | x :: a, y :: b => by simp [nk_inj, nks_inj (a := a) (b := b)]
theorem nk_kV (ks : List Nat) : (ks.map nk).map kV = ks.map fun n : Nat => V.int n := by
  rw [List.map_map]; rfl
section
variable {K : PySem.W.Frag} {H H1 : Hp}
theorem KvT.ex {kvs : List (List Key × V)} {l : List (List Nat × D)} (h : KvT K H kvs l) (e : Same H H1) : KvT K H1 kvs l := by
  induction h with
  | nil => exact .nil
  | cons h t ih => exact .cons (h.ex e) ih
theorem KvT.up (e : Tx K H H1) {kvs : List (List Key × V)} {l : List (List Nat × D)} (h : KvT K H kvs l) (hp : ∀ p ∈ l, p.2.pl = true) : KvT K H1 kvs l := by
  induction h with
  | nil => exact .nil
  | cons h t ih => exact .cons (h.up e (hp _ (List.mem_cons_self ..))) (ih fun p m => hp p (List.mem_cons_of_mem _ m))
theorem KvT.len {kvs : List (List Key × V)} {l : List (List Nat × D)} (h : KvT K H kvs l) : kvs.length = l.length := by
  induction h with
  | nil => rfl
  | cons h t ih => exact congrArg (· + 1) ih
theorem KvT.val {kvs : List (List Key × V)} {l : List (List Nat × D)} (h : KvT K H kvs l) (k : List Nat) : (lk l k = none ∧ valV kvs (k.map nk) = none) ∨ ∃ d v, lk l k = some d ∧ valV kvs (k.map nk) = some v ∧ Im K H v d := by
  induction h with
  | nil => exact .inl ⟨rfl, rfl⟩
  | @cons v d r l j h t ih =>
    by_cases e : j = k
    · subst e
      exact .inr ⟨d, v, by simp [lk], by simp [valV], h⟩
    · have e2 : ¬ j.map nk = k.map nk := fun z => e (nks_inj.mp z)
      have q1 : lk ((j, d) :: l) k = lk l k := by simp [lk, e]
      have q2 : valV ((j.map nk, v) :: r) (k.map nk) = valV r (k.map nk) := by simp only [valV, List.find?_cons, decide_eq_false e2]
      rw [q1, q2]
      exact ih
theorem KvT.any {kvs : List (List Key × V)} {l : List (List Nat × D)} (h : KvT K H kvs l) (k : List Nat) : (kvs.any fun kv => decide (kv.1 = k.map nk)) = hs l k := by
  rw [lk_hs, valV_any]
  rcases h.val k with ⟨h1, h2⟩ | ⟨d, v, h1, h2, _⟩ <;> rw [h1, h2] <;> rfl
theorem KvT.app {kvs kvs' : List (List Key × V)} {l l' : List (List Nat × D)} (h : KvT K H kvs l) (h' : KvT K H kvs' l') : KvT K H (kvs ++ kvs') (l ++ l') := by
  induction h with
  | nil => exact h'
  | cons h t ih => exact .cons h ih
theorem KvT.repl {kvs : List (List Key × V)} {l : List (List Nat × D)} {v : V} {d : D} (h : KvT K H kvs l) (k : List Nat) (hv : Im K H v d) : KvT K H (kvs.map fun kv => if kv.1 = k.map nk then (kv.1, v) else kv) (l.map fun p => if p.1 = k then (p.1, d) else p) := by
  induction h with
  | nil => exact .nil
  | @cons v' d' r l' j h t ih =>
    by_cases e : j = k
    · subst e
      simp only [List.map_cons, if_true]
      exact .cons hv ih
    · have e2 : ¬ j.map nk = k.map nk := fun z => e (nks_inj.mp z)
      simp only [List.map_cons, if_neg e, if_neg e2]
      exact .cons h ih
theorem KvT.put {kvs : List (List Key × V)} {l : List (List Nat × D)} {v : V} {d : D} (h : KvT K H kvs l) (k : List Nat) (hv : Im K H v d) : KvT K H (putK kvs (k.map nk) v) (pt l k d) := by
  unfold putK pt
  rw [h.any]
  split
  · exact h.repl k hv
  · exact h.app (.cons hv .nil)
def Dt (K : PySem.W.Frag) (H : Hp) (p : Addr) (l : List (List Nat × D)) : Prop := ∃ kvs, H p = some (.dT kvs) ∧ KvT K H kvs l
theorem Dt.ex {p : Addr} {l : List (List Nat × D)} (h : Dt K H p l) (s : Same H H1) : Dt K H1 p l := by
  obtain ⟨kvs, h1, h2⟩ := h
  exact ⟨kvs, s _ _ h1, h2.ex s⟩
theorem Dt.mu {p q : Addr} {l : List (List Nat × D)} (h : Dt K H q l) (ne : q ≠ p) (m : Mu p H H1) (t : Tx K H H1) (hp : ∀ x ∈ l, x.2.pl = true) : Dt K H1 q l := by
  obtain ⟨kvs, h1, h2⟩ := h
  exact ⟨kvs, m.at ne h1, h2.up t hp⟩
theorem Im.keyI {v : V} {ks : List Nat} (h : Im K H v (.key ks)) : ∃ b, v = .ref b ∧ H b = some (.tup (ks.map fun n : Nat => V.int n)) := by cases h with | key h => exact ⟨_, rfl, h⟩
end
/-- numbers as data -/
def nI0 (n : Nat) : D := .int (n : Nat)
theorem ims_nat {K : PySem.W.Frag} {H : Hp} (ks : List Nat) : Ims K H (ks.map fun n : Nat => V.int n) (ks.map nI0) := by
  induction ks with
  | nil => exact .nil
  | cons k ks ih => exact .cons (.int _) ih
theorem ims_natI {K : PySem.W.Frag} {H : Hp} {vs : List V} : ∀ {ks : List Nat}, Ims K H vs (ks.map nI0) → vs = ks.map fun n : Nat => V.int n := fun {ks} h => by
  induction ks generalizing vs with
  | nil => cases h; rfl
  | cons k ks ih =>
    cases h with
    | cons h t => rw [h.intI, ih t]; rfl
theorem Im.key_tup {K : PySem.W.Frag} {H : Hp} {v : V} {ks : List Nat} (h : Im K H v (.key ks)) : Im K H v (.tup (ks.map nI0)) := by
  obtain ⟨b, rfl, hb⟩ := h.keyI
  exact .tup (.of hb) (ims_nat ks)
section
variable {X : Cx} {σ : L2.St} {H H' : Hp} {a b c e f : Expr} {es : List Expr} {pos p1 apos cpos : Pos} {d d1 d2 : D} {ds : List D} {l : List (List Nat × D)} {ks js : List Nat} {n k : Nat} {Z : Ends}
theorem Ev.key_tup (h : Ev X e σ H (.key ks)) : Ev X e σ H (.tup (ks.map nI0)) := fun H1 s Q q => h H1 s Q fun v H2 s2 hv => q v H2 s2 hv.key_tup
/-- (x, y, ..) of numbers -/
theorem ev_key {m : Nat} (h : EvA X es σ H (ks.map nI0)) (hl : ks.length ≤ 100000 := by exact Nat.le_of_ble_eq_true rfl) : Ev X (.Tuple es m pos) σ H (.key ks) :=
  fun H1 s Q q => .of (pe_tup pa_W) (h H1 s _ fun vs H2 s2 hvs => ⟨by rw [hvs.len, List.length_map]; exact Nat.le_trans hl (by decide), fun p hp => q _ _ (s2.trans (Same.new hp)) (.key (by rw [upd_same, ims_natI hvs]))⟩)
/-- t + u of such -/
theorem ev_catK (ha : Ev X a σ H (.key ks)) (hb : Ev X b σ H (.key js)) (hl : ks.length + js.length ≤ sizeLine) : Ev X (.BinOp a .Add b pos) σ H (.key (ks ++ js)) :=
  ev_op2D op_catA ha hb fun H1 x y hx hy Q q => by
    obtain ⟨p, rfl, h1⟩ := hx.keyI
    obtain ⟨r, rfl, h3⟩ := hy.keyI
    refine ⟨p, r, _, _, rfl, rfl, .of h1, .of h3, by simpa using hl, fun e => ?_, fun _ e => ?_, fun _ _ z hz => ?_⟩
    · rw [List.map_eq_nil_iff.mp e, List.nil_append] at q
      exact q _ H1 (Same.refl _) hy
    · rw [List.map_eq_nil_iff.mp e, List.append_nil] at q
      exact q _ H1 (Same.refl _) hx
    · exact q _ _ (Same.new hz) (.key (by rw [upd_same, List.map_append]))
/-- tuple(l) of numbers -/
theorem ev_keyL {x : Str} {p : Pos} (hm : X.mg x = none) (ha : EvL X e σ H (ks.map nI0)) (hv : bootBuiltins x = some (.type "tuple") := by exact PyProof.Rows.boot_tuple) (hg : Gl X x := by rfl) (hn : x ≠ "__name__" := by decide) (hdb : (x == ("__debug__" : Str)) = false := by decide)
    (he : starEach [e] X.env = (false, eval e X.env) :: starEach [] X.env := by rfl) (hpl : (backTo pos (starEach [] X.env)).any (·.1) = false := by rfl) : Ev X (.Call (.Name x p) [e] [] pos) σ H (.key ks) :=
  fun H1 s Q q => .of (pe_callTy call_tuple_of hg hm hv pa_W hn hdb he hpl) (wa_cons (ha H1 s _ fun l xs H2 _ s2 h1 h2 => wa_nil
    ⟨l, xs, rfl, .inl ⟨.of h1, fun z hz => q _ _ (s2.trans (Same.new hz)) (.key (by rw [upd_same, ims_natI h2]))⟩⟩) he)
theorem KvT.dget {K : PySem.W.Frag} {p b : Addr} {kvs : List (List Key × V)} (h : H p = some (.dT kvs)) (hb : H b = some (.tup (ks.map fun n : Nat => V.int n))) : DGet H p (.ref b) (valV kvs (ks.map nk)) :=
  DGet.t h (by rw [nk_kV]; exact hb)
theorem ev_tget {p : Addr} (hr : Rm k X.A) (ha : EvV X a σ H (.ref p)) (hp : Dt X.K H p l) (hb : Ev X b σ H (.key ks)) (hx : lk l ks = some d) (hs : NoSl b := by exact fun _ _ => rfl) : Ev X (.Subscript a b pos) σ H d :=
  fun H1 s Q q => .of (pe_dget (by have := hr.room.un; omega) pe_W pe_W hs) (ha H1 s _ fun H2 s2 => hb H2 (s.trans s2) _ fun x H3 s3 hxv => by
    obtain ⟨r, rfl, h1⟩ := hxv.keyI
    obtain ⟨kvs, h2, h3⟩ := hp.ex ((s.trans s2).trans s3)
    rcases h3.val ks with ⟨h4, _⟩ | ⟨d', v, h4, h5, h6⟩
    · rw [hx] at h4; cases h4
    · rw [hx] at h4
      obtain rfl := Option.some.inj h4
      exact ⟨p, v, rfl, h5 ▸ KvT.dget (K := X.K) h2 h1, q v H3 (s2.trans s3) h6⟩)
theorem et_tin {p : Addr} (hr : Rm k X.A) (ha : Ev X a σ H (.key ks)) (hb : EvV X b σ H (.ref p)) (hp : Dt X.K H p l) (hm : behindInMarks .In b = false := by rfl) : EvT X (.Compare a [.In] [b] pos) σ H (hs l ks) :=
  fun H1 s Q q => .of (pt_cmp (pc_din (by have := hr.room.un; omega) pe_W pe_W) hm) (ha H1 s _ fun x H2 s2 hx => hb H2 (s.trans s2) _ fun H3 s3 => by
    obtain ⟨r, rfl, h1⟩ := (hx.ex s3).keyI
    obtain ⟨kvs, h2, h3⟩ := hp.ex ((s.trans s2).trans s3)
    refine ⟨p, _, rfl, KvT.dget (K := X.K) h2 h1, _, rfl, ?_⟩
    rw [← valV_any, h3.any]
    exact q H3 (s2.trans s3))
theorem et_tnotin {p : Addr} (hr : Rm k X.A) (ha : Ev X a σ H (.key ks)) (hb : EvV X b σ H (.ref p)) (hp : Dt X.K H p l) (hm : behindInMarks .NotIn b = false := by rfl) : EvT X (.Compare a [.NotIn] [b] pos) σ H (!hs l ks) :=
  fun H1 s Q q => .of (pt_cmp (pc_dnotin (by have := hr.room.un; omega) pe_W pe_W) hm) (ha H1 s _ fun x H2 s2 hx => hb H2 (s.trans s2) _ fun H3 s3 => by
    obtain ⟨r, rfl, h1⟩ := (hx.ex s3).keyI
    obtain ⟨kvs, h2, h3⟩ := hp.ex ((s.trans s2).trans s3)
    refine ⟨p, _, rfl, KvT.dget (K := X.K) h2 h1, _, rfl, ?_⟩
    rw [← valV_any, h3.any]
    exact q H3 (s2.trans s3))
/-- d.get(key, x) -/
theorem ev_tgetd {p : Addr} (hr : Rm k X.A) (ha : EvV X a σ H (.ref p)) (hp : Dt X.K H p l) (hb : Ev X e σ H (.key ks)) (hc : Ev X f σ H d) (m : M2 X a "get" apos e f cpos := by exact ⟨rfl, rfl, rfl, rfl⟩) : Ev X (.Call (.Attribute a "get" apos) [e, f] [] cpos) σ H ((lk l ks).getD d) :=
  fun H1 s Q q => .of (pe_dget2 (by have := hr.room.un; omega) pe_W pe_W pe_W m) (ha H1 s _ fun H2 s2 => by
    obtain ⟨kvs, h2, h3⟩ := hp.ex (s.trans s2)
    refine ⟨p, rfl, .inr ⟨kvs, .of h2⟩, hb H2 (s.trans s2) _ fun y H3 s3 hy => hc H3 ((s.trans s2).trans s3) _ fun z H4 s4 hz => ?_⟩
    obtain ⟨r, rfl, h1⟩ := (hy.ex s4).keyI
    refine ⟨_, KvT.dget (K := X.K) ((s3.trans s4) _ _ h2) h1, ?_⟩
    rcases (h3.ex (s3.trans s4)).val ks with ⟨h5, h6⟩ | ⟨d', v, h5, h6, h7⟩
    · rw [h5] at q
      rw [h6]
      exact q _ H4 ((s2.trans s3).trans s4) hz
    · rw [h5] at q
      rw [h6]
      exact q _ H4 ((s2.trans s3).trans s4) h7)
theorem ev_tlen {x : Str} {p : Pos} {q0 : Addr} (hm : X.mg x = none) (ha : EvV X a σ H (.ref q0)) (hl : Dt X.K H q0 l) (hv : bootBuiltins x = some (.builtin "len") := by exact PySem.boot_len) (hg : Gl X x := by rfl) (hn : x ≠ "__name__" := by decide) (hdb : (x == ("__debug__" : Str)) = false := by decide)
    (he : starEach [a] X.env = (false, eval a X.env) :: starEach [] X.env := by rfl) (hpl : (backTo pos (starEach [] X.env)).any (·.1) = false := by rfl) : Ev X (.Call (.Name x p) [a] [] pos) σ H (.int l.length) :=
  fun H1 s Q q => .of (pe_callB call_len_dT hg hm hv pa_W hn hdb he hpl) (wa_cons (ha H1 s _ fun H2 s2 => wa_nil (by
    obtain ⟨kvs, h1, h2⟩ := hl.ex (s.trans s2)
    exact ⟨q0, kvs, rfl, h1, by rw [h2.len]; exact q _ H2 s2 (.int _)⟩)) he)
/-- {} with keys to come that are tuples -/
theorem we_tnew {Q : VK} (h : ∀ p, H p = none → Q (.ref p) (upd H p (.dT []))) : WE X (.Dict [] [] pos) σ H Q := .of pe_dnewT h
/-- d[key] = e -/
theorem s_tput {p : Addr} (hr : Rm k X.A) (he : Ev X e σ H d) (ha : EvV X a σ H (.ref p)) (hp : Dt X.K H p l) (hb : Ev X b σ H (.key ks)) (hpl : d.pl = true) (hlp : ∀ q ∈ l, q.2.pl = true) (hz : l.length < 100000)
    (h : ∀ H', Mu p H H' → Tx X.K H H' → Dt X.K H' p (pt l ks d) → Z.nx σ H') (hs : swapsWith e (some (.Subscript a b p1)) pos.line X.env = pure false := by rfl) : WS X (.Assign [.Subscript a b p1] e pos) Z σ H :=
  ⟨_, ps_dput (by have := hr.room.un; omega) pe_W pe_W pe_W hs, he H (Same.refl _) _ fun v H1 s1 hv => ha H1 s1 _ fun H2 s2 => hb H2 (s1.trans s2) _ fun y H3 s3 hy => by
    have s := (s1.trans s2).trans s3
    obtain ⟨kvs, h1, h2⟩ := hp.ex s
    obtain ⟨r, rfl, h4⟩ := hy.keyI
    refine ⟨p, _, rfl, .inr ⟨kvs, ks.map nk, r, h1, rfl, by rw [nk_kV]; exact h4, by rw [h2.len, sizeLine_eq]; omega, rfl⟩, h _ ?_ ((Same.tx s).trans (Tx.put h1 trivial)) ⟨_, upd_same, ?_⟩⟩
    · unfold Mu
      rw [rm_upd]
      exact rm_same s
    · refine (h2.put ks (hv.ex (s2.trans s3))).up (Tx.put h1 trivial) fun q m => ?_
      have : q ∈ l ∨ q.2 = d := by
        unfold pt at m
        split at m
        · obtain ⟨q', m', rfl⟩ := List.mem_map.mp m
          split
          · exact .inr rfl
          · exact .inl m'
        · rcases List.mem_append.mp m with m | m
          · exact .inl m
          · rw [List.mem_singleton] at m
            exact .inr (by rw [m])
      rcases this with m | m
      · exact hlp q m
      · rw [m]; exact hpl⟩
theorem KvT.keysAt {K : PySem.W.Frag} {H H1 : Hp} {kvs : List (List Key × V)} {l : List (List Nat × D)} {bs : List Addr} (h : KvT K H kvs l) (hk : IsKeys H kvs bs) (hh : ∀ b xs, H b = some (.tup xs) → H1 b = some (.tup xs)) : Ims K H1 (bs.map V.ref) (l.map fun q => D.key q.1) := by
  induction h generalizing bs with
  | nil =>
    unfold IsKeys at hk
    cases hk
    exact .nil
  | @cons v d r' l' j h t ih =>
    unfold IsKeys at hk
    cases hk with
    | cons h1 h2 => exact .cons (.key (by rw [hh _ _ h1, nk_kV])) (ih h2)
/-- list(d): its keys -/
theorem wl_tkeys {p : Pos} {Q : VK} (hm : X.mg "list" = none) (ha : WE X e σ H fun v H1 => ∃ q0, v = .ref q0 ∧ Dt X.K H1 q0 l ∧ ∀ r H2, H1 r = none → Same H1 H2 → LsI X.K H2 r (l.map fun q => D.key q.1) → Q (.ref r) H2) (hg : Gl X "list" := by rfl) (hc : X.calm = true := by rfl) (hv : bootBuiltins "list" = some (.type "list") := by decide +kernel)
    (he : starEach [e] X.env = (false, eval e X.env) :: starEach [] X.env := by rfl) (hpl : (backTo pos (starEach [] X.env)).any (·.1) = false := by rfl) : WE X (.Call (.Name "list" p) [e] [] pos) σ H Q :=
  .of (pe_callTy (call_list_dT hc) hg hm hv pa_W (by decide) (by decide) he hpl) (wa_cons (ha.mono fun v H1 hq => by
    obtain ⟨q0, rfl, ⟨kvs, h1, h2⟩, q⟩ := hq
    exact wa_nil ⟨q0, kvs, rfl, .of h1, fun r bs hr hk => q r _ hr (Same.new hr) ⟨_, upd_same, h2.keysAt hk fun b xs z => by rw [upd_ne (fun e => by subst e; rw [hr] at z; cases z)]; exact z⟩⟩) he)
end
end Dr
set_option Elab.async false
set_option linter.all false
set_option maxRecDepth 100000
set_option maxHeartbeats 4000000
set_option pp.deepTerms false
set_option pp.maxSteps 400
namespace Dr
open PySem PySem.Spec PyProof.Rows L2
section
variable {X : Cx} {pins : List (Addr × Obj)} {σ : L2.St} {H : Hp} {s : Shared} {E : Value → Shared → Prop}
theorem dtk_write {G b : Addr} {kvs : List (List Key × V)} {k : List Key} {v : V} {r : Value} {xs : List (List Key × Addr × Value)} {h' : Heap} {tk : Nat} (I : Inv X pins σ H s) (hG : H G = some (.dT kvs)) (hz : kvs.length < sizeLine) (hb : H b = some (.tup (k.map kV))) (rv : RelV v r)
    (hd : (G == sysModules) = false) (rel : KT H kvs xs) (dd' : h'.DictOfH (tupleKind (mixKind X.prog X.w)) G (storedH xs k b r)) (hs : Heap.SameBut G s.heap h') : Inv X pins σ (upd H G (.dT (putK kvs k v))) { s with heap := h', toks := tk } := by
  have hl : (putK kvs k v).length ≤ sizeLine := by have := length_putK kvs k v; omega
  obtain ⟨q, es, ep, hq, h2, h3, h4, _, h5⟩ := dd'
  refine d_write I (by rw [hG]; exact True.intro) hs ⟨q, hq⟩ ⟨hl, hd, _, (rel.put k hb rv).keeps fun c ys ec => ?_, q, es, ep, hq, h2, h3, h4, h5⟩
  have : c ≠ G := by
    rintro rfl
    rw [hG] at ec; cases ec
  rw [upd_ne this]
  exact ec
/-- the store of a comprehension -/
theorem dtk_set {G b : Addr} {kvs : List (List Key × V)} {k : List Key} {v : V} {r : Value} {Q : Unit → Shared → Prop} (hu : X.A.units < cLine) (I : Inv X pins σ H s) (hG : H G = some (.dT kvs)) (hz : kvs.length < sizeLine) (hb : H b = some (.tup (k.map kV))) (rv : RelV v r)
    (h : ∀ s', Inv X pins σ (upd H G (.dT (putK kvs k v))) s' → Q () s') : wpAny (model X.prog X.w) X.A (dictSet G (.ref b) r) Q E s := by
  obtain ⟨z, hd, xs, rel, dd⟩ := dt_of I.hok hG
  have hzx : xs.length ≤ sizeLine := by rw [← Paired.length rel]; exact z
  exact wpAny_dictSet_heap (hsz := hzx) (knd := tupleKind (mixKind X.prog X.w)) hu (key_of I.hok hb) dd fun h' dd' hs => h _ (dtk_write I hG hz hb rv hd rel dd' hs)
end
section
variable {X : Cx} {a b : Expr} {pos : Pos} {ta tb : TE}
/-- {key: e}, the key a tuple -/
def tDisp1 (ta tb : TE) : TE := fun σ H Q => ∀ p, H p = none → ta σ (upd H p (.dT [])) fun x H1 => tb σ H1 fun y H2 => ∃ bk ks, x = .ref bk ∧ H2 bk = some (.tup (ks.map kV)) ∧ H2 p = some (.dT []) ∧ Q (.ref p) (upd H2 p (.dT [(ks, y)]))
theorem pe_disp1T (hu : X.A.units < cLine) (ha : PE X a ta) (hb : PE X b tb) : PE X (.Dict [some a] [b] pos) (tDisp1 ta tb) := by
  refine ⟨fun pins s σ H Q I q => ?_⟩
  have hn := I.hok.fresh (Nat.le_refl s.heap.objs.size)
  have I1 := I.laid (a := s.heap.objs.size) (o := .dT []) (h' := s.heap.push { cls := .type "dict", data := .dict #[] }) (t' := s.toks) (fun _ _ q => Heap.get?_push_of_some _ q) (Nat.le_refl _) (dt_empty s.heap I.big)
  have P1 : PPs X pos [some a] [b] [(ta, tb)] := pps_cons ha hb pps_nil
  rw [arm_eval_Dict, show (evalEachOpt [some a] X.env).zip ((evalEach [b] X.env).map fun v => do let x ← v; standAt pos; pure x) = (pairTrees [some a] [b] X.env pos).map fun p => (some p.1, p.2) from rfl,
    dictDisplay_pairs _ (by exact List.cons_ne_nil _ _) (by exact Nat.le_of_ble_eq_true rfl)]
  have q1 := q s.heap.objs.size hn
  have pr : tPairs [(ta, tb)] σ (upd H s.heap.objs.size (.dT [])) (fun ps H2 => match ps with
    | [(x, y)] => ∃ bk ks, x = .ref bk ∧ H2 bk = some (.tup (ks.map kV)) ∧ H2 s.heap.objs.size = some (.dT []) ∧ Q (.ref s.heap.objs.size) (upd H2 s.heap.objs.size (.dT [(ks, y)]))
    | _ => False) := q1
  refine wpAny_bind (wpAny_standAt (wpAny_bind (wpAny_subDictH (knd := tupleKind (mixKind X.prog X.w)) hu (by exact Nat.le_of_ble_eq_true rfl) (thn (P1.run pins _ σ _ _ I1 pr) fun vs s2 h2 => ?_))))
  obtain ⟨ps, H2, I2, rel, hq⟩ := h2
  cases rel with
  | nil => exact hq.elim
  | @cons p r ps rs h t =>
    cases t with
    | cons h2 t2 => exact hq.elim
    | nil =>
      obtain ⟨x, y⟩ := p
      obtain ⟨u, r⟩ := r
      obtain ⟨bk, ks, rfl, h3, h4, q2⟩ := hq
      obtain ⟨rx, ry⟩ := h
      obtain rfl : u = Value.ref bk := rx
      obtain ⟨z, hd, xs, rk, dd⟩ := dt_of I2.hok h4
      cases rk
      refine ⟨[(ks, bk, r)], ⟨rfl, rfl, key_of I2.hok h3, trivial⟩, dd, fun h' tk dd' hs => ?_⟩
      refine wpAny_pure ⟨.ref s.heap.objs.size, _, dtk_write I2 h4 (by decide) h3 ry hd .nil dd' hs, rfl, q2⟩
end
end Dr
set_option Elab.async false
set_option linter.all false
set_option maxRecDepth 100000
set_option maxHeartbeats 4000000
set_option pp.deepTerms false
set_option pp.maxSteps 400
set_option exponentiation.threshold 20000
namespace Dr
open PySem PySem.Spec PyProof.Rows L2
section
variable {X : Cx} {σ : L2.St} {H H' : Hp} {a b c e : Expr} {es : List Expr} {pos p p1 p2 apos cpos tpos : Pos} {d d1 d2 : D} {ds ds2 : List D} {n k : Nat} {Z : Ends}
theorem we_disp1T {ks : List Nat} {Q : VK} (hr : Rm k X.A) (ha : Ev X a σ H (.key ks)) (hb : Ev X b σ H d) (h : ∀ p H1, H p = none → Same H H1 → Dt X.K H1 p [(ks, d)] → Q (.ref p) H1) (hpl : d.pl = true := by rfl) : WE X (.Dict [some a] [b] pos) σ H Q :=
  ⟨_, pe_disp1T (by have := hr.room.un; omega) pe_W pe_W, fun p hp => ha _ (Same.new hp) _ fun v H2 s2 hv => hb H2 ((Same.new hp).trans s2) _ fun w H3 s3 hw => by
    obtain ⟨bk, rfl, h1⟩ := (hv.ex s3).keyI
    have e : H3 p = some (.dT []) := (s2.trans s3) _ _ upd_same
    refine ⟨bk, ks.map nk, rfl, by rw [nk_kV]; exact h1, e, h p _ hp (Same.mut ((Same.new hp).trans (s2.trans s3)) hp) ⟨_, upd_same, ?_⟩⟩
    exact .cons (hw.up (Tx.put e trivial) hpl) .nil⟩
end
/-! tables with renamed keys -/
section
variable {κ ι α β : Type} [DecidableEq κ] [DecidableEq ι]
def km (f : κ → ι) (g : α → β) (l : List (κ × α)) : List (ι × β) := l.map fun q => (f q.1, g q.2)
theorem km_hs {f : κ → ι} {g : α → β} (hf : ∀ a b, f a = f b → a = b) (l : List (κ × α)) (k : κ) : hs (km f g l) (f k) = hs l k := by
  unfold hs km
  rw [List.any_map]
  congr 1
  funext p
  by_cases h : p.1 = k
  · simp [h]
  · have : ¬ f p.1 = f k := fun e => h (hf _ _ e)
    simp [h, this]
theorem km_lk {f : κ → ι} {g : α → β} (hf : ∀ a b, f a = f b → a = b) (l : List (κ × α)) (k : κ) : lk (km f g l) (f k) = (lk l k).map g := by
  induction l with
  | nil => rfl
  | cons p r ih =>
    unfold lk km at ih ⊢
    by_cases h : p.1 = k
    · simp [h]
    · have : ¬ f p.1 = f k := fun e => h (hf _ _ e)
      simp only [List.map_cons, List.find?_cons, decide_eq_false h, decide_eq_false this]
      exact ih
theorem km_pt {f : κ → ι} {g : α → β} (hf : ∀ a b, f a = f b → a = b) (l : List (κ × α)) (k : κ) (v : α) : pt (km f g l) (f k) (g v) = km f g (pt l k v) := by
  unfold pt
  rw [km_hs hf]
  split
  · unfold km
    rw [List.map_map, List.map_map]
    refine List.map_congr_left fun p _ => ?_
    by_cases h : p.1 = k
    · simp [h]
    · have : ¬ f p.1 = f k := fun e => h (hf _ _ e)
      simp [h, this]
  · simp [km]
theorem hs_memG {l : List (κ × α)} {k : κ} : hs l k = true ↔ k ∈ l.map (·.1) := by
  unfold hs
  rw [List.any_eq_true, List.mem_map]
  constructor
  · rintro ⟨p, h1, h2⟩; exact ⟨p, h1, of_decide_eq_true h2⟩
  · rintro ⟨p, h1, h2⟩; exact ⟨p, h1, decide_eq_true h2⟩
theorem lk_memG {l : List (κ × α)} {k : κ} {v : α} (h : lk l k = some v) : (k, v) ∈ l := by
  unfold lk at h
  rw [Option.map_eq_some_iff] at h
  obtain ⟨p, h1, h2⟩ := h
  have := List.find?_some h1
  have e : p.1 = k := of_decide_eq_true this
  subst e h2
  exact List.mem_of_find?_eq_some h1
theorem lk_ofG {l : List (κ × α)} (nd : (l.map (·.1)).Nodup) {p : κ × α} (h : p ∈ l) : lk l p.1 = some p.2 := by
  induction l with
  | nil => cases h
  | cons q r ih =>
    rw [List.map_cons, List.nodup_cons] at nd
    unfold lk
    rcases List.mem_cons.mp h with rfl | h
    · simp
    · have ne : q.1 ≠ p.1 := fun e => nd.1 (by rw [e]; exact List.mem_map_of_mem h)
      have := ih nd.2 h
      unfold lk at this
      simp [ne, this]
end
/-! ### parting_bits -/
abbrev Pst := List ((Nat × Nat) × List Bool)
def k2 (p : Nat × Nat) : List Nat := [p.1, p.2]
theorem k2_inj : ∀ a b, k2 a = k2 b → a = b := fun a b h => by
  simp only [k2, List.cons.injEq, and_true] at h
  exact Prod.ext h.1 h.2
def pkD (st : Pst) : List D := st.map fun r => .key (k2 r.1)
theorem pkD_pl (st : Pst) : D.pls (pkD st) = true := pls_map (fun _ => rfl) _
theorem pkD_len (st : Pst) : (pkD st).length = st.length := by simp [pkD]
def pstD (st : Pst) : List (List Nat × D) := km k2 btD st
def nx2 (m m' : Mc) (p : Nat × Nat) (b : Bool) : Option (Nat × Nat) := match nx m p.1 b, nx m' p.2 b with
  | some x, some y => some (x, y)
  | _, _ => none
def pvisit (m m' : Mc) (p : Nat × Nat) (b : Bool) (st : Pst) : Pst := match nx2 m m' p b with
  | some t => if hs st t = true then st else st ++ [(t, (lk st p).getD [] ++ [b])]
  | none => st
def bothT (m m' : Mc) (p : Nat × Nat) : Bool := match m.rows[p.1]?, m'.rows[p.2]? with
  | some (Rw.toss _ _), some (Rw.toss _ _) => true
  | _, _ => false
def pbGo (m m' : Mc) : Nat → Nat → Pst → Option (List Bool)
  | 0, _, _ => none
  | n + 1, i, st => match st[i]? with
    | none => none
    | some q => if bothT m m' q.1 = true then pbGo m m' n (i + 1) (pvisit m m' q.1 true (pvisit m m' q.1 false st)) else if m.rows[q.1.1]? = m'.rows[q.1.2]? then pbGo m m' n (i + 1) st else some q.2
def parting (m m' : Mc) : Option (List Bool) := pbGo m m' (m.rows.length * m'.rows.length) 0 [((0, 0), [])]
structure PsI (m m' : Mc) (st : Pst) : Prop where
  nd : (st.map (·.1)).Nodup
  lt : ∀ p ∈ st, p.1.1 < m.rows.length ∧ p.1.2 < m'.rows.length
  ln : ∀ p ∈ st, p.2.length ≤ st.length
theorem PsI.len {m m' : Mc} {st : Pst} (w : PsI m m' st) : st.length ≤ m.rows.length * m'.rows.length := by
  have := nodup_sub (st.map (·.1)) ((List.range m.rows.length).flatMap fun i => (List.range m'.rows.length).map fun j => (i, j)) w.nd (fun x hx => by
    obtain ⟨p, h1, rfl⟩ := List.mem_map.mp hx
    obtain ⟨h2, h3⟩ := w.lt p h1
    exact List.mem_flatMap.mpr ⟨p.1.1, List.mem_range.mpr h2, List.mem_map.mpr ⟨p.1.2, List.mem_range.mpr h3, rfl⟩⟩)
  rw [List.length_map, List.length_flatMap] at this
  have e : ∀ n c : Nat, ((List.range n).map fun _ => c).sum = n * c := by
    intro n c
    induction n with
    | zero => simp
    | succ n ih => rw [List.range_succ, List.map_append, List.sum_append, ih]; simp [Nat.succ_mul]
  have e2 : (fun i => ((List.range m'.rows.length).map fun j => (i, j)).length) = fun _ : Nat => m'.rows.length := by funext i; simp
  rw [e2, e] at this
  exact this
theorem pvisit_i {m m' : Mc} {z z' : Nat} {p : Nat × Nat} {b : Bool} {st : Pst} (ok : m.Ok z) (ok' : m'.Ok z') (w : PsI m m' st) : PsI m m' (pvisit m m' p b st) ∧ ∃ r, pvisit m m' p b st = st ++ r := by
  unfold pvisit
  cases e : nx2 m m' p b with
  | none => exact ⟨w, [], by simp⟩
  | some t =>
    simp only
    split
    · exact ⟨w, [], by simp⟩
    · rename_i hh
      refine ⟨⟨?_, ?_, ?_⟩, _, rfl⟩
      · rw [List.map_append, List.nodup_append]
        refine ⟨w.nd, by simp, fun a ha c hc => ?_⟩
        simp at hc
        subst hc
        rintro rfl
        exact hh (hs_memG.mpr ha)
      · intro q hq
        rcases List.mem_append.mp hq with hq | hq
        · exact w.lt q hq
        · rw [List.mem_singleton.mp hq]
          unfold nx2 at e
          cases e1 : nx m p.1 b with
          | none => rw [e1] at e; cases e
          | some x =>
            cases e2 : nx m' p.2 b with
            | none => rw [e1, e2] at e; cases e
            | some y =>
              rw [e1, e2] at e
              obtain rfl := Option.some.inj e
              exact ⟨nx_lt ok e1, nx_lt ok' e2⟩
      · intro q hq
        rw [List.length_append, List.length_singleton]
        rcases List.mem_append.mp hq with hq | hq
        · exact Nat.le_succ_of_le (w.ln q hq)
        · rw [List.mem_singleton.mp hq]
          simp only [List.length_append, List.length_singleton]
          cases q2 : lk st p with
          | none => simp
          | some v => simpa using w.ln _ (lk_memG q2)
def optB : Option (List Bool) → D
  | none => .non
  | some bs => btD bs
def prePart (ds : List D) (d : D) : Prop := ∃ m m' : Mc, ds = [mD m, mD m'] ∧ m.Ok 100 ∧ m'.Ok 100 ∧ d = optB (parting m m')
section
variable {P : Program} {w : World} {K : PySem.W.Frag} {mg : Str → Option Value} {base : Heap}
theorem pstD_pl (st : Pst) : ∀ q ∈ pstD st, q.2.pl = true := fun q hq => by
  obtain ⟨p, _, rfl⟩ := List.mem_map.mp hq
  exact btD_pl _
theorem sc47 : FnScope ["one", "other", "found", "waiting", "at", "pair", "near", "far", "bit", "following"] ["one", "other"] (defScope (top 47)) := ⟨rfl, rfl, rfl, by decide +kernel, rfl, by decide +kernel, by decide +kernel⟩
theorem pr_part (T : Txt K mg) : Pr P w K mg base "parting_bits" 1 ["one", "other"] (spD K prePart) := by
  refine mk_pr T 32 rfl sc47 (fun _ _ _ _ _ _ us hl => match us, hl with | [_, _], _ => rfl) (fun vs H Q E h => ?_) (fun cdv A outer s H vs Q E hr h => ?_)
  · obtain ⟨ds, d, ⟨m, m', rfl, _⟩, hI, _⟩ := h
    exact hI.len
  · obtain ⟨ds, d, ⟨m, m', rfl, ok, ok', rfl⟩, hI, k⟩ := h
    cases hI with
    | @cons v1 _ _ _ h1 hI =>
    cases hI with
    | @cons v2 _ _ _ h2 hI =>
    cases hI
    obtain ⟨to, eo⟩ := T.out
    have fl : mg "len" = none := T.free _ (by decide +kernel)
    have le := ok.le
    have le' := ok'.le
    have lmul : m.rows.length * m'.rows.length ≤ 100 * 100 := Nat.mul_le_mul le le'
    refine w_cons (s_par3 sc47.nd 2 3 4 (wa_cons (we_disp1T hr (ks := [0, 0]) (ev_key (ks := [0, 0]) (ea_cons ev_int (ea_one ev_int))) (ev_tup ea_nil) fun p H1 hp s1 hD => wa_cons (we_evl (el_lst (ea_one (ev_key (ks := [0, 0]) (ea_cons ev_int (ea_one ev_int))))) fun q H2 hq s2 hL => wa_cons (we_ev ev_int fun v H3 s3 hv => wa_nil ⟨_, _, _, rfl, ?_⟩)))))
    have e4 := hv.intI
    subst e4
    have npq : p ≠ q := by
      obtain ⟨kv, z, _⟩ := hD
      rintro rfl
      rw [hq] at z; cases z
    have hq0 : H q = none := s1.free hq
    refine w_cons (s_while (fun z σ H' => ∃ (st : Pst) (i : Nat) (x5 x6 x7 x8 x9 : Option V), σ = [some v1, some v2, some (.ref p), some (.ref q), some (.int (i : Int)), x5, x6, x7, x8, x9] ∧ Same H H' ∧ Dt K H' p (pstD st) ∧ LsI K H' q (pkD st) ∧ PsI m m' st ∧
        i ≤ st.length ∧ z = m.rows.length * m'.rows.length - i ∧ pbGo m m' z i st = parting m m')
      _ ⟨[((0, 0), [])], 0, none, none, none, none, none, rfl, (s1.trans s2).trans s3, (hD.ex s2).ex s3, hL.ex s3, ⟨by simp, by simpa using ⟨ok.pos, ok'.pos⟩, by simp⟩, Nat.zero_le _, rfl, rfl⟩ ?_)
    rintro z σ H' ⟨st, i, x5, x6, x7, x8, x9, rfl, sH, hDt, hLs, wf, hi, rfl, hgo⟩
    have wl := wf.len
    refine ⟨_, et_lt (ev_var 4 rfl (.int _)) (ev_lenL fl (vv_var 3 rfl) hLs), fun tr H4 s4 => ?_, fun tr H4 s4 => ?_⟩
    · have lt : i < st.length := by
        have := of_decide_eq_true tr
        rw [pkD_len] at this
        omega
      obtain ⟨q0, hp0⟩ : ∃ p0, st[i]? = some p0 := ⟨st[i], by simp [lt]⟩
      obtain ⟨⟨a, b⟩, val⟩ := q0
      have hmem : ((a, b), val) ∈ st := List.mem_of_getElem? hp0
      obtain ⟨ha, hb⟩ := wf.lt _ hmem
      obtain ⟨r, hr1, hrok⟩ := ok.at ha
      obtain ⟨r', hr1', hrok'⟩ := ok'.at hb
      refine w_cons (s_set sc47.nd 5 (ev_ixL (d := .key (k2 (a, b))) (vv_var 3 rfl) (hLs.ex s4) (ev_var 4 rfl (.int _)) (atI_nat (by unfold pkD; rw [List.getElem?_map, hp0]; rfl))) fun v5 H5 s5 hv5 => ?_)
      refine w_cons (s_augI sc47.nd 4 rfl ev_int fun H6 s6 => ?_)
      have s46 := (s4.trans s5).trans s6
      have s06 := sH.trans s46
      have hv6 := hv5.ex s6
      refine w_cons (s_par sc47.nd 6 7 (ev_row (ev_var 0 rfl (h1.ex s06)) (ev_ixT (ds := [nI0 a, nI0 b]) (Ev.key_tup (ev_var 5 rfl hv6)) ev_int rfl) hr1) (ev_row (ev_var 1 rfl (h2.ex s06)) (ev_ixT (ds := [nI0 a, nI0 b]) (Ev.key_tup (ev_var 5 rfl hv6)) ev_int rfl) hr1') fun v7 v8 H7 s7 hv7 hv8 => ?_)
      have s47 := s46.trans s7
      have s07 := sH.trans s47
      have hv57 := hv6.ex s7
      have hfu : m.rows.length * m'.rows.length - i = m.rows.length * m'.rows.length - (i + 1) + 1 := by omega
      refine w_one (s_if (EvW.t (ew_or (t := !r.isT) (u := !r'.isT) (et_isOut eo (ev_var 6 rfl hv7)) fun _ => ew_or1 (et_isOut eo (ev_var 7 rfl hv8)))) (fun q8 H8 s8 => ?_) fun q8 H8 s8 => ?_)
      · -- an out
        have hbo : bothT m m' (a, b) = false := by
          unfold bothT
          rw [hr1, hr1']
          cases r <;> cases r' <;> first | rfl | (exfalso; cases q8)
        have s48 := s47.trans s8
        refine w_one (s_if (EvT.cast (et_neD hr (ev_var 6 rfl (hv7.ex s8)) (ev_var 7 rfl (hv8.ex s8)) (rowD_sh r) (rowD_sh r') (rowD_nb r) (rowD_nb r')) (b' := !decide (r = r')) ?_) (fun q9 H9 s9 => ?_) fun q9 H9 s9 => w_nil ?_)
        · classical
          congr 1
          by_cases h : r = r'
          · rw [decide_eq_true h, decide_eq_true (by rw [h])]
          · rw [decide_eq_false h, decide_eq_false fun e => h (rowD_inj e)]
        · have hne : r ≠ r' := by simpa using q9
          have hval := lk_ofG wf.nd hmem
          refine w_one (s_ret (ev_tget hr (ks := k2 (a, b)) (d := btD val) (vv_var 2 rfl) ((hDt.ex s48).ex s9) (ev_var 5 rfl ((hv57.ex s8).ex s9)) (by unfold pstD; rw [km_lk k2_inj, hval]; rfl)) fun vr H10 s10 hvr => k vr H10 ((sH.trans s48).trans (s9.trans s10)) ?_)
          rw [← hgo, hfu]
          simp only [pbGo, hp0, hbo, Bool.false_eq_true, if_false, hr1, hr1']
          rw [if_neg (fun e => hne (Option.some.inj e))]
          exact hvr
        · have heq : r = r' := by simpa using q9
          refine ⟨_, by omega, st, i + 1, _, _, _, _, _, rfl, (sH.trans s48).trans s9, (hDt.ex s48).ex s9, (hLs.ex s48).ex s9, wf, lt, rfl, ?_⟩
          rw [← hgo, hfu]
          simp only [pbGo, hp0, hbo, Bool.false_eq_true, if_false, hr1, hr1', heq, if_true]
      · -- both toss
        cases r with
        | out j => cases q8
        | toss x y =>
        cases r' with
        | out j => cases q8
        | toss x' y' =>
        have hbo : bothT m m' (a, b) = true := by simp [bothT, hr1, hr1']
        have gox : pbGo m m' (m.rows.length * m'.rows.length - (i + 1)) (i + 1) (pvisit m m' (a, b) true (pvisit m m' (a, b) false st)) = parting m m' := by
          rw [← hgo, hfu]
          simp only [pbGo, hp0, hbo, if_true]
        have sA := s07.trans s8
        refine w_one (s_for (wk_tup ev_bits rfl) fun H9 s9 => ⟨fun j σ' H' => ∃ (st' : Pst) (x8 x9 : Option V), σ' = [some v1, some v2, some (.ref p), some (.ref q), some (.int ((i : Int) + 1)), some v5, some v7, some v8, x8, x9] ∧ Same H H' ∧ Same H8 H8 ∧ Tx K H9 H' ∧ Dt K H' p (pstD st') ∧ LsI K H' q (pkD st') ∧ PsI m m' st' ∧
            ((a, b), val) ∈ st' ∧ i + 1 ≤ st'.length ∧ ((j = 0 ∧ st' = st) ∨ (j = 1 ∧ st' = pvisit m m' (a, b) false st) ∨ (j = 2 ∧ st' = pvisit m m' (a, b) true (pvisit m m' (a, b) false st))), ⟨st, _, _, rfl, sA.trans s9, Same.refl _, .refl, (hDt.ex (s47.trans s8)).ex s9, (hLs.ex (s47.trans s8)).ex s9, wf, hmem, lt, .inl ⟨rfl, rfl⟩⟩, fun j σ' H' hP => ?_, ?_, ?_⟩)
        · obtain ⟨_, _, _, _, _, _, t, _⟩ := hP
          exact t
        · rintro j d v σ' H10 H11 hj ⟨st', y8, y9, rfl, sH10, _, tx10, hDt10, hLs10, wf10, hmem10, lt10, hst⟩ s11 hv11
          obtain ⟨c, hc, rfl⟩ : ∃ b, [false, true][j]? = some b ∧ d = bit b := by
            rw [List.getElem?_map] at hj
            cases e : [false, true][j]? with
            | none => rw [e] at hj; cases hj
            | some b => rw [e] at hj; exact ⟨b, rfl, (Option.some.inj hj).symm⟩
          have ev := hv11.intI
          subst ev
          refine g_name sc47.nd 8 ?_
          have sB := sH10.trans s11
          have txs := (tx10.trans (Same.tx s11))
          have hv7' : Im K H11 v7 (rowD (.toss x y)) := ((hv7.ex s8).ex s9).up txs (rowD_pl _)
          have hv8' : Im K H11 v8 (rowD (.toss x' y')) := ((hv8.ex s8).ex s9).up txs (rowD_pl _)
          have hv5' : Im K H11 v5 (.key (k2 (a, b))) := ((hv57.ex s8).ex s9).up txs rfl
          have hx : nx2 m m' (a, b) c = some (if c = true then y else x, if c = true then y' else x') := by simp [nx2, nx, hr1, hr1']
          have hst2 : (j + 1 = 1 ∧ pvisit m m' (a, b) c st' = pvisit m m' (a, b) false st) ∨ (j + 1 = 2 ∧ pvisit m m' (a, b) c st' = pvisit m m' (a, b) true (pvisit m m' (a, b) false st)) := by
            rcases hst with ⟨rfl, rfl⟩ | ⟨rfl, rfl⟩ | ⟨rfl, rfl⟩
            · have : c = false := (Option.some.inj hc).symm
              exact .inl ⟨rfl, by rw [this]⟩
            · have : c = true := (Option.some.inj hc).symm
              exact .inr ⟨rfl, by rw [this]⟩
            · cases hc
          obtain ⟨wv, rv, erv⟩ := pvisit_i (p := (a, b)) (b := c) ok ok' wf10
          generalize hT : (if c = true then y else x, if c = true then y' else x') = t at hx
          have eT1 : t.1 = (if c = true then y else x) := by rw [← hT]
          have eT2 : t.2 = (if c = true then y' else x') := by rw [← hT]
          refine w_cons (s_set sc47.nd 9 (d := .key (k2 t)) (ev_key (ks := k2 t) (ea_cons (Ev.cast (ev_turn (ev_var 6 rfl hv7') (ev_var 8 rfl (.int _))) (by rw [eT1]; rfl)) (ea_one (Ev.cast (ev_turn (ev_var 7 rfl hv8') (ev_var 8 rfl (.int _))) (by rw [eT2]; rfl))))) fun v9 H12 s12 hv9 => ?_)
          have hDt12 := (hDt10.ex s11).ex s12
          have hLs12 := (hLs10.ex s11).ex s12
          have tx12 : Tx K H9 H12 := txs.trans (Same.tx s12)
          have lt10' := Nat.le_trans wf10.len lmul
          refine w_one (s_if (EvT.cast (et_tnotin hr (ks := k2 t) (ev_var 9 rfl hv9) (vv_var 2 rfl) hDt12) (by unfold pstD; rw [km_hs k2_inj])) (fun q13 H13 s13 => ?_) fun q13 H13 s13 => w_nil ?_)
          · have hno : hs st' t = false := by simpa using q13
            have hval := lk_ofG wf10.nd hmem10
            have hvl : val.length ≤ 100 * 100 := Nat.le_trans (wf10.ln _ hmem10) lt10'
            have hDt13 := hDt12.ex s13
            have hLs13 := hLs12.ex s13
            have hvis : pvisit m m' (a, b) c st' = st' ++ [(t, val ++ [c])] := by
              unfold pvisit
              rw [hx]
              simp only [hno, Bool.false_eq_true, if_false, hval, Option.getD_some]
            refine w_cons (s_tput hr (ks := k2 t) (d := btD (val ++ [c])) (Ev.cast (ev_cat (ds := val.map bit) (es' := [bit c]) (ev_tget hr (ks := k2 (a, b)) (vv_var 2 rfl) hDt13 (ev_var 5 rfl ((hv5'.ex s12).ex s13)) (by unfold pstD; rw [km_lk k2_inj, hval]; rfl)) (ev_tup (ea_one (ev_var 8 rfl (.int _)))) (by rw [sizeLine_eq]; simp; omega)) (by rw [btD, List.map_append]; rfl)) (vv_var 2 rfl) hDt13 (ev_var 9 rfl (hv9.ex s13)) (btD_pl _) (pstD_pl _) (by unfold pstD km; rw [List.length_map]; omega) fun H14 m14 tx14 hDt14 => ?_)
            rw [pstD, km_pt k2_inj, pt_new hno] at hDt14
            have hLs14 := hLs13.mu (Ne.symm npq) m14 tx14 (pkD_pl _)
            have s14 := m14.same ((sB.trans s12).trans s13) hp
            refine w_one (s_app (vv_var 3 rfl) hLs14 (ev_var 9 rfl ((hv9.ex s13).up tx14 rfl)) rfl (pkD_pl _) (by rw [pkD_len]; omega) fun H15 m15 tx15 hLs15 => ?_)
            refine ⟨st' ++ [(t, val ++ [c])], _, _, rfl, m15.same s14 hq0, Same.refl _, ((tx12.trans (Same.tx s13)).trans tx14).trans tx15, hDt14.mu npq m15 tx15 (pstD_pl _), ?_, by rw [← hvis]; exact wv, List.mem_append_left _ hmem10, ?_, ?_⟩
            · unfold pkD
              rw [List.map_append]
              exact hLs15
            · rw [List.length_append]; omega
            · rw [← hvis]; exact .inr hst2
          · have hyes : hs st' t = true := by simpa using q13
            have hvis : pvisit m m' (a, b) c st' = st' := by
              unfold pvisit
              rw [hx]
              simp only [hyes, if_true]
            exact ⟨st', _, _, rfl, (sB.trans s12).trans s13, Same.refl _, tx12.trans (Same.tx s13), hDt12.ex s13, hLs12.ex s13, wf10, hmem10, lt10, by rw [hvis] at hst2; exact .inr hst2⟩
        · rintro σ' H10 ⟨st', y8, y9, rfl, sH10, _, tx10, hDt10, hLs10, wf10, hmem10, lt10, hst⟩
          have est : st' = pvisit m m' (a, b) true (pvisit m m' (a, b) false st) := by
            rcases hst with ⟨e, _⟩ | ⟨e, _⟩ | ⟨_, e⟩
            · cases e
            · cases e
            · exact e
          subst est
          exact ⟨_, by omega, _, i + 1, _, _, _, _, _, rfl, sH10, hDt10, hLs10, wf10, lt10, rfl, gox⟩
    · have ge : st.length ≤ i := by
        have := of_decide_eq_false tr
        rw [pkD_len] at this
        omega
      have : pbGo m m' (m.rows.length * m'.rows.length - i) i st = none := by
        cases m.rows.length * m'.rows.length - i with
        | zero => rfl
        | succ n => simp [pbGo, List.getElem?_eq_none ge]
      refine w_one (s_ret ev_non fun v5 H5 s5 hv5 => k v5 H5 ((sH.trans s4).trans s5) ?_)
      rw [← hgo, this]
      exact hv5
end
end Dr
set_option Elab.async false
set_option linter.all false
set_option maxRecDepth 100000
set_option maxHeartbeats 4000000
set_option pp.deepTerms false
set_option pp.maxSteps 400
namespace Dr
open PySem PySem.Spec PyProof.Rows L2
section
variable {X : Cx}
/-- {key: v for target in iter if ..}, the keys tuples: G the new dict -/
def tDcT (wi : TI) (g : TG) (tt : TT) (tk tv : TE) (vs : List Nat) : TE := fun σ H Q => wi σ H fun J H1 => ∀ G, H1 G = none → ∃ W : Nat → Nat → Hp → Prop, (∃ m, W 0 m (upd H1 G (.dT []))) ∧ ∀ i m H, W i m H →
  (J.stop i H ∧ Q (.ref G) H) ∨ (J.go i H ∧ ∃ Nx : Hp → Prop, (∀ H', Nx H' → ∃ m', m' < m ∧ W (i + 1) m' H') ∧ ∀ x H', J.yld i H x H' → g x (wipe σ vs) H' fun σ2 H2 => wipe σ2 vs = wipe σ vs ∧ tt σ2 H2 fun b H3 =>
    if b = true then tk σ2 H3 fun y H4 => tv σ2 H4 fun z H5 => ∃ kvs k bk, y = .ref bk ∧ H5 bk = some (.tup (k.map kV)) ∧ H5 G = some (.dT kvs) ∧ kvs.length < sizeLine ∧ Nx (upd H5 G (.dT (putK kvs k z))) else Nx H3)
/-! what a comprehension's own block leaves as it was -/
section
variable {s3 : Shared} {H3 : Hp} {scope : Scope} {ce : Env} {fp : List Addr} {σ σ1 : L2.St} {H1 : Hp} {s1 : Shared} {pins : List (Addr × Obj)}
theorem blk_fp (I : Inv (X.blk s3 H3 scope ce fp) [] σ1 H1 s1) {b : Addr} (m : b ∈ fp) (n : H1 b = none) : FpOk (X.blk s3 H3 scope ce fp) [] H1 b :=
  have q := I.ok.exf b m
  ⟨n, q.1, I.ok.exfs b m, .inl m, q.2, fun _ p => nomatch p⟩
/-- back outside -/
theorem blk_out (I3 : Inv X pins σ H3 s3) (ff : ∀ b ∈ fp, FpOk X pins H3 b) (hl : ce.locals = s3.heap.objs.size) (I : Inv (X.blk s3 H3 scope ce fp) [] σ1 H1 s1) :
    ∃ m, s1.heap.Ns s3.heap.objs.size m ∧ ∀ h', Heap.SameBut s3.heap.objs.size s1.heap h' → Inv X pins σ H1 { s1 with heap := h' } := by
  obtain ⟨m, ns, _⟩ := I.loc
  have gone : H1 s3.heap.objs.size = none := hl ▸ I.free
  have outer := I3.call' (ch := fp) I.os I.base I.hok I.bare fun b m => have ⟨_, q1, _, q3, q4, q5⟩ := ff b m; ⟨q3, q1, q4, q5⟩
  have ⟨q0, q1, _, q3, q4, q5⟩ := I3.fpOk (Nat.le_refl _) gone
  exact ⟨m, hl ▸ ns, fun h' b => outer.turned (t' := s1.toks) (fun c o n e => (b.2 c n).trans e) q0 q1 q3 q4 q5⟩
/-- in the block, between two turns: n turns at most are left -/
def InBlk (Y : Cx) (fp : List Addr) (tn : Nat → Heap → Prop) (σ : L2.St) (W : Nat → Nat → Hp → Prop) (n : Nat) (s : Shared) : Prop :=
  ∃ i H, W i n H ∧ Inv Y [] σ H s ∧ tn i s.heap ∧ ∀ b ∈ fp, H b = none
/-- after a turn that left the iterator as it stood in h -/
theorem blk_on {P : Program} {w : World} {K : PySem.W.Frag} {tg : Expr} {J : It} {it : Addr} {tn : Nat → Heap → Prop} {i : Nat} {h : Heap} {vs : List Nat} (T : Turn P w K tg J fp it tn) (st : tn i h) (hw : wipe σ1 vs = wipe σ vs)
    (I : Inv (X.blk s3 H3 scope ce fp) ([] ++ pinsAt fp h) σ1 H1 s1) : Inv (X.blk s3 H3 scope ce fp) [] (wipe σ vs) H1 s1 ∧ tn i s1.heap ∧ ∀ b ∈ fp, H1 b = none := by
  have held : ∀ b ∈ fp, ∀ o, h.get? b = some o → s1.heap.get? b = some o ∧ H1 b = none := fun b m o e =>
    have q := I.pin (b, o) (List.mem_append_right _ (List.mem_append_right _ (mem_pinsAt m e)))
    ⟨q.1, q.2.1⟩
  refine ⟨(I.unpinned (pins := [])).weak (by rw [← hw, wipe_length]) fun j v e => (wipe_some (hw ▸ e)).1, T.keep _ _ _ st fun b m o e => (held b m o e).1, fun b m => ?_⟩
  obtain ⟨o, e, _⟩ := T.obj _ _ st b m
  exact (held b m o e).2
/-- the loop inside -/
theorem dcT_loop {s4 : Shared} {kx vx tg iter : Expr} {ifs : List Expr} {vs : List Nat} {pos : Pos} {g : TG} {tt : TT} {tk tv : TE} {J : It} {it G : Addr} {tn : Nat → Heap → Prop} {W : Nat → Nat → Hp → Prop} {n : Nat} {Q : V → Hp → Prop} (hu : X.A.units < cLine) (hc : X.calm = true)
    (T : Turn X.prog X.w X.K tg J fp it tn) (pg : PG (X.blk s3 H3 scope ce fp) tg g) (pt : PTs (X.blk s3 H3 scope ce fp) ifs tt) (pk : PE (X.blk s3 H3 scope ce fp) kx tk) (pv : PE (X.blk s3 H3 scope ce fp) vx tv)
    (I3 : Inv X pins σ H3 s3) (ff : ∀ b ∈ fp, FpOk X pins H3 b) (hl : ce.locals = s3.heap.objs.size)
    (turn : ∀ i m H, W i m H → (J.stop i H ∧ Q (.ref G) H) ∨ (J.go i H ∧ ∃ Nx : Hp → Prop, (∀ H', Nx H' → ∃ m', m' < m ∧ W (i + 1) m' H') ∧ ∀ x H', J.yld i H x H' → g x (wipe σ vs) H' fun σ2 H2 => wipe σ2 vs = wipe σ vs ∧ tt σ2 H2 fun b H3 =>
      if b = true then tk σ2 H3 fun y H4 => tv σ2 H4 fun z H5 => ∃ kvs k bk, y = .ref bk ∧ H5 bk = some (.tup (k.map kV)) ∧ H5 G = some (.dT kvs) ∧ kvs.length < sizeLine ∧ Nx (upd H5 G (.dT (putK kvs k z))) else Nx H3))
    (st : InBlk (X.blk s3 H3 scope ce fp) fp tn (wipe σ vs) W n s4) :
    codeAny (model X.prog X.w) X.A (.compLoop (.DictComp kx vx [⟨tg, iter, ifs, 0⟩] scope pos) 0 (.ref it) (.ref G) ce) (compPost (model X.prog X.w) X.A X.xe none (EP X pins σ Q) (.ref G) s3.heap.objs.size) s4 := by
  refine compLoop_anyD _ ?_ n st
  rintro n s5 ⟨i, H5, w5, I5, st5, n5⟩
  have f5 : ∀ b ∈ fp, FpOk (X.blk s3 H3 scope ce fp) [] H5 b := fun b m => blk_fp I5 m (n5 b m)
  obtain ⟨stop, q⟩ | ⟨go, Nx, less, step⟩ := turn i n H5 w5
  · refine thnF (T.done (X.blk s3 H3 scope ce fp) rfl rfl rfl hc i [] s5 _ H5 (fun _ _ => False) I5 f5 st5 stop) ?_
    rintro _ s6 ⟨rfl, I6⟩
    obtain ⟨m, ns, back⟩ := blk_out I3 ff hl I6
    exact ⟨m, ns, fun h' b => ⟨.ref G, H5, back h' b, rfl, q⟩⟩
  refine thnF (T.item (X.blk s3 H3 scope ce fp) rfl rfl rfl hc i [] s5 _ H5 (fun _ _ => False) I5 f5 st5 go) ?_
  rintro _ s6 ⟨u, rfl, h6⟩
  refine thnF h6 ?_
  rintro _ s7 ⟨x, H7, I7, r7, y7, st7, n7⟩
  have I7' := I7.pinned (fun b m => blk_fp I7 m (n7 b m)) (T.obj _ _ st7)
  refine thnF (pg.run _ s7 _ H7 x u _ I7' r7 (step x H7 y7)) ?_
  rintro _ s8 ⟨σ8, H8, I8, hw, q8⟩
  refine thnF (pt.run _ s8 σ8 H8 _ I8 q8) ?_
  rintro b s9 ⟨H9, I9, q9⟩
  have again : ∀ {s' : Shared} {H' : Hp}, Inv (X.blk s3 H3 scope ce fp) ([] ++ pinsAt fp s7.heap) σ8 H' s' → Nx H' → ∃ m, m < n ∧ InBlk (X.blk s3 H3 scope ce fp) fp tn (wipe σ vs) W m s' := fun I' nx =>
    have ⟨m, lt, w'⟩ := less _ nx
    ⟨m, lt, i + 1, _, w', blk_on T st7 hw I'⟩
  match b, q9 with
  | false, q9 => exact again I9 q9
  | true, q9 =>
    refine thnF (pk.run _ s9 σ8 H9 _ I9 q9) ?_
    rintro kv s10 ⟨y, H10, I10, r10, q10⟩
    refine thnF (pv.run _ s10 σ8 H10 _ I10 q10) ?_
    rintro vv s11 ⟨z, H11, I11, r11, kvs, k, bk, rfl, hb, hG, few, nx⟩
    obtain rfl : kv = Value.ref bk := r10
    exact dtk_set (X := X.blk s3 H3 scope ce fp) hu I11 hG few hb r11 fun _ I12 => again I12 nx
end
theorem pe_dcT {kx vx tg iter : Expr} {ifs : List Expr} {scope : Scope} {own : List (Str × Nat)} {pos : Pos} {wi : TI} {g : TG} {tt : TT} {tk tv : TE} (hu : X.A.units < cLine) (hc : X.calm = true) (hN : X.N.Nodup) (hi : PI X tg iter wi) (ok : BlkOk X.N X.env.scope scope own)
    (hg : Bk X scope fun Y => PG Y tg g) (ht : Bk X scope fun Y => PTs Y ifs tt) (hk : Bk X scope fun Y => PE Y kx tk) (he : Bk X scope fun Y => PE Y vx tv) (hs : ∀ x, foldedSetIterable iter X.env x = pure x := by intro _; rfl) :
    PE X (.DictComp kx vx [⟨tg, iter, ifs, 0⟩] scope pos) (tDcT wi g tt tk tv (own.map (·.2))) := by
  constructor
  intro pins s σ H Q I h
  rw [arm_eval_DictComp]
  have cells : ∀ y ∈ scope.names, y.2 = .free → ∃ c, X.env.cells.lookup y.1 = some c := fun y m e => I.ok.has _ (ok.free y m e)
  refine wpAny_comprehension_free (use := none) rfl hs (closure_ok cells) ok.kind (fun y m e => by rw [ok.uniq y m, e]) (thn (hi.run pins s σ H _ I h) fun xv s1 hx => thn hx ?_)
  rintro _ s2 ⟨it, fp, tn, J, H2, rfl, I2, T, st2, f2, q⟩
  refine wpAny_newObj_type (newEnv_comp ?_)
  -- the new dict
  have new : H2 s2.heap.objs.size = none := I2.hok.fresh (Nat.le_refl _)
  obtain ⟨W, ⟨m, w0⟩, turn⟩ := q _ new
  have lt : ∀ b ∈ fp, b < s2.heap.objs.size := fun b m => have ⟨_, e, _⟩ := T.obj _ _ st2 b m; Heap.lt_size e
  have I3 := I2.laid (t' := s2.toks) (fun _ _ => Heap.get?_push_of_some { cls := .type "dict", data := .dict #[] }) (Nat.le_refl _) (dt_empty s2.heap I2.big)
  have n3 : ∀ b ∈ fp, upd H2 s2.heap.objs.size (.dT []) b = none := fun b m => by rw [upd_ne (Nat.ne_of_lt (lt b m))]; exact (f2 b m).1
  have f3 : ∀ b ∈ fp, FpOk X pins (upd H2 s2.heap.objs.size (.dT [])) b := fun b m => ⟨n3 b m, (f2 b m).2⟩
  have I4 := block_start I3 ok hN fun b m => ⟨f3 b m, Nat.lt_of_lt_of_le (lt b m) (by show _ ≤ (s2.heap.push _).objs.size; rw [Heap.size_push]; exact Nat.le_succ _)⟩
  have st4 := T.keep _ _ _ st2 fun b _ o e => pushCells_keeps scope.names _ _ _ (Heap.get?_push_of_some { cls := .type "dict", data := .dict #[] } (Heap.get?_push_of_some { cls := .type "dict", data := .dict #[] } e))
  have loop := dcT_loop (kx := kx) (vx := vx) (iter := iter) (pos := pos) hu hc T (hg _ _ _ _ _) (ht _ _ _ _ _) (hk _ _ _ _ _) (he _ _ _ _ _) I3 f3 rfl turn ⟨0, _, w0, I4, st4, n3⟩
  exact codeAny_compStart_dict loop (T.self X.A 0 _ _ _ st4 loop)
end
end Dr
set_option Elab.async false
set_option linter.all false
set_option maxRecDepth 100000
set_option maxHeartbeats 4000000
set_option pp.deepTerms false
set_option pp.maxSteps 400
namespace Dr
open PySem PySem.Spec PyProof.Rows L2
/-! ### sorted(a list of tuples of numbers): some order of them -/
abbrev Kb := Nat × List Nat
def encK (b : Kb) : PyData := .tuple (((b.1 :: b.2).map fun n : Nat => (n : Int)).map PyData.int)
def isK (H : Hp) (v : Value) (b : Kb) : Prop := ∃ a, v = .ref a ∧ H a = some (.tup ((b.1 :: b.2).map fun n : Nat => V.int n))
def rSortK (K : PySem.W.Frag) : List V → Hp → VK → Prop := fun vs H Q => ∃ (a : Addr) (xs : List V) (bs : List Kb), vs = [V.ref a] ∧ SqL K H a xs ∧ Ims K H xs (bs.map fun b => D.key (b.1 :: b.2)) ∧ bs.length ≤ 100000 ∧
  ∀ (js : List Kb) (ys : List V) (p : Addr), js.Perm bs → H p = none → Ims K H ys (js.map fun b => D.key (b.1 :: b.2)) → Q (.ref p) (upd H p (.lst ys))
section
variable {K : PySem.W.Frag} {H : Hp}
theorem each_isK : ∀ {xs : List V} {us : List Value} {bs : List Kb}, Vals xs us → Ims K H xs (bs.map fun b => D.key (b.1 :: b.2)) → PySem.W.EachIs (isK H) us bs
  | _, _, [], r, h => by
    cases h
    cases r
    exact .nil
  | _, _, b :: bs, r, h => by
    cases h with
    | cons h t =>
      cases r with
      | cons r1 r2 =>
        obtain ⟨a, rfl, ha⟩ := h.keyI
        cases r1
        exact .cons ⟨a, rfl, ha⟩ (each_isK r2 t)
theorem isK_each : ∀ {us : List Value} {bs : List Kb}, PySem.W.EachIs (isK H) us bs → ∃ xs, Vals xs us ∧ Ims K H xs (bs.map fun b => D.key (b.1 :: b.2))
  | _, _, .nil => ⟨[], .nil, .nil⟩
  | _, _, .cons ⟨a, e, ha⟩ t => by
    obtain ⟨xs, h1, h2⟩ := isK_each t
    subst e
    exact ⟨V.ref a :: xs, .cons rfl h1, .cons (.key ha) h2⟩
theorem dp_ints : ∀ is : List Nat, DpAll K H (is.map fun n : Nat => V.int n) ((is.map fun n : Nat => (n : Int)).map PyData.int)
  | [] => .nil
  | i :: is => .cons (.int _) (dp_ints is)
end
theorem cr_sortedK {X : Cx} (hu : X.A.units + 64 < cLine) : CallR X (.builtin "sorted") (rSortK X.K) := by
  intro pins s σ H vs us Q I r h
  obtain ⟨a, xs, bs, rfl, hs, hx, h64, q⟩ := h
  obtain ⟨its, rv, hl, hz⟩ := I.list hs
  rw [Vals.ref1 r]
  have e := each_isK rv hx
  have er : PySem.W.EachIs (fun v b => ∃ as, Reads s.heap v (encK b) as) its bs := e.mono fun v b ⟨a, e, ha⟩ => by
    subst e
    exact Dp.reads I (encK b) (.ref a) (.ref a) (.tup (.of ha) (dp_ints (b.1 :: b.2))) rfl
  have hdep : ∀ b : Kb, (encK b).depth = 1 := fun b => by
    show (PyData.depthAll (((b.1 :: b.2).map fun n : Nat => (n : Int)).map PyData.int)).succ = 1
    rw [PySem.W.depth_ints]
  refine PySem.W.sorted_data hl.isList e er (PySem.W.AllAlike.of fun b b' => ?_) (PySem.W.Sortable.tuples fun b => ⟨_, _, rfl⟩) (by rw [sizeLine_eq]; omega) (fun b _ => by rw [hdep]; omega) fun out h1 h2 => ?_
  · show PySem.W.alikeAll _ _ = true
    exact PySem.W.alike_ints _ _
  · obtain ⟨ys, k1, k2⟩ := isK_each (K := X.K) h2
    obtain ⟨ep, he'⟩ := PyProof.Rows.sortedAll_at s.heap its out.toArray
    have hlen : ys.length ≤ sizeLine := by
      rw [k1.length, h1, sizeLine_eq]; omega
    exact ⟨.ref _, upd H (s.heap.objs.size + 1) (.lst ys), I.laid (t' := s.toks) (fun _ _ => PyProof.Rows.sortedAll_old) (Nat.le_succ _) ⟨hlen, out, ep, k1, he'⟩, rfl, q _ ys _ (List.mergeSort_perm _ _) (I.hok.fresh (Nat.le_succ _)) k2⟩
section
variable {X : Cx} {σ : L2.St} {H : Hp} {e : Expr} {p pos : Pos} {k : Nat}
theorem wl_sortK {bs : List Kb} {Q : VK} (hr : Rm k X.A) (hm : X.mg "sorted" = none) (ha : WE X e σ H fun v H1 => ∃ q0, v = .ref q0 ∧ LsI X.K H1 q0 (bs.map fun b => D.key (b.1 :: b.2)) ∧ ∀ (js : List Kb) p H2, js.Perm bs → H1 p = none → Same H1 H2 → LsI X.K H2 p (js.map fun b => D.key (b.1 :: b.2)) → Q (.ref p) H2) (hz : bs.length ≤ 100000) (hg : Gl X "sorted" := by rfl) (hv : bootBuiltins "sorted" = some (.builtin "sorted") := by decide +kernel)
    (he : starEach [e] X.env = (false, eval e X.env) :: starEach [] X.env := by rfl) (hpl : (backTo pos (starEach [] X.env)).any (·.1) = false := by rfl) : WE X (.Call (.Name "sorted" p) [e] [] pos) σ H Q :=
  .of (pe_callB (cr_sortedK (by have := hr.room.un; omega)) hg hm hv pa_W (by decide) (by decide) he hpl) (wa_cons (ha.mono fun v H1 hq => by
    obtain ⟨q0, rfl, ⟨xs, h1, h2⟩, q⟩ := hq
    exact wa_nil ⟨q0, xs, bs, rfl, .of h1, h2, hz, fun js ys p hj hp hy => q js p _ hj hp (Same.new hp) ⟨ys, upd_same, hy.ex (Same.new hp)⟩⟩) he)
end
end Dr
set_option Elab.async false
set_option linter.all false
set_option maxRecDepth 100000
set_option maxHeartbeats 4000000
set_option pp.deepTerms false
set_option pp.maxSteps 400
namespace Dr
open PySem PySem.Spec PyProof.Rows L2
/-! ### which keys there are -/
section
variable {κ : Type} [DecidableEq κ]
def ddp (l : List κ) : List (κ × Bool) := l.foldl (fun acc k => pt acc k true) []
theorem ptG_keys {α : Type} (l : List (κ × α)) (k : κ) (v : α) : (pt l k v).map (·.1) = if hs l k = true then l.map (·.1) else l.map (·.1) ++ [k] := by
  unfold pt
  split
  · rw [List.map_map]
    refine List.map_congr_left fun p _ => ?_
    simp only [Function.comp]
    split <;> rfl
  · simp
theorem ptG_nd {α : Type} {l : List (κ × α)} (h : (l.map (·.1)).Nodup) (k : κ) (v : α) : ((pt l k v).map (·.1)).Nodup := by
  rw [ptG_keys]
  split
  · exact h
  · rename_i hh
    rw [List.nodup_append]
    refine ⟨h, by simp, fun a ha c hc => ?_⟩
    rw [List.mem_singleton.mp hc]
    rintro rfl
    exact hh (hs_memG.mpr ha)
theorem ptG_mem {α : Type} {l : List (κ × α)} {k j : κ} {v : α} : j ∈ (pt l k v).map (·.1) ↔ j ∈ l.map (·.1) ∨ j = k := by
  rw [ptG_keys]
  split
  · rename_i h
    have := hs_memG.mp h
    constructor
    · exact .inl
    · rintro (h | rfl)
      · exact h
      · exact this
  · simp
theorem ddp_props (l : List κ) : ((ddp l).map (·.1)).Nodup ∧ ∀ j, j ∈ (ddp l).map (·.1) ↔ j ∈ l := by
  suffices h : ∀ (l : List κ) (acc : List (κ × Bool)), (acc.map (·.1)).Nodup → ((l.foldl (fun acc k => pt acc k true) acc).map (·.1)).Nodup ∧ ∀ j, j ∈ (l.foldl (fun acc k => pt acc k true) acc).map (·.1) ↔ j ∈ acc.map (·.1) ∨ j ∈ l by
    obtain ⟨h1, h2⟩ := h l [] (by simp)
    exact ⟨h1, fun j => by
      show j ∈ List.map (fun x => x.fst) (List.foldl (fun acc k => pt acc k true) [] l) ↔ _
      rw [h2]; simp⟩
  intro l
  induction l with
  | nil => intro acc h; exact ⟨h, fun j => by simp⟩
  | cons k l ih =>
    intro acc h
    obtain ⟨h1, h2⟩ := ih (pt acc k true) (ptG_nd h k true)
    refine ⟨h1, fun j => ?_⟩
    rw [List.foldl_cons, h2, ptG_mem, List.mem_cons]
    constructor
    · rintro ((h | h) | h)
      · exact .inl h
      · exact .inr (.inl h)
      · exact .inr (.inr h)
    · rintro (h | h | h)
      · exact .inl (.inl h)
      · exact .inl (.inr h)
      · exact .inr h
theorem ddp_len (l : List κ) : (ddp l).length ≤ l.length := by
  have := nodup_sub _ l (ddp_props l).1 fun x hx => ((ddp_props l).2 x).mp hx
  simpa using this
end
def consK (b : Kb) : List Nat := b.1 :: b.2
theorem consK_inj : ∀ a b, consK a = consK b → a = b := fun a b h => by
  simp only [consK, List.cons.injEq] at h
  exact Prod.ext h.1 h.2
/-! ### dict comprehensions, keys tuples -/
def keptT (n : Nat) (t : Nat → Bool) (kf : Nat → List Nat) (g : Nat → D) : List (List Nat × D) := ((List.range n).filter t).foldl (fun acc i => pt acc (kf i) (g i)) []
theorem keptT_yes {n : Nat} {t : Nat → Bool} {kf : Nat → List Nat} {g : Nat → D} (h : t n = true) : keptT (n + 1) t kf g = pt (keptT n t kf g) (kf n) (g n) := by simp [keptT, List.range_succ, List.filter_append, h]
theorem keptT_no {n : Nat} {t : Nat → Bool} {kf : Nat → List Nat} {g : Nat → D} (h : t n = false) : keptT (n + 1) t kf g = keptT n t kf g := by simp [keptT, List.range_succ, List.filter_append, h]
theorem ptG_len {κ α : Type} [DecidableEq κ] (l : List (κ × α)) (k : κ) (v : α) : (pt l k v).length ≤ l.length + 1 := by
  unfold pt
  split <;> simp
theorem ptG_all {κ α : Type} [DecidableEq κ] {P : α → Prop} {l : List (κ × α)} {k : κ} {v : α} (h : ∀ x ∈ l, P x.2) (hv : P v) : ∀ x ∈ pt l k v, P x.2 := fun x m => by
  unfold pt at m
  split at m
  · obtain ⟨q', m', rfl⟩ := List.mem_map.mp m
    split
    · exact hv
    · exact h _ m'
  · rcases List.mem_append.mp m with m | m
    · exact h _ m
    · rw [List.mem_singleton.mp m]; exact hv
theorem keptT_len {t : Nat → Bool} {kf : Nat → List Nat} {g : Nat → D} : ∀ n, (keptT n t kf g).length ≤ n
  | 0 => Nat.le_refl 0
  | n + 1 => by
    cases e : t n with
    | true =>
      rw [keptT_yes e]
      exact Nat.le_trans (ptG_len _ _ _) (Nat.succ_le_succ (keptT_len n))
    | false =>
      rw [keptT_no e]
      exact Nat.le_succ_of_le (keptT_len n)
theorem keptT_pl {t : Nat → Bool} {kf : Nat → List Nat} {g : Nat → D} (h : ∀ i, (g i).pl = true) : ∀ n, ∀ x ∈ keptT n t kf g, x.2.pl = true
  | 0 => fun x m => by cases m
  | n + 1 => by
    cases e : t n with
    | true =>
      rw [keptT_yes e]
      exact ptG_all (P := fun d : D => d.pl = true) (keptT_pl h n) (h n)
    | false =>
      rw [keptT_no e]
      exact keptT_pl h n
section
variable {X : Cx} {σ : L2.St} {H H' : Hp} {a b c e f : Expr} {es : List Expr} {pos p p1 apos cpos spos py tpos : Pos} {d d1 d2 : D} {ds : List D} {n k : Nat} {Z : Ends}
/-- {key: v for ..} as a value -/
theorem we_dcT {tg iter kx vx : Expr} {ifs : List Expr} {scope : Scope} {N : Hp → Hp → Prop} {Ns ps : List Str} {sc : Scope} {Q : VK} (hr : Rm k X.A) (S : FnScope Ns ps sc) (own : List (Str × Nat)) (t : Nat → Bool) (kf : Nat → List Nat) (g : Nat → D) (hg : ∀ i, (g i).pl = true) (h : Wk X tg iter σ H ds N) (hNS : ∀ H1 H2, Same H1 H2 → N H1 H2) (hz : ds.length ≤ 100000)
    (turn : ∀ i d v H1, Same H H1 → ds[i]? = some d → Im X.K H1 v d → ∃ σ2, (∀ Q2 : L2.St → Hp → Prop, Q2 σ2 H1 → Bk X scope fun Y => WG Y tg v (wipe σ (own.map (·.2))) H1 Q2) ∧ wipe σ2 (own.map (·.2)) = wipe σ (own.map (·.2)) ∧
      (Bk X scope fun Y => EvTs Y ifs σ2 H1 (t i)) ∧ (t i = true → (Bk X scope fun Y => Ev Y kx σ2 H1 (.key (kf i))) ∧ Bk X scope fun Y => Ev Y vx σ2 H1 (g i)))
    (q : ∀ p H2, H p = none → Same H H2 → Dt X.K H2 p (keptT ds.length t kf g) → Q (.ref p) H2)
    (hNs : X.N = Ns := by rfl) (hsc : X.env.scope = sc := by rfl) (ok : blkC Ns sc scope own = true := by decide +kernel) (hc : X.calm = true := by rfl) (hs : ∀ x, foldedSetIterable iter X.env x = pure x := by intro _; rfl) : WE X (.DictComp kx vx [⟨tg, iter, ifs, 0⟩] scope pos) σ H Q := by
  have hN : X.N.Nodup := by rw [hNs]; exact S.nd
  have ok : BlkOk X.N X.env.scope scope own := by rw [hNs, hsc]; exact blkOk_by ok
  refine .of (pe_dcT (by have := hr.room.un; omega) hc hN pi_W ok (g := GB X scope tg) (tt := TB X scope ifs) (tk := EB X scope kx) (tv := EB X scope vx)
    (fun s H C cl fp => ⟨fun pins s' σ H1 v u Q I r z => (pg_W).run pins s' σ H1 v u Q I r (z s H C cl fp)⟩) (fun s H C cl fp => ⟨fun pins s' σ H1 Q I z => (pts_W).run pins s' σ H1 Q I (z s H C cl fp)⟩)
    (fun s H C cl fp => ⟨fun pins s' σ H1 Q I z => (pe_W).run pins s' σ H1 Q I (z s H C cl fp)⟩) (fun s H C cl fp => ⟨fun pins s' σ H1 Q I z => (pe_W).run pins s' σ H1 Q I (z s H C cl fp)⟩) hs) ?_
  refine h H (Same.refl _) _ fun J H2 G s2 row st => ?_
  intro p hp
  refine ⟨fun i m H' => m = ds.length - i ∧ i ≤ ds.length ∧ Same H2 H' ∧ ∃ acc, H' p = some (.dT acc) ∧ KvT X.K H' acc (keptT i t kf g), ⟨_, rfl, Nat.zero_le _, Same.new hp, [], upd_same, .nil⟩, ?_⟩
  rintro i m H3 ⟨rfl, hi, s3, acc, hD, hacc⟩
  have gg := st H3 (hNS _ _ s3)
  by_cases hlt : i < ds.length
  · refine .inr ⟨row.goes i H3 hlt gg, _, fun H' z => ⟨ds.length - (i + 1), by omega, rfl, hlt, z⟩, fun x H4 y => ?_⟩
    obtain ⟨s4, d, hd1, hd2⟩ := row.yields i H3 x H4 hlt gg y
    obtain ⟨σ2, t1, t2, t3, t4⟩ := turn i d x H4 ((s2.trans s3).trans s4) hd1 hd2
    refine t1 _ ⟨t2, fun s H C cl fp => t3 s H C cl fp H4 (Same.refl _) _ fun H5 s5 => ?_⟩
    cases e : t i with
    | false =>
      refine iteF ⟨(s3.trans s4).trans s5, acc, s5 _ _ (s4 _ _ hD), ?_⟩
      rw [keptT_no e]
      exact (hacc.ex s4).ex s5
    | true =>
      obtain ⟨tk, tv⟩ := t4 e
      refine iteT fun s H C cl fp => tk s H C cl fp H5 s5 _ fun kv H6 s6 hkv s H C cl fp => tv s H C cl fp H6 (s5.trans s6) _ fun v H7 s7 hv => ?_
      obtain ⟨bk, rfl, hb⟩ := (hkv.ex s7).keyI
      have hD7 : H7 p = some (.dT acc) := s7 _ _ (s6 _ _ (s5 _ _ (s4 _ _ hD)))
      have hacc7 := (((hacc.ex s4).ex s5).ex s6).ex s7
      refine ⟨acc, (kf i).map nk, bk, rfl, by rw [nk_kV]; exact hb, hD7, ?_, ?_⟩
      · rw [hacc.len, sizeLine_eq]
        have := keptT_len (t := t) (kf := kf) (g := g) i
        omega
      · refine ⟨Same.mut ((((s3.trans s4).trans s5).trans s6).trans s7) hp, _, upd_same, ?_⟩
        have pl := keptT_pl (t := t) (kf := kf) hg (i + 1)
        rw [keptT_yes e] at pl ⊢
        exact (hacc7.put (kf i) hv).up (Tx.put hD7 trivial) pl
  · have e : i = ds.length := by omega
    subst e
    exact .inl ⟨row.stops H3 gg, q p H3 (s2.free hp) (s2.trans s3) ⟨acc, hD, hacc⟩⟩
/-- enumerate(l) -/
theorem wk_enumL {elts : List Expr} {kk : Nat} (hm : X.mg "enumerate" = none) (h : Ev X e σ H (.lst ds)) (hpl : D.pls ds = true) (hg : Gl X "enumerate" := by rfl) (hs : starEach [e] X.env = [(false, eval e X.env)] := by rfl) :
    Wk X (.Tuple elts kk tpos) (.Call (.Name "enumerate" p) [e] [] pos) σ H (enD ds) (fun H1 H2 => Tx X.K H1 H2 ∧ LsX H1 H2) := fun H1 s R r =>
  ⟨_, pi_enum hg hm pa_W hs, wa_cons (h H1 s _ fun v H2 s2 hv => wa_nil (by
    obtain ⟨a, xs, rfl, h1, h2⟩ := hv.lstI
    refine ⟨a, xs, rfl, .inl h1, r _ H2 (fun H' => Tx X.K H2 H' ∧ LsX H2 H') s2 ⟨fun i H' hi t => ?_, fun H' t => ⟨xs, .inl (t.2 _ _ h1), by rw [h2.len, enD_len]; exact Nat.le_refl _⟩, fun i H' x H3 hi t y => ?_⟩ fun H' n => n⟩
    · have : i < xs.length := by rw [h2.len]; rwa [enD_len] at hi
      exact ⟨xs, xs[i], .inl (t.2 _ _ h1), by simp [this]⟩
    · obtain ⟨T, x, rfl, hT, rfl, y⟩ := y
      have yy := y xs (.inl (t.2 _ _ h1))
      obtain ⟨d, hd1, hd2⟩ := h2.atV yy
      refine ⟨Same.new hT, .tup [.int (i : Nat), d], ?_, .tup (.of upd_same) (.cons (.int _) (.cons ?_ .nil))⟩
      · rw [enD, List.getElem?_map, List.getElem?_zipIdx, hd1]; simp
      · exact (hd2.up t.1 (pls_mem hpl d (List.mem_of_getElem? hd1))).ex (Same.new hT))) hs⟩
end
/-- in data; out data of which post tells -/
def spN (K : PySem.W.Frag) (pre : List D → Prop) (post : List D → D → Prop) : Sp := fun vs H Q _ => ∃ ds, pre ds ∧ Ims K H vs ds ∧ ∀ d v H', post ds d → Same H H' → Im K H' v d → Q v H'
end Dr
set_option Elab.async false
set_option linter.all false
set_option maxRecDepth 100000
set_option maxHeartbeats 4000000
set_option pp.deepTerms false
set_option pp.maxSteps 400
namespace Dr
open PySem PySem.Spec PyProof.Rows L2
/-! ### the names of the lots -/
def baseN (m : Mc) (s : Nat) : Nat := match m.rows[s]? with
  | some (Rw.out i) => 1 + i
  | _ => 0
def fols (m : Mc) (f : Nat → Nat) (s : Nat) : List Nat := match m.rows[s]? with
  | some (Rw.toss x y) => [f x, f y]
  | _ => []
/-- the sign of s, by names f -/
def sgn (m : Mc) (f : Nat → Nat) (s : Nat) : Kb := (f s, fols m f s)
/-- names that stand in some round -/
inductive Rnd (m : Mc) (L : List Nat) : (Nat → Nat) → Prop
  | init : Rnd m L (baseN m)
  | step {f : Nat → Nat} {js : List Kb} (h : Rnd m L f) (hj : js.Nodup) (hm : ∀ b, b ∈ js ↔ b ∈ L.map (sgn m f)) : Rnd m L (fun s => js.idxOf (sgn m f s))
def cntV (L : List Nat) (f : Nat → Nat) : Nat := (ddp (L.map f)).length
/-- names that are left: the last round made no more of them -/
def LotsP (m : Mc) (f' : Nat → Nat) : Prop := ∃ (f : Nat → Nat) (js : List Kb), Rnd m (reached m) f ∧ js.Nodup ∧ (∀ b, b ∈ js ↔ b ∈ (reached m).map (sgn m f)) ∧ js.length = cntV (reached m) f ∧ f' = fun s => js.idxOf (sgn m f s)
theorem idx_lt {js : List Kb} {b : Kb} (h : b ∈ js) : js.idxOf b < js.length := List.idxOf_lt_length_of_mem h
theorem idx_inj {js : List Kb} {a b : Kb} (ha : a ∈ js) (h : js.idxOf a = js.idxOf b) (hb : b ∈ js) : a = b := by
  have h1 := List.getElem_idxOf (idx_lt ha)
  have h2 := List.getElem_idxOf (idx_lt hb)
  rw [← h1, ← h2]
  congr 1
theorem cnt_idx {m : Mc} {L : List Nat} {f : Nat → Nat} {js : List Kb} (hj : js.Nodup) (hm : ∀ b, b ∈ js ↔ b ∈ L.map (sgn m f)) : cntV L (fun s => js.idxOf (sgn m f s)) = js.length := by
  obtain ⟨n1, m1⟩ := ddp_props (L.map fun s => js.idxOf (sgn m f s))
  unfold cntV
  apply Nat.le_antisymm
  · have := nodup_len (n := js.length) n1 (fun x hx => by
      obtain ⟨s, hs, rfl⟩ := List.mem_map.mp ((m1 x).mp hx)
      exact idx_lt ((hm _).mpr (List.mem_map_of_mem hs)))
    simpa using this
  · have nd2 : (js.map fun b => js.idxOf b).Nodup := by
      rw [List.Nodup, List.pairwise_map]
      refine hj.imp_of_mem ?_
      intro a b ha hb hab e
      exact hab (idx_inj ha e hb)
    have := nodup_sub _ ((ddp (L.map fun s => js.idxOf (sgn m f s))).map (·.1)) nd2 (fun x hx => by
      obtain ⟨b, hb, rfl⟩ := List.mem_map.mp hx
      obtain ⟨s, hs, e⟩ := List.mem_map.mp ((hm b).mp hb)
      rw [m1, ← e]
      exact List.mem_map.mpr ⟨s, hs, rfl⟩)
    simpa using this
theorem cnt_le {m : Mc} {L : List Nat} {f : Nat → Nat} {js : List Kb} (hj : js.Nodup) (hm : ∀ b, b ∈ js ↔ b ∈ L.map (sgn m f)) : cntV L f ≤ js.length := by
  obtain ⟨n1, m1⟩ := ddp_props (L.map f)
  have := nodup_sub _ (js.map (·.1)) n1 (fun x hx => by
    obtain ⟨s, hs, rfl⟩ := List.mem_map.mp ((m1 x).mp hx)
    exact List.mem_map.mpr ⟨sgn m f s, (hm _).mpr (List.mem_map_of_mem hs), rfl⟩)
  simpa [cntV] using this
theorem cnt_len (L : List Nat) (f : Nat → Nat) : cntV L f ≤ L.length := by
  have := ddp_len (L.map f)
  simpa [cntV] using this
def tabD (L : List Nat) (f : Nat → Nat) : D := dcD (mv nI (L.map fun s => (s, f s)))
theorem lk_tab {α : Type} (L : List Nat) (f : Nat → α) {s : Nat} (h : s ∈ L) : lk (L.map fun s => (s, f s)) s = some (f s) := by
  induction L with
  | nil => cases h
  | cons a L ih =>
    rw [List.map_cons, lk_cons]
    by_cases e : a = s
    · subst e; simp
    · have hm : s ∈ L := by
        rcases List.mem_cons.mp h with h | h
        · exact absurd h.symm e
        · exact h
      rw [if_neg e]
      exact ih hm
def preLots (ds : List D) : Prop := ∃ m : Mc, ds = [mD m] ∧ m.Ok 1000
def postLots (ds : List D) (d : D) : Prop := ∀ m : Mc, ds = [mD m] → ∃ f, LotsP m f ∧ d = tabD (reached m) f
theorem reached_nd (m : Mc) : (reached m).Nodup := List.nodup_range.sublist List.filter_sublist
theorem reached_lt {m : Mc} {s : Nat} (h : s ∈ reached m) : s < m.rows.length := List.mem_range.mp (List.mem_filter.mp h).1
theorem keptD_tab {L : List Nat} (nd : L.Nodup) (f : Nat → D) (F : Nat → D) (hF : ∀ i s, L[i]? = some s → F i = f s) : keptD L.length (fun _ => true) (fun i => L.getD i 0) F = L.map fun s => (s, f s) := by
  have := keptD_list (L.map fun s => (s, f s)) (fun _ => true) id .non (by rw [List.map_map]; simpa [Function.comp_def] using nd)
  rw [List.filter_eq_self.mpr (by intros; rfl), List.length_map] at this
  have e : mv id (L.map fun s => (s, f s)) = L.map fun s => (s, f s) := by simp [mv]
  rw [e] at this
  rw [← this]
  unfold keptD
  have aux : ∀ (M : List Nat) (a : List (Nat × D)), (∀ i ∈ M, i < L.length) → M.foldl (fun acc i => pt acc (L.getD i 0) (F i)) a = M.foldl (fun acc i => pt acc ((L.map fun s => (s, f s)).getD i (0, D.non)).1 (id ((L.map fun s => (s, f s)).getD i (0, D.non)).2)) a := by
    intro M
    induction M with
    | nil => intro a _; rfl
    | cons i M ih =>
      intro a hM
      have hi := hM i (List.mem_cons_self ..)
      have e1 : L[i]? = some L[i] := List.getElem?_eq_getElem hi
      rw [List.foldl_cons, List.foldl_cons]
      have e2 : (L.map fun s => (s, f s)).getD i (0, D.non) = (L[i], f L[i]) := by simp [List.getD_eq_getElem?_getD, e1]
      have e3 : L.getD i 0 = L[i] := by simp [List.getD_eq_getElem?_getD, e1]
      rw [e2, e3, hF i _ e1]
      exact ih _ fun j hj => hM j (List.mem_cons_of_mem _ hj)
  rw [aux _ _ (fun i hi => List.mem_range.mp (List.mem_filter.mp hi).1)]
theorem keptD_set (l : List Nat) : keptD l.length (fun _ => true) (fun i => l.getD i 0) (fun _ => .bl true) = mv (fun b => D.bl b) (ddp l) := by
  suffices h : ∀ n, n ≤ l.length → keptD n (fun _ => true) (fun i => l.getD i 0) (fun _ => .bl true) = mv (fun b => D.bl b) (ddp (l.take n)) by
    have := h l.length (Nat.le_refl _)
    rwa [List.take_length] at this
  intro n
  induction n with
  | zero => intro _; rfl
  | succ n ih =>
    intro hn
    have e1 : l[n]? = some l[n] := List.getElem?_eq_getElem hn
    have e2 : l.getD n 0 = l[n] := by simp [List.getD_eq_getElem?_getD, e1]
    have ht : l.take (n + 1) = l.take n ++ [l[n]] := by rw [List.take_succ, e1]; rfl
    rw [keptD_yes rfl, ih (by omega), ht, e2]
    show pt (mv _ _) _ _ = mv _ (List.foldl _ _ _)
    rw [List.foldl_append, List.foldl_cons, List.foldl_nil, mv_pt]; rfl
theorem keptT_set (l : List Kb) : keptT l.length (fun _ => true) (fun i => consK (l.getD i (0, []))) (fun _ => .bl true) = km consK (fun b => D.bl b) (ddp l) := by
  suffices h : ∀ n, n ≤ l.length → keptT n (fun _ => true) (fun i => consK (l.getD i (0, []))) (fun _ => .bl true) = km consK (fun b => D.bl b) (ddp (l.take n)) by
    have := h l.length (Nat.le_refl _)
    rwa [List.take_length] at this
  intro n
  induction n with
  | zero => intro _; rfl
  | succ n ih =>
    intro hn
    have e1 : l[n]? = some l[n] := List.getElem?_eq_getElem hn
    have e2 : l.getD n (0, []) = l[n] := by simp [List.getD_eq_getElem?_getD, e1]
    have ht : l.take (n + 1) = l.take n ++ [l[n]] := by rw [List.take_succ, e1]; rfl
    rw [keptT_yes rfl, ih (by omega), ht, e2]
    show pt (km consK (fun b => D.bl b) _) _ _ = km consK (fun b => D.bl b) (List.foldl _ _ _)
    rw [List.foldl_append, List.foldl_cons, List.foldl_nil]
    exact km_pt (g := fun b => D.bl b) consK_inj _ _ true
theorem keptT_idx {js : List Kb} (nd : js.Nodup) : keptT js.length (fun _ => true) (fun i => consK (js.getD i (0, []))) nI = js.map fun b => (consK b, nI (js.idxOf b)) := by
  suffices h : ∀ n, n ≤ js.length → keptT n (fun _ => true) (fun i => consK (js.getD i (0, []))) nI = (js.take n).map fun b => (consK b, nI (js.idxOf b)) by
    have := h js.length (Nat.le_refl _)
    rwa [List.take_length] at this
  intro n
  induction n with
  | zero => intro _; rfl
  | succ n ih =>
    intro hn
    have e1 : js[n]? = some js[n] := List.getElem?_eq_getElem hn
    have e2 : js.getD n (0, []) = js[n] := by simp [List.getD_eq_getElem?_getD, e1]
    have ht : js.take (n + 1) = js.take n ++ [js[n]] := by rw [List.take_succ, e1]; rfl
    have e3 : js.idxOf js[n] = n := by
      have hl := idx_lt (js := js) (List.getElem_mem hn)
      have := List.getElem_idxOf hl
      exact (List.getElem_inj nd).mp this
    rw [keptT_yes rfl, ih (by omega), ht, e2, List.map_append, pt_new]
    · simp [e3]
    · cases q : hs ((js.take n).map fun b => (consK b, nI (js.idxOf b))) (consK js[n]) with
      | false => rfl
      | true =>
        exfalso
        have := hs_memG.mp q
        rw [List.map_map] at this
        obtain ⟨b, hb, e⟩ := List.mem_map.mp this
        have e := consK_inj _ _ e
        have nd2 : (js.take (n + 1)).Nodup := nd.sublist (List.take_sublist _ _)
        rw [ht, List.nodup_append] at nd2
        exact nd2.2.2 b hb js[n] (by simp) e
theorem lk_idx {js : List Kb} {b : Kb} (h : b ∈ js) : lk (js.map fun b => (consK b, nI (js.idxOf b))) (consK b) = some (nI (js.idxOf b)) := by
  have aux : ∀ (M : List Kb), b ∈ M → lk (M.map fun b => (consK b, nI (js.idxOf b))) (consK b) = some (nI (js.idxOf b)) := by
    intro M
    induction M with
    | nil => intro h; cases h
    | cons a M ih =>
      intro h
      unfold lk
      by_cases e : a = b
      · subst e; simp
      · have e2 : ¬ consK a = consK b := fun z => e (consK_inj _ _ z)
        have hm : b ∈ M := by
          rcases List.mem_cons.mp h with h | h
          · exact absurd h.symm e
          · exact h
        have := ih hm
        unfold lk at this
        simp only [List.map_cons, List.find?_cons, decide_eq_false e2]
        exact this
  exact aux js h
section
variable {X : Cx} {σ : L2.St} {H : Hp} {e : Expr} {p pos : Pos} {l : List (Nat × D)}
theorem call_len_dR : CallR X (.builtin "len") (fun xs H Q => ∃ p kvs, xs = [.ref p] ∧ Rd H p (.dK kvs) ∧ Q (.int (kvs.length : Nat)) H) := by
  intro pins s σ H xs us Q I r h
  obtain ⟨p, kvs, rfl, hk, q⟩ := h
  rw [Vals.ref1 r]
  exact d_len I hk fun t s' I' => ⟨.int _, H, I', ⟨t, rfl⟩, q⟩
theorem we_dlen {x : Str} {Q : VK} (hm : X.mg x = none) (ha : WE X e σ H fun v H1 => ∃ q0, v = .ref q0 ∧ Dk X.K H1 q0 l ∧ Q (.int (l.length : Nat)) H1) (hv : bootBuiltins x = some (.builtin "len") := by exact PySem.boot_len) (hg : Gl X x := by rfl) (hn : x ≠ "__name__" := by decide) (hdb : (x == ("__debug__" : Str)) = false := by decide)
    (he : starEach [e] X.env = (false, eval e X.env) :: starEach [] X.env := by rfl) (hpl : (backTo pos (starEach [] X.env)).any (·.1) = false := by rfl) : WE X (.Call (.Name x p) [e] [] pos) σ H Q :=
  .of (pe_callB call_len_dR hg hm hv pa_W hn hdb he hpl) (wa_cons (ha.mono fun v H1 hq => by
    obtain ⟨q0, rfl, ⟨kvs, h1, h2⟩, q⟩ := hq
    exact wa_nil ⟨q0, kvs, rfl, .of h1, by rw [h2.len]; exact q⟩) he)
end
section
variable {P : Program} {w : World} {K : PySem.W.Frag} {mg : Str → Option Value} {base : Heap}
theorem tabD_eq (L : List Nat) (f : Nat → Nat) : tabD L f = dcD (L.map fun s => (s, nI (f s))) := by
  unfold tabD mv
  rw [List.map_map]; rfl
theorem ev_fol {X : Cx} {σ : L2.St} {H : Hp} {a e : Expr} {k : Nat} {p : Pos} {L : List Nat} {f : Nat → Nat} {s : Nat} (hr : Rm k X.A) (ha : Ev X a σ H (tabD L f)) (he : Ev X e σ H (.int (s : Int))) (hs : s ∈ L) (hn : NoSl e := by exact fun _ _ => rfl) : Ev X (.Subscript a e p) σ H (nI (f s)) :=
  ev_dget hr (n := s) (d := nI (f s)) ha he (by rw [mv_lk, lk_tab L f hs]; rfl) hn
theorem sc43 : FnScope ["machine", "order", "at", "names", "many", "signs", "standing", "followers", "kinds", "numbers", "name", "there", "sign", "number"] ["machine"] (defScope (top 43)) := ⟨rfl, rfl, rfl, by decide +kernel, rfl, by decide +kernel, by decide +kernel⟩
theorem pr_lots (T : Txt K mg) (R : Pr P w K mg base "raw_reached" 2 ["machine"] (spD K preReach)) (hclosed : ∀ m : Mc, m.Ok 1000 → ∀ s ∈ reached m, ∀ x y, m.rows[s]? = some (.toss x y) → x ∈ reached m ∧ y ∈ reached m) : Pr P w K mg base "lots_of" 3 ["machine"] (spN K preLots postLots) := by
  refine mk_pr T 28 rfl sc43 (fun _ _ _ _ _ _ us hl => match us, hl with | [_], _ => rfl) (fun vs H Q E h => ?_) (fun cdv A outer s H vs Q E hr h => ?_)
  · obtain ⟨ds, ⟨m, rfl, _⟩, hI, _⟩ := h
    exact hI.len
  · obtain ⟨ds, ⟨m, rfl, ok⟩, hI, k0⟩ := h
    have k : ∀ f, LotsP m f → ∀ v H', Same H H' → Im K H' v (tabD (reached m) f) → Q v H' := fun f hf v H' s hv => k0 _ v H' (fun m' e => by
      have : m = m' := by
        have e := List.cons.inj e |>.1
        exact mD_inj e
      subst this
      exact ⟨f, hf, rfl⟩) s hv
    cases hI with
    | @cons vm _ _ _ h1 hI =>
    cases hI
    obtain ⟨tt, et⟩ := T.toss
    have f1 : mg "list" = none := T.free _ (by decide +kernel)
    have f2 : mg "sorted" = none := T.free _ (by decide +kernel)
    have f3 : mg "enumerate" = none := T.free _ (by decide +kernel)
    have f4 : mg "len" = none := T.free _ (by decide +kernel)
    have f5 : mg "tuple" = none := T.free _ (by decide +kernel)
    have nd := reached_nd m
    have lR : (reached m).length ≤ 1000 := Nat.le_trans (nodup_len nd fun x hx => reached_lt hx) ok.le
    have hcl := hclosed m ok
    refine w_cons (s_set sc43.nd 1 (ev_call R hr (ea_one (ev_var 0 rfl h1)) ⟨m, rfl, ok, rfl⟩) fun v1 H1 s1 hv1 => ?_)
    have order : ∀ {i : Nat} {d : D}, ((reached m).map nI)[i]? = some d → ∃ t, (reached m)[i]? = some t ∧ d = nI t ∧ t ∈ reached m ∧ (reached m).getD i 0 = t := fun {i d} hi => by
      rw [List.getElem?_map] at hi
      cases e : (reached m)[i]? with
      | none => rw [e] at hi; cases hi
      | some t => rw [e] at hi; exact ⟨t, rfl, (Option.some.inj hi).symm, List.mem_of_getElem? e, by rw [List.getD_eq_getElem?_getD, e]; rfl⟩
    -- the first names
    refine w_cons (s_setW sc43.nd 3 (we_dc sc43 [("at", 2)] (fun _ => true) (fun i => (reached m).getD i 0) (fun i => nI (baseN m ((reached m).getD i 0))) (fun _ => rfl) (wk_lstD (ev_var 1 rfl hv1) (pls_map nI_pl _)) (fun H1 H2 s => ⟨Same.tx s, Same.ls s⟩) (by rw [List.length_map]; omega) ?_ fun p H2 hp s2 hD => ?_))
    · intro i d v H3 s3 hi hv
      obtain ⟨t, e, rfl, ht, e2⟩ := order hi
      have ev := hv.intI
      subst ev
      rw [e2]
      obtain ⟨r, hr1, hrok⟩ := ok.at (reached_lt ht)
      refine ⟨_, fun Q2 q s H C cl fp => g_name sc43.nd 2 q, rfl, fun s H C cl fp => et_nil, fun _ => ⟨fun s H C cl fp => ev_var 2 rfl (.int _), fun s H C cl fp => ?_⟩⟩
      have hm3 := (h1.ex s1).ex s3
      refine ev_if (t := r.isT) (et_isToss et (ev_row (ev_var 0 rfl hm3) (ev_var 2 rfl (.int _)) hr1)) (fun q => ?_) (fun q => ?_)
      · cases r with
        | out j => cases q
        | toss x y =>
          have : baseN m t = 0 := by simp [baseN, hr1]
          rw [this]
          exact ev_int
      · cases r with
        | toss x y => cases q
        | out j =>
          have : baseN m t = 1 + j := by simp [baseN, hr1]
          rw [this]
          exact Ev.cast (ev_add ev_int (ev_ixT (ds := [.str "out", nI j]) (ev_row (ev_var 0 rfl hm3) (ev_var 2 rfl (.int _)) hr1) ev_int rfl)) (by unfold nI; congr 1)
    rw [List.length_map, keptD_tab nd (fun s => nI (baseN m s)) _ (fun i s e => by rw [List.getD_eq_getElem?_getD, e]; rfl)] at hD
    have hN2 : Im K H2 (.ref p) (tabD (reached m) (baseN m)) := by rw [tabD_eq]; exact hD.im
    -- many
    have vals : ∀ (f : Nat → Nat), (mv nI ((reached m).map fun s => (s, f s))).map (·.2) = ((reached m).map f).map nI := fun f => by simp [mv]
    have setlen : (mv (fun b => D.bl b) (ddp ((reached m).map (baseN m)))).length = cntV (reached m) (baseN m) := by rw [mv_len]; rfl
    refine w_cons (s_setW sc43.nd 4 (we_dlen (l := mv (fun b => D.bl b) (ddp ((reached m).map (baseN m)))) f4 (we_dc sc43 [("name", 10)] (fun _ => true) (fun i => ((reached m).map (baseN m)).getD i 0) (fun _ => .bl true) (fun _ => rfl) (wk_lstD (ds := ((reached m).map (baseN m)).map nI) (EvL.ev (EvL.cast (el_vals f1 (l := mv nI ((reached m).map fun s => (s, baseN m s))) (ev_var 3 rfl hN2)) (vals _))) (pls_map nI_pl _)) (fun H1 H2 s => ⟨Same.tx s, Same.ls s⟩) (by rw [List.length_map, List.length_map]; omega) ?_ fun g H3 hg s3 hG => ⟨g, rfl, ?_, ?_⟩)))
    · intro i d v H3 s3 hi hv
      rw [List.getElem?_map] at hi
      cases e : ((reached m).map (baseN m))[i]? with
      | none => rw [e] at hi; cases hi
      | some t =>
        rw [e] at hi
        obtain rfl := Option.some.inj hi
        have e2 : ((reached m).map (baseN m)).getD i 0 = t := by rw [List.getD_eq_getElem?_getD, e]; rfl
        have ev := hv.intI
        subst ev
        rw [e2]
        exact ⟨_, fun Q2 q s H C cl fp => g_name sc43.nd 10 q, rfl, fun s H C cl fp => et_nil, fun _ => ⟨fun s H C cl fp => ev_var 10 rfl (.int _), fun s H C cl fp => ev_bl⟩⟩
    · rw [List.length_map, keptD_set] at hG
      exact hG
    rw [setlen]
    clear hG setlen hD
    have s03 := (s1.trans s2).trans s3
    have hN3 := hN2.ex s3
    have hv3 := hv1.ex (s2.trans s3)
    clear hN2 hv1
    -- the rounds
    refine w_one (s_while (fun z σ H' => ∃ (f : Nat → Nat) (vn : V) (x2 x5 x6 x7 x8 x9 : Option V), σ = [some vm, some v1, x2, some vn, some (.int (cntV (reached m) f : Nat)), x5, x6, x7, x8, x9, none, none, none, none] ∧ Same H3 H' ∧ Im K H' vn (tabD (reached m) f) ∧ Rnd m (reached m) f ∧ z = (reached m).length - cntV (reached m) f)
      _ ⟨baseN m, .ref p, none, none, none, none, none, none, rfl, Same.refl _, hN3, .init, rfl⟩ ?_)
    rintro z σ H' ⟨f, vn, x2, x5, x6, x7, x8, x9, rfl, s3H, hN, hR, rfl⟩
    refine ⟨true, et_val ev_bl, fun _ H4 s4 => ?_, fun q => nomatch q⟩
    have s34 := s3H.trans s4
    refine w_cons (s_setW sc43.nd 5 (we_dnew fun g hg => ?_))
    have s35 := s34.trans (Same.new (o := .dK []) hg)
    have s45 : Same H4 (upd H4 g (.dK [])) := Same.new hg
    have hg3 : H3 g = none := s34.free hg
    refine w_cons (s_for (wk_lstD (ds := (reached m).map nI) (ev_var 1 rfl (hv3.ex s35)) (pls_map nI_pl _)) fun H6 s6 => ⟨fun i σ' H' => ∃ (x2 x6 x7 : Option V), σ' = [some vm, some v1, x2, some vn, some (.int (cntV (reached m) f : Nat)), some (.ref g), x6, x7, x8, x9, none, none, none, none] ∧ Same H4 H' ∧ Tx K H6 H' ∧ LsX H6 H' ∧ Dk K H' g (((reached m).take i).map fun s => (s, D.key (consK (sgn m f s)))),
      ⟨x2, x6, x7, rfl, s45.trans s6, .refl, .refl, [], s6 _ _ upd_same, .nil⟩, ?_, ?_, ?_⟩)
    · rintro i σ' H' ⟨_, _, _, _, _, tx, ls, _⟩
      exact ⟨tx, ls⟩
    · rintro i d v σ' H7 H8 hd ⟨y2, y6, y7, rfl, s47, tx, ls, hDg⟩ s8 hv
      obtain ⟨t, e, rfl, ht, e2⟩ := order hd
      have ev := hv.intI
      subst ev
      obtain ⟨r, hr1, hrok⟩ := ok.at (reached_lt ht)
      refine g_name sc43.nd 2 ?_
      have s38 := (s34.trans s47).trans s8
      have hm8 := (h1.ex s03).ex s38
      have hN8 := hN.ex ((s4.trans s47).trans s8)
      refine w_cons (s_set sc43.nd 6 (ev_row (ev_var 0 rfl hm8) (ev_var 2 rfl (.int _)) hr1) fun v6 H9 s9 hv6 => ?_)
      refine w_cons (s_set sc43.nd 7 (d := .key (fols m f t)) (ev_if (t := r.isT) (et_isToss et (ev_var 6 rfl hv6)) (fun q => ?_) (fun q => ?_)) fun v7 H10 s10 hv7 => ?_)
      · cases r with
        | out j => cases q
        | toss x y =>
        obtain ⟨hx, hy⟩ := hcl t ht x y hr1
        have ef : fols m f t = [f x, f y] := by simp [fols, hr1]
        rw [ef]
        refine ev_keyL f5 (EvL.cast (el_lc sc43 [("there", 11)] (fun _ => true) (fun i => nI0 (f ([x, y].getD i 0))) (fun _ => rfl) (wk_tup (ev_sl1 (d := .str "toss") (ds := [nI x, nI y]) (ev_var 6 rfl hv6)) rfl) (fun H1 H2 s => Same.tx s) (by exact Nat.le_of_ble_eq_true rfl) ?_) rfl)
        intro i d v H11 s11 hi hv
        obtain ⟨u, hu, rfl, hu2⟩ : ∃ u, u ∈ reached m ∧ d = nI u ∧ [x, y].getD i 0 = u := by
          match i, hi with
          | 0, hi => exact ⟨x, hx, (Option.some.inj hi).symm, rfl⟩
          | 1, hi => exact ⟨y, hy, (Option.some.inj hi).symm, rfl⟩
        have ev := hv.intI
        subst ev
        rw [hu2]
        refine ⟨_, fun Q2 q s H C cl fp => g_name sc43.nd 11 q, rfl, fun s H C cl fp => et_nil, fun _ s H C cl fp => ?_⟩
        exact ev_fol hr (ev_var 3 rfl ((hN8.ex s9).ex s11)) (ev_var 11 rfl (.int _)) hu
      · cases r with
        | toss x y => cases q
        | out j =>
        have ef : fols m f t = [] := by simp [fols, hr1]
        rw [ef]
        exact ev_key (ks := []) ea_nil
      · have hDg10 := hDg.ex ((s8.trans s9).trans s10)
        have s810 := (s8.trans s9).trans s10
        have hno : hs (((reached m).take i).map fun s => (s, D.key (consK (sgn m f s)))) t = false := by
          cases q : hs (((reached m).take i).map fun s => (s, D.key (consK (sgn m f s)))) t with
          | false => rfl
          | true =>
            exfalso
            have := hs_mem.mp q
            rw [List.map_map] at this
            have hm : t ∈ (reached m).take i := by simpa [Function.comp_def] using this
            have htk : (reached m).take (i + 1) = (reached m).take i ++ [t] := by rw [List.take_succ, e]; rfl
            have nd2 : ((reached m).take (i + 1)).Nodup := nd.sublist (List.take_sublist _ _)
            rw [htk, List.nodup_append] at nd2
            exact nd2.2.2 t hm t (by simp) rfl
        have fl3 : (fols m f t).length ≤ 2 := by
          unfold fols
          rw [hr1]
          cases r <;> simp
        refine w_one (s_dput hr (n := t) (d := .key (consK (sgn m f t))) (Ev.cast (ev_catK (ks := [f t]) (js := fols m f t) (ev_key (ks := [f t]) (ea_one (ev_fol hr (ev_var 3 rfl ((hN8.ex s9).ex s10)) (ev_var 2 rfl (.int _)) ht))) (ev_var 7 rfl hv7) (by rw [sizeLine_eq]; simp; omega)) rfl) (vv_var 5 rfl) hDg10 (ev_var 2 rfl (.int _)) rfl (fun q hq => by
          obtain ⟨s, _, rfl⟩ := List.mem_map.mp hq
          rfl) (by rw [List.length_map, List.length_take]; omega) fun H11 m11 tx11 hD11 => ?_)
        rw [pt_new hno] at hD11
        have htk : (reached m).take (i + 1) = (reached m).take i ++ [t] := by rw [List.take_succ, e]; rfl
        refine ⟨_, _, _, rfl, m11.same (s47.trans s810) hg, (tx.trans (Same.tx s810)).trans tx11, (ls.trans (Same.ls s810)).trans ?_, ?_⟩
        · obtain ⟨kv, z, _⟩ := hDg10
          exact m11.ls z
        · rw [htk, List.map_append]
          exact hD11
    rintro σ' H7 ⟨y2, y6, y7, rfl, s47, tx, ls, hDg⟩
    rw [List.length_map, List.take_length] at hDg
    -- kinds
    have s37 := s34.trans s47
    have hsv : ((reached m).map fun s => (s, D.key (consK (sgn m f s)))).map (·.2) = ((reached m).map (sgn m f)).map fun b => D.key (b.1 :: b.2) := by rw [List.map_map, List.map_map]; rfl
    refine w_cons (s_setW sc43.nd 8 (wl_sortK (bs := (ddp ((reached m).map (sgn m f))).map (·.1)) hr f2 (wl_tkeys (l := km consK (fun b => D.bl b) (ddp ((reached m).map (sgn m f)))) f1 (we_dcT hr sc43 [("sign", 12)] (fun _ => true) (fun i => consK (((reached m).map (sgn m f)).getD i (0, []))) (fun _ => .bl true) (fun _ => rfl) (wk_lstD (ds := ((reached m).map (sgn m f)).map fun b => D.key (b.1 :: b.2)) (EvL.ev (EvL.cast (el_vals f1 (ev_var 5 rfl hDg.im)) hsv)) (pls_map (fun _ => rfl) _)) (fun H1 H2 s => ⟨Same.tx s, Same.ls s⟩) (by rw [List.length_map, List.length_map]; omega) ?_ fun q0 H8 hq0 s8 hT8 => ⟨q0, rfl, ?_, fun r9 H9 hr9 s9 hL9 => ⟨r9, rfl, ?_, fun js p10 H10 hj hp10 s10 hL10 => ?_⟩⟩)) (by rw [List.length_map]; have := ddp_len ((reached m).map (sgn m f)); rw [List.length_map] at this; omega)))
    · intro i d v H8 s8 hi hv
      rw [List.getElem?_map] at hi
      cases e : ((reached m).map (sgn m f))[i]? with
      | none => rw [e] at hi; cases hi
      | some b =>
        rw [e] at hi
        obtain rfl := Option.some.inj hi
        have e2 : ((reached m).map (sgn m f)).getD i (0, []) = b := by rw [List.getD_eq_getElem?_getD, e]; rfl
        rw [e2]
        exact ⟨_, fun Q2 q s H C cl fp => g_name sc43.nd 12 q, rfl, fun s H C cl fp => et_nil, fun _ => ⟨fun s H C cl fp => ev_var 12 rfl hv, fun s H C cl fp => ev_bl⟩⟩
    · rw [List.length_map, keptT_set] at hT8
      exact hT8
    · refine hL9.cast ?_
      unfold km
      rw [List.map_map, List.map_map]; rfl
    obtain ⟨dn, dm⟩ := ddp_props ((reached m).map (sgn m f))
    have jn : js.Nodup := hj.nodup_iff.mpr dn
    have jm : ∀ b, b ∈ js ↔ b ∈ (reached m).map (sgn m f) := fun b => (hj.mem_iff).trans (dm b)
    have jl : js.length ≤ 1000 := by
      have := hj.length_eq
      rw [List.length_map] at this
      have h2 := ddp_len ((reached m).map (sgn m f))
      rw [List.length_map] at h2
      omega
    have s710 := (s8.trans s9).trans s10
    -- numbers
    refine w_cons (s_setW sc43.nd 9 (we_dcT hr sc43 [("number", 13), ("sign", 12)] (fun _ => true) (fun i => consK (js.getD i (0, []))) nI (fun _ => rfl) (wk_enumL f3 (ev_var 8 rfl hL10.im) (pls_map (fun _ => rfl) _)) (fun H1 H2 s => ⟨Same.tx s, Same.ls s⟩) (by rw [enD_len, List.length_map]; omega) ?_ fun q1 H11 hq1 s11 hT11 => ?_))
    · intro i d v H12 s12 hi hv
      obtain ⟨x, hx, rfl⟩ := enD_at hi
      rw [List.getElem?_map] at hx
      cases e : js[i]? with
      | none => rw [e] at hx; cases hx
      | some b =>
        rw [e] at hx
        obtain rfl := Option.some.inj hx
        have e2 : js.getD i (0, []) = b := by rw [List.getD_eq_getElem?_getD, e]; rfl
        rw [e2]
        obtain ⟨a, xs, rfl, g1, g2⟩ := hv.tupI
        cases g2 with
        | cons g2 g3 =>
        cases g3 with
        | cons g3 g4 =>
        cases g4
        exact ⟨_, fun Q2 q s H C cl fp => g_pairV sc43.nd 13 12 g1 q, rfl, fun s H C cl fp => et_nil, fun _ => ⟨fun s H C cl fp => ev_var 12 rfl g3, fun s H C cl fp => ev_var 13 rfl g2⟩⟩
    rw [enD_len, List.length_map, keptT_idx jn] at hT11
    -- names
    have s711 := s710.trans s11
    have s311 := s37.trans s711
    have hDg11 := hDg.ex s711
    refine w_cons (s_setW sc43.nd 3 (we_dc sc43 [("at", 2)] (fun _ => true) (fun i => (reached m).getD i 0) (fun i => nI (js.idxOf (sgn m f ((reached m).getD i 0)))) (fun _ => rfl) (wk_lstD (ds := (reached m).map nI) (ev_var 1 rfl (hv3.ex s311)) (pls_map nI_pl _)) (fun H1 H2 s => ⟨Same.tx s, Same.ls s⟩) (by rw [List.length_map]; omega) ?_ fun q2 H12 hq2 s12 hD12 => ?_))
    · intro i d v H13 s13 hi hv
      obtain ⟨t, e, rfl, ht, e2⟩ := order hi
      have ev := hv.intI
      subst ev
      rw [e2]
      refine ⟨_, fun Q2 q s H C cl fp => g_name sc43.nd 2 q, rfl, fun s H C cl fp => et_nil, fun _ => ⟨fun s H C cl fp => ev_var 2 rfl (.int _), fun s H C cl fp => ?_⟩⟩
      refine ev_tget hr (ks := consK (sgn m f t)) (vv_var 9 rfl) (hT11.ex s13) (ev_dget hr (n := t) (ev_var 5 rfl (hDg11.ex s13).im) (ev_var 2 rfl (.int _)) (lk_tab (reached m) (fun s => D.key (consK (sgn m f s))) ht)) ?_
      exact lk_idx ((jm _).mpr (List.mem_map_of_mem ht))
    rw [List.length_map, keptD_tab nd (fun s => nI (js.idxOf (sgn m f s))) _ (fun i s e => by rw [List.getD_eq_getElem?_getD, e]; rfl)] at hD12
    have hN12 : Im K H12 (.ref q2) (tabD (reached m) fun s => js.idxOf (sgn m f s)) := by rw [tabD_eq]; exact hD12.im
    have hT12 := hT11.ex s12
    have ln : (js.map fun b => (consK b, nI (js.idxOf b))).length = js.length := by simp
    have s312 := s311.trans s12
    have hcnt := cnt_idx jn jm
    have hle := cnt_le jn jm
    have hcl2 := cnt_len (reached m) fun s => js.idxOf (sgn m f s)
    refine w_cons (s_if (et_eqI (i := (js.length : Int)) (j := (cntV (reached m) f : Int)) (Ev.cast (ev_tlen f4 (vv_var 9 rfl) hT12) (by rw [ln])) (ev_var 4 rfl (.int _))) (fun q13 H13 s13 => ?_) fun q13 H13 s13 => w_nil ?_)
    · have ec : js.length = cntV (reached m) f := by
        have := of_decide_eq_true q13
        omega
      exact w_one (s_ret (ev_var 3 rfl (hN12.ex s13)) fun v H14 s14 hv => k _ ⟨f, js, hR, jn, jm, ec, rfl⟩ v H14 (s03.trans ((s312.trans s13).trans s14)) hv)
    · have ec : js.length ≠ cntV (reached m) f := by
        have := of_decide_eq_false q13
        omega
      refine w_one (s_set sc43.nd 4 (Ev.cast (ev_tlen f4 (vv_var 9 rfl) (hT12.ex s13)) (show _ = D.int (cntV (reached m) (fun s => js.idxOf (sgn m f s)) : Nat) by rw [ln, hcnt])) fun v14 H14 s14 hv14 => ?_)
      have e14 := hv14.intI
      subst e14
      exact ⟨_, by omega, _, .ref q2, _, _, _, _, _, _, rfl, (s312.trans s13).trans s14, (hN12.ex s13).ex s14, .step hR jn jm, rfl⟩
end
end Dr
set_option Elab.async false
set_option linter.all false
set_option maxRecDepth 100000
set_option maxHeartbeats 4000000
set_option pp.deepTerms false
set_option pp.maxSteps 400
namespace Dr
open PySem PySem.Spec PyProof.Rows L2
theorem we_callN {X : Cx} {σ : L2.St} {H : Hp} {e : Expr} {es : List Expr} {pos p : Pos} {ds : List D} {x : Str} {k : Nat} {ps : List Str} {pre : List D → Prop} {post : List D → D → Prop} {Q : VK} (F : Pr X.prog X.w X.K X.mg X.base x k ps (spN X.K pre post)) (hr : Rm k X.A) (ha : EvA X (e :: es) σ H ds) (hp : pre ds)
    (hq : ∀ d v H1, post ds d → Same H H1 → Im X.K H1 v d → Q v H1) (hg : Gl X x := by rfl) (hdb : (x == ("__debug__" : Str)) = false := by decide)
    (he : starEach (e :: es) X.env = (false, eval e X.env) :: starEach es X.env := by rfl) (hpl : (backTo pos (starEach es X.env)).any (·.1) = false := by rfl) : WE X (.Call (.Name x p) (e :: es) [] pos) σ H Q :=
  we_call F hr (ha H (Same.refl _) _ fun vs H2 s2 hvs => ⟨ds, hp, hvs, fun d v H3 hpo s3 hv => hq d v H3 hpo (s2.trans s3) hv⟩) hg hdb he hpl
/-! ### the folded machine -/
def fvisit (f : Nat → Nat) (t : Nat) (O : List Nat) : List Nat := if (O.map f).contains (f t) = true then O else O ++ [t]
def fstep (m : Mc) (f : Nat → Nat) (s : Nat) (O : List Nat) : List Nat := match m.rows[s]? with
  | some (Rw.toss x y) => fvisit f y (fvisit f x O)
  | _ => O
def ffGo (m : Mc) (f : Nat → Nat) : Nat → Nat → List Nat → List Nat
  | 0, _, O => O
  | n + 1, i, O => match O[i]? with
    | none => O
    | some s => ffGo m f n (i + 1) (fstep m f s O)
def foldO (m : Mc) (f : Nat → Nat) : List Nat := ffGo m f m.rows.length 0 [0]
def frow (m : Mc) (f : Nat → Nat) (O : List Nat) (s : Nat) : Rw := match m.rows[s]? with
  | some (Rw.toss x y) => .toss ((O.map f).idxOf (f x)) ((O.map f).idxOf (f y))
  | some (Rw.out i) => .out i
  | none => .out 0
def foldM (m : Mc) (f : Nat → Nat) : Mc := ⟨m.n, (foldO m f).map (frow m f (foldO m f))⟩
theorem fvisit_ex (f : Nat → Nat) (t : Nat) (O : List Nat) : ∃ r, fvisit f t O = O ++ r := by
  unfold fvisit
  split
  · exact ⟨[], by simp⟩
  · exact ⟨[t], rfl⟩
theorem fvisit_mem (f : Nat → Nat) (t : Nat) (O : List Nat) : f t ∈ (fvisit f t O).map f := by
  unfold fvisit
  split
  · rename_i h
    simpa using h
  · simp
structure FoI (m : Mc) (f : Nat → Nat) (O : List Nat) : Prop where
  nd : (O.map f).Nodup
  re : ∀ s ∈ O, s ∈ reached m
theorem FoI.nd' {m : Mc} {f : Nat → Nat} {O : List Nat} (h : FoI m f O) : O.Nodup := by
  have := h.nd
  rw [List.Nodup, List.pairwise_map] at this
  exact this.imp fun h e => h (by rw [e])
theorem FoI.len {m : Mc} {f : Nat → Nat} {O : List Nat} (h : FoI m f O) : O.length ≤ m.rows.length := nodup_len h.nd' fun x hx => reached_lt (h.re x hx)
theorem FoI.visit {m : Mc} {f : Nat → Nat} {O : List Nat} {t : Nat} (h : FoI m f O) (ht : t ∈ reached m) : FoI m f (fvisit f t O) := by
  unfold fvisit
  split
  · exact h
  · rename_i hh
    refine ⟨?_, fun s hs => ?_⟩
    · rw [List.map_append, List.nodup_append]
      refine ⟨h.nd, by simp, fun a ha c hc => ?_⟩
      simp at hc
      subst hc
      rintro rfl
      exact hh (by simpa using ha)
    · rcases List.mem_append.mp hs with hs | hs
      · exact h.re s hs
      · rw [List.mem_singleton.mp hs]; exact ht
def Closed (m : Mc) : Prop := ∀ s ∈ reached m, ∀ x y, m.rows[s]? = some (.toss x y) → x ∈ reached m ∧ y ∈ reached m
theorem FoI.step {m : Mc} {f : Nat → Nat} {O : List Nat} {s : Nat} (hc : Closed m) (h : FoI m f O) (hs : s ∈ reached m) : FoI m f (fstep m f s O) ∧ ∃ r, fstep m f s O = O ++ r := by
  unfold fstep
  split
  · rename_i x y e
    obtain ⟨hx, hy⟩ := hc s hs x y e
    obtain ⟨r1, e1⟩ := fvisit_ex f x O
    obtain ⟨r2, e2⟩ := fvisit_ex f y (fvisit f x O)
    refine ⟨(h.visit hx).visit hy, r1 ++ r2, ?_⟩
    rw [e2, e1, List.append_assoc]
  · exact ⟨h, [], by simp⟩
theorem idx_app {l r : List Nat} {k : Nat} (h : k ∈ l) : (l ++ r).idxOf k = l.idxOf k := by rw [List.idxOf_append, if_pos h]
def tabN (O : List Nat) (f : Nat → Nat) : List (Nat × Nat) := (O.map f).zipIdx
theorem tabN_snoc (O : List Nat) (f : Nat → Nat) (t : Nat) : tabN (O ++ [t]) f = tabN O f ++ [(f t, O.length)] := by
  unfold tabN
  rw [List.map_append, List.zipIdx_append]
  simp
theorem tabN_hs (O : List Nat) (f : Nat → Nat) (k : Nat) : hs (tabN O f) k = (O.map f).contains k := by
  have : ((tabN O f).map (·.1)) = O.map f := by
    unfold tabN
    rw [List.zipIdx_map_fst]
  cases e : (O.map f).contains k with
  | true =>
    rw [hs_mem, this]
    simpa using e
  | false =>
    cases q : hs (tabN O f) k with
    | false => rfl
    | true =>
      have := hs_mem.mp q
      rw [‹(tabN O f).map (·.1) = O.map f›] at this
      have h2 : (O.map f).contains k = true := by simpa using this
      rw [e] at h2; cases h2
theorem zip_lk : ∀ (l : List Nat) (i k : Nat), k ∈ l → lk (l.zipIdx i) k = some (l.idxOf k + i)
  | [], _, _, h => by cases h
  | a :: l, i, k, h => by
    rw [List.zipIdx_cons, lk_cons]
    by_cases e : a = k
    · subst e; simp
    · have hm : k ∈ l := by
        rcases List.mem_cons.mp h with h | h
        · exact absurd h.symm e
        · exact h
      rw [if_neg e, zip_lk l (i + 1) k hm, List.idxOf_cons]
      have : (a == k) = false := by simpa using e
      rw [this]
      simp only [cond_false]
      congr 1
      omega
theorem tabN_lk {O : List Nat} {f : Nat → Nat} {k : Nat} (h : k ∈ O.map f) : lk (tabN O f) k = some ((O.map f).idxOf k) := by
  unfold tabN
  rw [zip_lk _ 0 _ h]; simp
def postFold (ds : List D) (d : D) : Prop := ∀ m : Mc, ds = [mD m] → ∃ f, LotsP m f ∧ d = mD (foldM m f)
section
variable {P : Program} {w : World} {K : PySem.W.Frag} {mg : Str → Option Value} {base : Heap}
theorem reached_zero {m : Mc} {z : Nat} (ok : m.Ok z) : 0 ∈ reached m := List.mem_filter.mpr ⟨List.mem_range.mpr ok.pos, hs_mem.mpr (ways_zero ok)⟩
theorem sc44 : FnScope ["machine", "lots", "names", "order", "standings", "standing", "there"] ["machine"] (defScope (top 44)) := ⟨rfl, rfl, rfl, by decide +kernel, rfl, by decide +kernel, by decide +kernel⟩
theorem pr_fold (T : Txt K mg) (hcl : ∀ m : Mc, m.Ok 1000 → Closed m) (F : Pr P w K mg base "lots_of" 3 ["machine"] (spN K preLots postLots)) : Pr P w K mg base "raw_folded" 4 ["machine"] (spN K preLots postFold) := by
  refine mk_pr T 29 rfl sc44 (fun _ _ _ _ _ _ us hl => match us, hl with | [_], _ => rfl) (fun vs H Q E h => ?_) (fun cdv A outer s H vs Q E hr h => ?_)
  · obtain ⟨ds, ⟨m, rfl, _⟩, hI, _⟩ := h
    exact hI.len
  · obtain ⟨ds, ⟨m, rfl, ok⟩, hI, k0⟩ := h
    have k : ∀ f, LotsP m f → ∀ v H', Same H H' → Im K H' v (mD (foldM m f)) → Q v H' := fun f hf v H' s hv => k0 _ v H' (fun m' e => by
      have : m = m' := mD_inj (List.cons.inj e |>.1)
      subst this
      exact ⟨f, hf, rfl⟩) s hv
    cases hI with
    | @cons vm _ _ _ h1 hI =>
    cases hI
    obtain ⟨tt, et⟩ := T.toss
    obtain ⟨to, eo⟩ := T.out
    have fl : mg "len" = none := T.free _ (by decide +kernel)
    have ft : mg "tuple" = none := T.free _ (by decide +kernel)
    have le := ok.le
    have hc := hcl m ok
    refine w_cons (s_setW sc44.nd 1 (we_callN F hr (ea_one (ev_var 0 rfl h1)) ⟨m, rfl, ok⟩ fun d v1 H1 hpo s1 hv1 => ?_))
    obtain ⟨f, hf, rfl⟩ := hpo m rfl
    have k := k f hf
    have h0 := reached_zero ok
    refine w_cons (s_par3 sc44.nd 2 3 4 (wa_cons (we_disp1 (n := f 0) (d := nI 0) (ev_fol hr (ev_var 1 rfl hv1) ev_int h0) ev_int fun p H2 hp s2 hD => wa_cons (we_evl (el_lst (ea_one (ev_int (i := 0)))) fun q H3 hq s3 hL => wa_cons (we_evl (el_lst ea_nil) fun r H4 hr4 s4 hS => wa_nil ⟨_, _, _, rfl, ?_⟩)))))
    have npq : p ≠ q := by
      obtain ⟨kv, z, _⟩ := hD
      rintro rfl
      rw [hq] at z; cases z
    have npr : p ≠ r := by
      obtain ⟨kv, z, _⟩ := hD.ex s3
      rintro rfl
      rw [hr4] at z; cases z
    have nqr : q ≠ r := by
      obtain ⟨kv, z, _⟩ := hL
      rintro rfl
      rw [hr4] at z; cases z
    have hp1 : H1 p = none := hp
    have hq1 : H1 q = none := s2.free hq
    have hr1 : H1 r = none := s2.free (s3.free hr4)
    refine w_cons (s_while (fun z σ H' => ∃ (O : List Nat) (i : Nat) (x5 x6 : Option V), σ = [some vm, some v1, some (.ref p), some (.ref q), some (.ref r), x5, x6] ∧ Same H1 H' ∧ Dk K H' p (mv nI (tabN O f)) ∧ LsI K H' q (O.map nI) ∧ LsI K H' r ((O.take i).map fun s => rowD (frow m f O s)) ∧ FoI m f O ∧
        i ≤ O.length ∧ (∀ s ∈ O.take i, ∀ x y, m.rows[s]? = some (.toss x y) → f x ∈ O.map f ∧ f y ∈ O.map f) ∧ z = m.rows.length - i ∧ ffGo m f z i O = foldO m f)
      _ ⟨[0], 0, none, none, rfl, (s2.trans s3).trans s4, (hD.ex s3).ex s4, hL.ex s4, hS, ⟨by simp, fun s hs => by rw [List.mem_singleton.mp hs]; exact h0⟩, Nat.zero_le _, (fun s hs => nomatch hs), rfl, rfl⟩ ?_)
    rintro z σ H' ⟨O, i, x5, x6, rfl, sH, hDk, hLo, hLs, fo, hi, hsu, rfl, hgo⟩
    have ol := fo.len
    have lt_ : ((O.take i).map fun s => rowD (frow m f O s)).length = i := by rw [List.length_map, List.length_take]; omega
    refine ⟨_, et_lt (i := (i : Int)) (j := (O.length : Int)) (Ev.cast (ev_lenL fl (vv_var 4 rfl) hLs) (by rw [lt_])) (Ev.cast (ev_lenL fl (vv_var 3 rfl) hLo) (by rw [List.length_map])), fun tr H5 s5 => ?_, fun tr H5 s5 => ?_⟩
    · have lt : i < O.length := by
        have := of_decide_eq_true tr
        omega
      obtain ⟨s, hs⟩ : ∃ s, O[i]? = some s := ⟨O[i], by simp [lt]⟩
      have hsO : s ∈ O := List.mem_of_getElem? hs
      have hsr := fo.re s hsO
      obtain ⟨rw_, hrw, hrok⟩ := ok.at (reached_lt hsr)
      have fuel : m.rows.length - i = m.rows.length - (i + 1) + 1 := by omega
      have tk : O.take (i + 1) = O.take i ++ [s] := by rw [List.take_succ, hs]; rfl
      have s15 := sH.trans s5
      refine w_cons (s_set sc44.nd 5 (ev_row (s := s) (ev_var 0 rfl (h1.ex (s1.trans s15))) (ev_ixL (d := nI s) (vv_var 3 rfl) (hLo.ex s5) (Ev.cast (ev_lenL fl (vv_var 4 rfl) (hLs.ex s5)) (show _ = D.int (i : Nat) by rw [lt_])) (atI_nat (by rw [List.getElem?_map, hs]; rfl))) hrw) fun v6 H6 s6 hv6 => ?_)
      have s56 := s5.trans s6
      refine w_one (s_if (et_isOut eo (ev_var 5 rfl hv6)) (fun q7 H7 s7 => ?_) fun q7 H7 s7 => ?_)
      · cases rw_ with
        | toss x y => cases q7
        | out j =>
        have s57 := s56.trans s7
        refine w_one (s_app (vv_var 4 rfl) (hLs.ex s57) (ev_var 5 rfl (hv6.ex s7)) (rowD_pl _) (pls_map (fun _ => rowD_pl _) _) (by rw [lt_]; omega) fun H8 m8 tx8 hL8 => ?_)
        have est : fstep m f s O = O := by simp [fstep, hrw]
        refine ⟨m.rows.length - (i + 1), by omega, O, i + 1, _, _, rfl, m8.same (sH.trans s57) hr1, (hDk.ex s57).mu npr m8 tx8 (mv_pl nI_pl _), (hLo.ex s57).mu nqr m8 tx8 (pls_map nI_pl _), ?_, fo, lt, ?_, rfl, ?_⟩
        · rw [tk, List.map_append]
          have : frow m f O s = .out j := by simp [frow, hrw]
          simp only [List.map_cons, List.map_nil, this]
          exact hL8
        · intro u hu x y e
          rw [tk] at hu
          rcases List.mem_append.mp hu with hu | hu
          · exact hsu u hu x y e
          · rw [List.mem_singleton.mp hu, hrw] at e; cases e
        · rw [← hgo, fuel]
          simp only [ffGo, hs, est]
      · cases rw_ with
        | out j => cases q7
        | toss x y =>
        obtain ⟨hx, hy⟩ := hc s hsr x y hrw
        have s57 := s56.trans s7
        have s17 := sH.trans s57
        have est : fstep m f s O = fvisit f y (fvisit f x O) := by simp [fstep, hrw]
        refine w_cons (s_for (wk_tup (ev_sl1 (d := .str "toss") (ds := [nI x, nI y]) (ev_var 5 rfl (hv6.ex s7))) rfl) fun H8 s8 => ⟨fun j σ' H' => ∃ (O' : List Nat) (x6 : Option V), σ' = [some vm, some v1, some (.ref p), some (.ref q), some (.ref r), some v6, x6] ∧ Same H1 H' ∧ Tx K H8 H' ∧ Dk K H' p (mv nI (tabN O' f)) ∧ LsI K H' q (O'.map nI) ∧ LsI K H' r ((O.take i).map fun s => rowD (frow m f O s)) ∧ FoI m f O' ∧ (∃ r, O' = O ++ r) ∧
            ((j = 0 ∧ O' = O) ∨ (j = 1 ∧ O' = fvisit f x O) ∨ (j = 2 ∧ O' = fvisit f y (fvisit f x O))), ⟨O, _, rfl, s17.trans s8, .refl, (hDk.ex s57).ex s8, (hLo.ex s57).ex s8, (hLs.ex s57).ex s8, fo, ⟨[], by simp⟩, .inl ⟨rfl, rfl⟩⟩, ?_, ?_, ?_⟩)
        · rintro j σ' H' ⟨_, _, _, _, tx, _⟩
          exact tx
        · rintro j d v σ' H9 H10 hj ⟨O', y6, rfl, s19, tx9, hD9, hLo9, hLs9, fo9, ⟨r9, er9⟩, hst⟩ s10 hv10
          obtain ⟨u, hu, hur, rfl⟩ : ∃ u, [x, y][j]? = some u ∧ u ∈ reached m ∧ d = nI u := by
            match j, hj with
            | 0, hj => exact ⟨x, rfl, hx, (Option.some.inj hj).symm⟩
            | 1, hj => exact ⟨y, rfl, hy, (Option.some.inj hj).symm⟩
          have e10 := hv10.intI
          subst e10
          refine g_name sc44.nd 6 ?_
          have hst2 : (j + 1 = 1 ∧ fvisit f u O' = fvisit f x O) ∨ (j + 1 = 2 ∧ fvisit f u O' = fvisit f y (fvisit f x O)) := by
            rcases hst with ⟨rfl, rfl⟩ | ⟨rfl, rfl⟩ | ⟨rfl, rfl⟩
            · obtain rfl := Option.some.inj hu
              exact .inl ⟨rfl, rfl⟩
            · obtain rfl := Option.some.inj hu
              exact .inr ⟨rfl, rfl⟩
            · cases hu
          have s110 := s19.trans s10
          have fov := fo9.visit hur
          obtain ⟨rv, erv⟩ := fvisit_ex f u O'
          have o9 := fo9.len
          have hlot : ∀ {H'' : Hp}, Same H1 H'' → Im K H'' v1 (tabD (reached m) f) := fun s => hv1.ex s
          refine w_one (s_if (EvT.cast (et_notin hr (n := f u) (ev_fol hr (ev_var 1 rfl (hlot s110)) (ev_var 6 rfl (.int _)) hur) (ev_var 2 rfl (hD9.ex s10).im)) (by rw [mv_hs, tabN_hs])) (fun q11 H11 s11 => ?_) fun q11 H11 s11 => w_nil ?_)
          · have hno : (O'.map f).contains (f u) = false := by simpa using q11
            have evi : fvisit f u O' = O' ++ [u] := by
              unfold fvisit
              rw [if_neg (by rw [hno]; simp)]
            refine w_cons (s_dput hr (n := f u) (d := nI O'.length) (Ev.cast (ev_lenL fl (vv_var 3 rfl) ((hLo9.ex s10).ex s11)) (by rw [List.length_map]; rfl)) (vv_var 2 rfl) ((hD9.ex s10).ex s11) (ev_fol hr (ev_var 1 rfl (hlot (s110.trans s11))) (ev_var 6 rfl (.int _)) hur) rfl (mv_pl nI_pl _) (by rw [mv_len]; simp [tabN]; omega) fun H12 m12 tx12 hD12 => ?_)
            rw [← mv_pt, pt_new (by rw [tabN_hs]; exact hno), ← tabN_snoc] at hD12
            have hLo12 := ((hLo9.ex s10).ex s11).mu (Ne.symm npq) m12 tx12 (pls_map nI_pl _)
            have hLs12 := ((hLs9.ex s10).ex s11).mu (Ne.symm npr) m12 tx12 (pls_map (fun _ => rowD_pl _) _)
            have s112 := m12.same (s110.trans s11) hp1
            refine w_one (s_app (vv_var 3 rfl) hLo12 (ev_var 6 rfl (.int _)) rfl (pls_map nI_pl _) (by rw [List.length_map]; omega) fun H13 m13 tx13 hLo13 => ?_)
            refine ⟨O' ++ [u], _, rfl, m13.same s112 hq1, ((tx9.trans (Same.tx (s10.trans s11))).trans tx12).trans tx13, hD12.mu npq m13 tx13 (mv_pl nI_pl _), ?_, hLs12.mu (Ne.symm nqr) m13 tx13 (pls_map (fun _ => rowD_pl _) _), by rw [← evi]; exact fov, ⟨r9 ++ [u], by rw [er9, List.append_assoc]⟩, ?_⟩
            · rw [List.map_append]
              exact hLo13
            · rw [← evi]; exact .inr hst2
          · have hyes : (O'.map f).contains (f u) = true := by simpa using q11
            have evi : fvisit f u O' = O' := by
              unfold fvisit
              rw [if_pos hyes]
            exact ⟨O', _, rfl, s110.trans s11, tx9.trans (Same.tx (s10.trans s11)), (hD9.ex s10).ex s11, (hLo9.ex s10).ex s11, (hLs9.ex s10).ex s11, fo9, ⟨r9, er9⟩, by rw [evi] at hst2; exact .inr hst2⟩
        · rintro σ' H9 ⟨O', y6, rfl, s19, tx9, hD9, hLo9, hLs9, fo9, ⟨r9, er9⟩, hst⟩
          have eO : O' = fvisit f y (fvisit f x O) := by
            rcases hst with ⟨e, _⟩ | ⟨e, _⟩ | ⟨_, e⟩
            · cases e
            · cases e
            · exact e
          have mx : f x ∈ O'.map f := by
            rw [eO]
            obtain ⟨r2, e2⟩ := fvisit_ex f y (fvisit f x O)
            rw [e2, List.map_append]
            exact List.mem_append_left _ (fvisit_mem f x O)
          have my : f y ∈ O'.map f := by rw [eO]; exact fvisit_mem f y _
          have hv6' : Im K H9 v6 (rowD (.toss x y)) := ((hv6.ex s7).ex s8).up tx9 (rowD_pl _)
          have hlot := hv1.ex s19
          have o9 := fo9.len
          refine w_one (s_app (d := rowD (.toss ((O'.map f).idxOf (f x)) ((O'.map f).idxOf (f y)))) (vv_var 4 rfl) hLs9 (ev_tup (ea_cons (ev_gs et) (ea_cons (ev_dget hr (n := f x) (d := nI ((O'.map f).idxOf (f x))) (ev_var 2 rfl hD9.im) (ev_fol hr (ev_var 1 rfl hlot) (ev_ixT (ds := [.str "toss", nI x, nI y]) (ev_var 5 rfl hv6') ev_int rfl) hx) (by rw [mv_lk, tabN_lk mx]; rfl)) (ea_one (ev_dget hr (n := f y) (d := nI ((O'.map f).idxOf (f y))) (ev_var 2 rfl hD9.im) (ev_fol hr (ev_var 1 rfl hlot) (ev_ixT (ds := [.str "toss", nI x, nI y]) (ev_var 5 rfl hv6') ev_int rfl) hy) (by rw [mv_lk, tabN_lk my]; rfl)))))) (rowD_pl _) (pls_map (fun _ => rowD_pl _) _) (by rw [lt_]; omega) fun H10 m10 tx10 hL10 => ?_)
          refine ⟨m.rows.length - (i + 1), by omega, O', i + 1, _, _, rfl, m10.same s19 hr1, hD9.mu npr m10 tx10 (mv_pl nI_pl _), hLo9.mu nqr m10 tx10 (pls_map nI_pl _), ?_, fo9, by rw [er9, List.length_append]; omega, ?_, rfl, ?_⟩
          · have tk2 : O'.take (i + 1) = O.take i ++ [s] := by rw [er9, List.take_append_of_le_length (by omega), tk]
            rw [tk2, List.map_append]
            have e1 : (O.take i).map (fun s => rowD (frow m f O' s)) = (O.take i).map fun s => rowD (frow m f O s) := by
              refine List.map_congr_left fun u hu => ?_
              congr 1
              unfold frow
              split
              · rename_i x' y' e
                obtain ⟨ax, ay⟩ := hsu u hu x' y' e
                rw [er9, List.map_append, idx_app ax, idx_app ay]
              · rfl
              · rfl
            have e2 : frow m f O' s = .toss ((O'.map f).idxOf (f x)) ((O'.map f).idxOf (f y)) := by simp [frow, hrw]
            rw [e1]
            simp only [List.map_cons, List.map_nil, e2]
            exact hL10
          · intro u hu x' y' e
            have tk2 : O'.take (i + 1) = O.take i ++ [s] := by rw [er9, List.take_append_of_le_length (by omega), tk]
            rw [tk2] at hu
            rcases List.mem_append.mp hu with hu | hu
            · obtain ⟨ax, ay⟩ := hsu u hu x' y' e
              rw [er9, List.map_append]
              exact ⟨List.mem_append_left _ ax, List.mem_append_left _ ay⟩
            · rw [List.mem_singleton.mp hu, hrw] at e
              obtain ⟨rfl, rfl⟩ := (by simpa using e : x = x' ∧ y = y')
              exact ⟨mx, my⟩
          · rw [← hgo, fuel]
            simp only [ffGo, hs, est, eO]
    · have ge : O.length ≤ i := by
        have := of_decide_eq_false tr
        omega
      have ei : i = O.length := by omega
      subst ei
      have eO : foldO m f = O := by
        rw [← hgo]
        cases m.rows.length - O.length with
        | zero => rfl
        | succ n => simp [ffGo]
      have s15 := sH.trans s5
      refine w_one (s_ret (ev_tup (ea_cons (ev_mn (ev_var 0 rfl (h1.ex (s1.trans s15)))) (ea_one (ev_tupleV ft (vv_var 4 rfl) (hLs.ex s5))))) fun v5 H6 s6 hv5 => k v5 H6 (s1.trans (s15.trans s6)) ?_)
      rw [List.take_length] at hv5
      unfold foldM
      rw [eO]
      have e2 : mD ⟨m.n, O.map (frow m f O)⟩ = .tup [.int (m.n : Nat), .tup (O.map fun s => rowD (frow m f O s))] := by
        unfold mD
        rw [List.map_map]; rfl
      rw [e2]
      exact hv5
end
end Dr
set_option Elab.async false
set_option linter.all false
set_option maxRecDepth 100000
set_option maxHeartbeats 4000000
set_option pp.deepTerms false
set_option pp.maxSteps 400
namespace Dr
open PySem PySem.Spec PyProof.Rows L2
/-! ### repr of data -/
mutual
/-- ints short -/
def D.si : D → Bool
  | .int i => decide (i.natAbs < 10 ^ 12)
  | .tup ds => D.sis ds
  | .lst ds => D.sis ds
  | _ => true
def D.sis : List D → Bool
  | [] => true
  | d :: ds => D.si d && D.sis ds
end
mutual
/-- how much there is -/
def D.bu : D → Nat
  | .str x => x.cps.size
  | .tup ds => D.bus ds
  | .lst ds => D.bus ds
  | _ => 0
def D.bus : List D → Nat
  | [] => 0
  | d :: ds => D.bu d + 1 + D.bus ds
end
mutual
theorem D.bu_eq : ∀ (n : Nat) (d : D), D.sh n d = true → d.py.bulk = D.bu d
  | _, .non, _ => rfl
  | _, .bl b, _ => rfl
  | _, .int i, _ => rfl
  | _, .str x, _ => rfl
  | n + 1, .tup ds, h => D.bus_eq n ds h
  | n + 1, .lst ds, h => D.bus_eq n ds h
  | 0, .tup ds, h => by cases h
  | 0, .lst ds, h => by cases h
  | 0, .dic _ _, h => by cases h
  | n + 1, .dic _ _, h => by cases h
  | 0, .key _, h => by cases h
  | n + 1, .key _, h => by cases h
theorem D.bus_eq : ∀ (n : Nat) (ds : List D), D.shs n ds = true → PyData.bulkAll (D.pys ds) = D.bus ds
  | _, [], _ => rfl
  | n, d :: ds, h => by
    have h' : (D.sh n d && D.shs n ds) = true := h
    rw [Bool.and_eq_true] at h'
    show PyData.bulk d.py + 1 + PyData.bulkAll (D.pys ds) = D.bu d + 1 + D.bus ds
    rw [D.bu_eq n d h'.1, D.bus_eq n ds h'.2]
end
mutual
theorem D.si_ok : ∀ (n : Nat) (d : D), D.sh n d = true → D.si d = true → d.py.intsShort 13 = true ∧ d.py.showable = true ∧ d.py.hasDict = false
  | _, .non, _, _ => ⟨rfl, rfl, rfl⟩
  | _, .bl b, _, _ => ⟨rfl, rfl, rfl⟩
  | _, .int i, _, h => by
    have h : i.natAbs < 10 ^ 12 := of_decide_eq_true h
    refine ⟨?_, ?_, rfl⟩
    · show decide _ = true
      exact decide_eq_true (PyData.shown_int_le h)
    · show decide _ = true
      refine decide_eq_true ?_
      have : i.natAbs.log2 < 64 := by
        by_cases h0 : i.natAbs = 0
        · rw [h0]; decide
        · rw [Nat.log2_lt h0]
          exact Nat.lt_trans h (by decide)
      omega
  | _, .str x, _, _ => ⟨rfl, rfl, rfl⟩
  | n + 1, .tup ds, h, hi => D.sis_ok n ds h hi
  | n + 1, .lst ds, h, hi => D.sis_ok n ds h hi
  | 0, .tup ds, h, _ => by cases h
  | 0, .lst ds, h, _ => by cases h
  | 0, .dic _ _, h, _ => by cases h
  | n + 1, .dic _ _, h, _ => by cases h
  | 0, .key _, h, _ => by cases h
  | n + 1, .key _, h, _ => by cases h
theorem D.sis_ok : ∀ (n : Nat) (ds : List D), D.shs n ds = true → D.sis ds = true → PyData.intsShortAll 13 (D.pys ds) = true ∧ PyData.showableAll (D.pys ds) = true ∧ PyData.hasDictAll (D.pys ds) = false
  | _, [], _, _ => ⟨rfl, rfl, rfl⟩
  | n, d :: ds, h, hi => by
    have h' : (D.sh n d && D.shs n ds) = true := h
    have hi' : (D.si d && D.sis ds) = true := hi
    rw [Bool.and_eq_true] at h' hi'
    obtain ⟨a1, a2, a3⟩ := D.si_ok n d h'.1 hi'.1
    obtain ⟨b1, b2, b3⟩ := D.sis_ok n ds h'.2 hi'.2
    refine ⟨?_, ?_, ?_⟩
    · show (d.py.intsShort 13 && PyData.intsShortAll 13 (D.pys ds)) = true
      rw [a1, b1]; rfl
    · show (d.py.showable && PyData.showableAll (D.pys ds)) = true
      rw [a2, b2]; rfl
    · show (d.py.hasDict || PyData.hasDictAll (D.pys ds)) = false
      rw [a3, b3]; rfl
end
/-- what may be shown -/
structure Shw (d : D) : Prop where
  sh : D.sh 50 d = true
  si : D.si d = true
  bu : D.bu d ≤ 2 ^ 20
theorem Shw.fits {d : D} (h : Shw d) : d.py.shown.length ≤ sizeLine := by
  obtain ⟨h1, h2⟩ := D.sh_ok 50 d h.sh
  obtain ⟨h3, _, _⟩ := D.si_ok 50 d h.sh h.si
  refine PyData.shown_fits_bulk (B := 13) (by decide) (by decide) (PyData.leavesShort_of_canLay0 13 _ h1 h3) ?_
  rw [D.bu_eq 50 d h.sh]
  exact h.bu
def rRepr (K : PySem.W.Frag) : List V → Hp → VK → Prop := fun xs H Q => ∃ (v : V) (d : D), xs = [v] ∧ Im K H v d ∧ Shw d ∧ (∀ i, d ≠ .int i) ∧ d ≠ .non ∧ Q (.str d.py.shown) H
theorem cr_repr {X : Cx} (hg : X.A.guards = some []) (hu : X.A.units + 64 < cLine) : CallR X (.builtin "repr") (rRepr X.K) := by
  intro pins s σ H xs us Q I r h
  obtain ⟨v, d, rfl, hI, hS, n1, n2, q⟩ := h
  obtain ⟨u, rfl, ru⟩ := Vals.one r
  obtain ⟨h1, h2⟩ := D.sh_ok 50 d hS.sh
  obtain ⟨_, h4, h5⟩ := D.si_ok 50 d hS.sh hS.si
  have hdp := Im.dp hS.sh hI
  have fits := hS.fits
  cases d with
  | non => exact absurd rfl n2
  | int i => exact absurd rfl (n1 i)
  | bl b =>
    cases hI
    obtain rfl : u = Value.bool b := ru
    refine P.repr_of_bool ?_
    refine ⟨.str _, H, I.tok _, ⟨s.toks, ?_⟩, q⟩
    cases b <;> rfl
  | str x =>
    cases hI
    obtain ⟨t, rfl⟩ := ru
    exact P.repr_of_str (hsz := fits) ⟨.str _, H, I.tok _, ⟨_, rfl⟩, q⟩
  | dic ks ds => cases hS.sh
  | key ks => cases hS.sh
  | tup ds =>
    obtain ⟨a, xs, rfl, _, _⟩ := hI.tupI
    obtain rfl : u = Value.ref a := ru
    obtain ⟨as, hrd⟩ := Dp.reads I _ _ _ hdp rfl
    refine repr_of_reads' (h₀ := s.heap) hrd h4 (fun z => by rw [h5] at z; cases z) hg (by omega) (fun b o e => e) (fun h' u tk hk => ⟨.str _, H, I.kept (t' := tk) hk, ⟨u, rfl⟩, q⟩) fits
  | lst ds =>
    obtain ⟨a, xs, rfl, _, _⟩ := hI.lstI
    obtain rfl : u = Value.ref a := ru
    obtain ⟨as, hrd⟩ := Dp.reads I _ _ _ hdp rfl
    refine repr_of_reads' (h₀ := s.heap) hrd h4 (fun z => by rw [h5] at z; cases z) hg (by omega) (fun b o e => e) (fun h' u tk hk => ⟨.str _, H, I.kept (t' := tk) hk, ⟨u, rfl⟩, q⟩) fits
section
variable {X : Cx} {σ : L2.St} {H : Hp} {e : Expr} {p pos : Pos} {k : Nat} {d : D}
theorem ev_repr (hr : Rm k X.A) (hm : X.mg "repr" = none) (ha : Ev X e σ H d) (hs : Shw d) (n1 : ∀ i, d ≠ .int i) (n2 : d ≠ .non) (hg : Gl X "repr" := by rfl) (hv : bootBuiltins "repr" = some (.builtin "repr") := by decide +kernel)
    (he : starEach [e] X.env = (false, eval e X.env) :: starEach [] X.env := by rfl) (hpl : (backTo pos (starEach [] X.env)).any (·.1) = false := by rfl) : Ev X (.Call (.Name "repr" p) [e] [] pos) σ H (.str d.py.shown) :=
  fun H1 s Q q => .of (pe_callB (cr_repr hr.gd (by have := hr.room.un; omega)) hg hm hv pa_W (by decide) (by decide) he hpl) (wa_cons (ha H1 s _ fun v H2 s2 hv => wa_nil ⟨v, d, rfl, hv, hs, n1, n2, q _ H2 s2 (.str _)⟩) he)
end
end Dr
set_option Elab.async false
set_option linter.all false
set_option maxRecDepth 100000
set_option maxHeartbeats 4000000
set_option pp.deepTerms false
set_option pp.maxSteps 400
namespace Dr
open PySem PySem.Spec PyProof.Rows L2
/-! ### the folded machine is one -/
theorem ffGo_inv {m : Mc} {f : Nat → Nat} (hc : Closed m) : ∀ (n i : Nat) (O : List Nat), FoI m f O → i ≤ O.length → (∀ s ∈ O.take i, ∀ x y, m.rows[s]? = some (.toss x y) → f x ∈ O.map f ∧ f y ∈ O.map f) → m.rows.length ≤ n + i →
    FoI m f (ffGo m f n i O) ∧ (∃ r, ffGo m f n i O = O ++ r) ∧ ∀ s ∈ ffGo m f n i O, ∀ x y, m.rows[s]? = some (.toss x y) → f x ∈ (ffGo m f n i O).map f ∧ f y ∈ (ffGo m f n i O).map f
  | 0, i, O, fo, hi, hs, hn => by
    have := fo.len
    have e : O.take i = O := List.take_of_length_le (by omega)
    rw [e] at hs
    exact ⟨fo, ⟨[], by simp [ffGo]⟩, hs⟩
  | n + 1, i, O, fo, hi, hs, hn => by
    unfold ffGo
    cases e : O[i]? with
    | none =>
      have e2 : O.take i = O := List.take_of_length_le (List.getElem?_eq_none_iff.mp e)
      rw [e2] at hs
      exact ⟨fo, ⟨[], by simp⟩, hs⟩
    | some s =>
      dsimp only
      have hsO : s ∈ O := List.mem_of_getElem? e
      have lt := (List.getElem?_eq_some_iff.mp e).1
      obtain ⟨fo2, r, er⟩ := fo.step hc (fo.re s hsO)
      have tk : (fstep m f s O).take (i + 1) = O.take i ++ [s] := by rw [er, List.take_append_of_le_length (by omega), List.take_succ, e]; rfl
      have hs2 : ∀ u ∈ (fstep m f s O).take (i + 1), ∀ x y, m.rows[u]? = some (.toss x y) → f x ∈ (fstep m f s O).map f ∧ f y ∈ (fstep m f s O).map f := by
        intro u hu x y eu
        rw [tk] at hu
        rcases List.mem_append.mp hu with hu | hu
        · obtain ⟨a1, a2⟩ := hs u hu x y eu
          rw [er, List.map_append]
          exact ⟨List.mem_append_left _ a1, List.mem_append_left _ a2⟩
        · rw [List.mem_singleton] at hu
          subst hu
          unfold fstep
          simp only [eu]
          obtain ⟨r2, e2⟩ := fvisit_ex f y (fvisit f x O)
          refine ⟨?_, fvisit_mem f y _⟩
          rw [e2, List.map_append]
          exact List.mem_append_left _ (fvisit_mem f x O)
      obtain ⟨q1, ⟨r3, q2⟩, q3⟩ := ffGo_inv hc n (i + 1) (fstep m f s O) fo2 (by rw [er, List.length_append]; omega) hs2 (by omega)
      exact ⟨q1, ⟨r ++ r3, by rw [q2, er, List.append_assoc]⟩, q3⟩
theorem foldO_inv {m : Mc} {z : Nat} (f : Nat → Nat) (ok : m.Ok z) (hc : Closed m) : FoI m f (foldO m f) ∧ (∃ r, foldO m f = [0] ++ r) ∧ ∀ s ∈ foldO m f, ∀ x y, m.rows[s]? = some (.toss x y) → f x ∈ (foldO m f).map f ∧ f y ∈ (foldO m f).map f :=
  ffGo_inv hc _ 0 [0] ⟨by simp, fun s hs => by rw [List.mem_singleton.mp hs]; exact reached_zero ok⟩ (Nat.zero_le _) (fun s hs => nomatch hs) (by omega)
theorem foldM_ok {m : Mc} {z : Nat} (f : Nat → Nat) (ok : m.Ok z) (hc : Closed m) : (foldM m f).Ok z := by
  obtain ⟨h1, ⟨r, h2⟩, h3⟩ := foldO_inv f ok hc
  refine ⟨ok.n1, ok.n8, ?_, ?_, ?_⟩
  · show 0 < ((foldO m f).map _).length
    rw [List.length_map, h2]; simp
  · show ((foldO m f).map _).length ≤ z
    rw [List.length_map]
    exact Nat.le_trans h1.len ok.le
  · intro rr hr
    obtain ⟨s, hs, rfl⟩ := List.mem_map.mp (show rr ∈ (foldO m f).map (frow m f (foldO m f)) from hr)
    obtain ⟨r0, e0, e1⟩ := ok.at (reached_lt (h1.re s hs))
    show Rw.ok m.n ((foldO m f).map _).length _
    rw [List.length_map]
    unfold frow
    rw [e0]
    cases r0 with
    | out i => exact e1
    | toss x y =>
      obtain ⟨hx, hy⟩ := h3 s hs x y e0
      have lx := List.idxOf_lt_length_of_mem hx
      have ly := List.idxOf_lt_length_of_mem hy
      rw [List.length_map] at lx ly
      exact ⟨lx, ly⟩
/-! ### what may be shown -/
theorem rowD_si {r : Rw} {n k : Nat} (h : r.ok n k) (hn : n ≤ 8) (hk : k ≤ 100000) : D.si (rowD r) = true := by
  cases r with
  | toss x y =>
    obtain ⟨h1, h2⟩ := h
    have e1 : (x : Int).natAbs < 10 ^ 12 := by omega
    have e2 : (y : Int).natAbs < 10 ^ 12 := by omega
    show (true && (decide _ && (decide _ && true))) = true
    rw [decide_eq_true e1, decide_eq_true e2]; rfl
  | out i =>
    have h1 : i < n := h
    have e1 : (i : Int).natAbs < 10 ^ 12 := by omega
    show (true && (decide _ && true)) = true
    rw [decide_eq_true e1]; rfl
theorem sis_all : ∀ {l : List D}, (∀ d ∈ l, D.si d = true) → D.sis l = true
  | [], _ => rfl
  | a :: l, h => by
    show (D.si a && D.sis l) = true
    rw [h a (List.mem_cons_self ..), sis_all fun d m => h d (List.mem_cons_of_mem _ m)]; rfl
theorem bus_le {b : Nat} : ∀ {l : List D}, (∀ d ∈ l, D.bu d ≤ b) → D.bus l ≤ (b + 1) * l.length
  | [], _ => by simp [D.bus]
  | a :: l, h => by
    have h1 := h a (List.mem_cons_self ..)
    have h2 := bus_le (b := b) fun d m => h d (List.mem_cons_of_mem _ m)
    show D.bu a + 1 + D.bus l ≤ _
    rw [List.length_cons, Nat.mul_succ]
    omega
theorem rowD_bu (r : Rw) : D.bu (rowD r) ≤ 7 := by
  cases r with
  | toss x y => exact Nat.le_of_ble_eq_true rfl
  | out i => exact Nat.le_of_ble_eq_true rfl
theorem shs_all {n : Nat} : ∀ {l : List D}, (∀ d ∈ l, D.sh n d = true) → D.shs n l = true
  | [], _ => rfl
  | a :: l, h => by
    show (D.sh n a && D.shs n l) = true
    rw [h a (List.mem_cons_self ..), shs_all fun d m => h d (List.mem_cons_of_mem _ m)]; rfl
mutual
theorem D.sh_up : ∀ {a b : Nat} (d : D), a ≤ b → D.sh a d = true → D.sh b d = true
  | 0, 0, d, _, h => h
  | 0, b + 1, .non, _, _ => rfl
  | 0, b + 1, .bl _, _, _ => rfl
  | 0, b + 1, .int _, _, _ => rfl
  | 0, b + 1, .str x, _, h => h
  | 0, b + 1, .tup _, _, h => by cases h
  | 0, b + 1, .lst _, _, h => by cases h
  | 0, b + 1, .dic _ _, _, h => by cases h
  | 0, b + 1, .key _, _, h => by cases h
  | a + 1, 0, _, h, _ => absurd h (by omega)
  | a + 1, b + 1, .non, _, _ => rfl
  | a + 1, b + 1, .bl _, _, _ => rfl
  | a + 1, b + 1, .int _, _, _ => rfl
  | a + 1, b + 1, .str x, _, h => h
  | a + 1, b + 1, .tup ds, hab, h => D.shs_up (a := a) (b := b) ds (by omega) h
  | a + 1, b + 1, .lst ds, hab, h => D.shs_up (a := a) (b := b) ds (by omega) h
  | a + 1, b + 1, .dic _ _, _, h => by cases h
  | a + 1, b + 1, .key _, _, h => by cases h
theorem D.shs_up : ∀ {a b : Nat} (ds : List D), a ≤ b → D.shs a ds = true → D.shs b ds = true
  | _, _, [], _, _ => rfl
  | a, b, d :: ds, hab, h => by
    have h' : (D.sh a d && D.shs a ds) = true := h
    rw [Bool.and_eq_true] at h'
    show (D.sh b d && D.shs b ds) = true
    rw [D.sh_up d hab h'.1, D.shs_up ds hab h'.2]; rfl
end
theorem mD_bu (m : Mc) : D.bu (mD m) ≤ 8 * m.rows.length + 2 := by
  have h := bus_le (b := 7) (l := m.rows.map rowD) (fun d hd => by
    obtain ⟨r, _, rfl⟩ := List.mem_map.mp hd
    exact rowD_bu r)
  rw [List.length_map] at h
  show 0 + 1 + (D.bus (m.rows.map rowD) + 1 + 0) ≤ _
  omega
theorem mD_si {m : Mc} {z : Nat} (ok : m.Ok z) (hz : z ≤ 100000) : D.si (mD m) = true := by
  have n8 := ok.n8
  have le := ok.le
  show (decide _ && (D.sis (m.rows.map rowD) && true)) = true
  rw [decide_eq_true (by omega), sis_all fun d hd => ?_]
  · rfl
  · obtain ⟨r, hr, rfl⟩ := List.mem_map.mp hd
    exact rowD_si (ok.row r hr) ok.n8 (by omega)
theorem mD_shw {m : Mc} {z : Nat} (ok : m.Ok z) (hz : z ≤ 100000) : Shw (mD m) := by
  refine ⟨D.sh_up _ (by decide) (mD_sh m), mD_si ok hz, ?_⟩
  have := mD_bu m
  have := ok.le
  omega
section
variable {X : Cx} {σ : L2.St} {H : Hp} {a b e : Expr} {p pos : Pos} {k : Nat} {d : D}
theorem EvW.cast {t t' : Bool} (h : EvW X e σ H t) (q : t = t') : EvW X e σ H t' := q ▸ h
/-- a and .., whatever the rest gives -/
theorem we_and {t : Bool} {rest : List Expr} {Q : VK} (h1 : Ev X a σ H (.bl t)) (h2 : t = true → ∀ H1, Same H H1 → WE X (.BoolOp .And (b :: rest) pos) σ H1 Q) (h3 : t = false → ∀ H1, Same H H1 → Q (.bl false) H1) : WE X (.BoolOp .And (a :: b :: rest) pos) σ H Q :=
  .of (pe_and pe_W pe_W) (h1.bl H (Same.refl _) _ fun H2 s2 => ⟨t, rfl, by
    cases t with
    | true => exact h2 rfl H2 s2
    | false => exact h3 rfl H2 s2⟩)
theorem we_one {op : BoolOp} {Q : VK} (h : WE X a σ H Q) : WE X (.BoolOp op [a] pos) σ H Q := .of (pe_one pe_W) h
def D.isN : D → Bool
  | .non => true
  | _ => false
theorem im_isN {K : PySem.W.Frag} {v : V} {d : D} (h : Im K H v d) : decide (v = .non) = d.isN := by cases h <;> rfl
theorem et_isN {j : Nat} {p2 : Pos} (h : Ev X e σ H d) : EvT X (.Compare e [.Is] [.Constant .none j p2] pos) σ H d.isN := fun H1 s Q q =>
  .of (pt_cmp (pc_isN pe_W)) (h H1 s _ fun v H2 s2 hv => ⟨_, rfl, by rw [im_isN hv]; exact q H2 s2⟩)
theorem ev_isN {j : Nat} {p2 : Pos} (h : Ev X e σ H d) : Ev X (.Compare e [.Is] [.Constant .none j p2] pos) σ H (.bl d.isN) := fun H1 s Q q =>
  .of (pe_cmp (pc_isN pe_W)) (h H1 s _ fun v H2 s2 hv => by rw [im_isN hv]; exact q _ H2 s2 (.bl _))
end
open Classical in
def preExact (ds : List D) (d : D) : Prop := ∃ a b : D, ds = [a, b] ∧ Shw a ∧ Shw b ∧ (∀ i, a ≠ .int i) ∧ a ≠ .non ∧ (∀ i, b ≠ .int i) ∧ b ≠ .non ∧ d = .bl (decide (a.py.shown = b.py.shown))
def preTwo1 (ds : List D) : Prop := ∃ m m' : Mc, ds = [mD m, mD m'] ∧ m.Ok 100 ∧ m'.Ok 100 ∧ m.n = m'.n
def postJudge (ds : List D) (d : D) : Prop := ∀ m m' : Mc, ds = [mD m, mD m'] → match parting m m' with
  | none => ∃ f, LotsP m f ∧ d = .tup [.str "same", mD (foldM m f)]
  | some bs => d = .tup [.str "bits", btD bs]
inductive Thing where
  | bits (bs : List Bool) | same (m : Mc)
def thD : Thing → D
  | .bits bs => .tup [.str "bits", btD bs]
  | .same m => .tup [.str "same", mD m]
def Thing.Ok : Thing → Prop
  | .bits bs => bs.length ≤ 100000
  | .same m => m.Ok 100
def preHold (ds : List D) : Prop := ∃ (m m' : Mc) (t : Thing), ds = [mD m, mD m', thD t] ∧ m.Ok 100 ∧ m'.Ok 100 ∧ m.n = m'.n ∧ t.Ok
def postHold (ds : List D) (d : D) : Prop := ∀ (m m' : Mc) (t : Thing), ds = [mD m, mD m', thD t] → match t with
  | .bits bs => d = .bl (!decide (runM m 0 bs 0 = runM m' 0 bs 0))
  | .same m3 => match parting m m' with
    | some _ => d = .bl false
    | none => ∃ f, LotsP m f ∧ d = .bl (decide ((mD m3).py.shown = (mD (foldM m f)).py.shown))
theorem runD_inj {a b : Option (Nat × Nat)} (h : runD a = runD b) : a = b := by
  cases a with
  | none =>
    cases b with
    | none => rfl
    | some q => cases h
  | some p =>
    cases b with
    | none => cases h
    | some q =>
      simp only [runD, D.tup.injEq, List.cons.injEq, D.int.injEq, and_true] at h
      have h1 : p.1 = q.1 := by omega
      have h2 : p.2 = q.2 := by omega
      rw [Prod.ext h1 h2]
theorem bit_inj : ∀ a b, bit a = bit b → a = b := by
  intro a b h
  cases a <;> cases b <;> first | rfl | (exfalso; simp [bit, b1] at h)
theorem btD_inj {a b : List Bool} (h : btD a = btD b) : a = b := by
  simp only [btD, D.tup.injEq] at h
  exact map_inj bit_inj h
theorem thD_inj {a b : Thing} (h : thD a = thD b) : a = b := by
  cases a with
  | bits x =>
    cases b with
    | bits y =>
      simp only [thD, D.tup.injEq, List.cons.injEq, and_true, true_and] at h
      rw [btD_inj h]
    | same y =>
      simp only [thD, D.tup.injEq, List.cons.injEq, D.str.injEq] at h
      exact absurd h.1 (by decide)
  | same x =>
    cases b with
    | bits y =>
      simp only [thD, D.tup.injEq, List.cons.injEq, D.str.injEq] at h
      exact absurd h.1 (by decide)
    | same y =>
      simp only [thD, D.tup.injEq, List.cons.injEq, and_true, true_and] at h
      rw [mD_inj h]
section
variable {P : Program} {w : World} {K : PySem.W.Frag} {mg : Str → Option Value} {base : Heap}
theorem sc10 : FnScope ["thing", "due"] ["thing", "due"] (defScope (top 10)) := ⟨rfl, rfl, rfl, by decide +kernel, rfl, by decide +kernel, by decide +kernel⟩
theorem pr_exact (T : Txt K mg) : Pr P w K mg base "is_exactly" 1 ["thing", "due"] (spD K preExact) := by
  refine mk_pr T 4 rfl sc10 (fun _ _ _ _ _ _ us hl => match us, hl with | [_, _], _ => rfl) (fun vs H Q E h => ?_) (fun cdv A outer s H vs Q E hr h => ?_)
  · obtain ⟨ds, d, ⟨m, m', rfl, _⟩, hI, _⟩ := h
    exact hI.len
  · obtain ⟨ds, d, ⟨a, b, rfl, sa, sb, a1, a2, b1, b2, rfl⟩, hI, k⟩ := h
    cases hI with
    | cons h1 hI =>
    cases hI with
    | cons h2 hI =>
    cases hI
    have f1 : mg "repr" = none := T.free _ (by decide +kernel)
    refine w_one (s_ret (Ev.cast (ev_eqS (ev_repr hr f1 (ev_var 0 rfl h1) sa a1 a2) (ev_repr hr f1 (ev_var 1 rfl h2) sb b1 b2)) ?_) k)
    first
    | rfl
    | (congr 1
       by_cases e : a.py.shown = b.py.shown
       · rw [decide_eq_true e, decide_eq_true e]
       · rw [decide_eq_false e, decide_eq_false e])
theorem sc45 : FnScope ["machine"] ["machine"] (defScope (top 45)) := ⟨rfl, rfl, rfl, by decide +kernel, rfl, by decide +kernel, by decide +kernel⟩
theorem pr_folded (T : Txt K mg) (N : Pr P w K mg base "need_machine" 5 ["machine"] (spD K preNeed)) (F : Pr P w K mg base "raw_folded" 4 ["machine"] (spN K preLots postFold)) : Pr P w K mg base "folded" 6 ["machine"] (spN K preLots postFold) := by
  refine mk_pr T 30 rfl sc45 (fun _ _ _ _ _ _ us hl => match us, hl with | [_], _ => rfl) (fun vs H Q E h => ?_) (fun cdv A outer s H vs Q E hr h => ?_)
  · obtain ⟨ds, ⟨m, rfl, _⟩, hI, _⟩ := h
    exact hI.len
  · obtain ⟨ds, ⟨m, rfl, ok⟩, hI, k⟩ := h
    cases hI with
    | cons h1 hI =>
    cases hI
    refine w_cons (s_expr (ev_call N hr (ea_one (ev_var 0 rfl h1)) ⟨m, rfl, ok.up (by omega), rfl⟩) fun H1 s1 => ?_)
    exact w_one (s_retW (we_callN F (hr.mono (by decide)) (ea_one (ev_var 0 rfl (h1.ex s1))) ⟨m, rfl, ok⟩ fun d v H2 hpo s2 hv => k d v H2 hpo (s1.trans s2) hv))
theorem sc48 : FnScope ["one", "other", "bits"] ["one", "other"] (defScope (top 48)) := ⟨rfl, rfl, rfl, by decide +kernel, rfl, by decide +kernel, by decide +kernel⟩
theorem optB_isN (o : Option (List Bool)) : (optB o).isN = o.isNone := by cases o <;> rfl
theorem we_ifExp {X : Cx} {σ : L2.St} {H : Hp} {a b c : Expr} {pos : Pos} {t : Bool} {Q : VK} (h : EvT X c σ H t) (h1 : t = true → ∀ H1, Same H H1 → WE X a σ H1 Q) (h2 : t = false → ∀ H1, Same H H1 → WE X b σ H1 Q) : WE X (.IfExp c a b pos) σ H Q :=
  .of (pe_ifExp pt_W pe_W pe_W) (h H (Same.refl _) _ fun H2 s2 => by
    cases t with
    | true => exact h1 rfl H2 s2
    | false => exact h2 rfl H2 s2)
theorem prB_judge (T : Txt K mg) (N : Pr P w K mg base "need_two" 6 ["one", "other"] (spD K preTwo)) (B : Pr P w K mg base "parting_bits" 1 ["one", "other"] (spD K prePart)) (F : Pr P w K mg base "raw_folded" 4 ["machine"] (spN K preLots postFold)) : PrB P w K mg base "judge_runs" 48 7 ["one", "other"] (spN K preTwo1 postJudge) := by
  refine mk_prB T 33 rfl sc48 (fun _ _ _ _ _ _ us hl => match us, hl with | [_, _], _ => rfl) (fun vs H Q E h => ?_) (fun cdv A outer s H vs Q E hr h => ?_)
  · obtain ⟨ds, ⟨m, m', rfl, _⟩, hI, _⟩ := h
    exact hI.len
  · obtain ⟨ds, ⟨m, m', rfl, ok, ok', hn⟩, hI, k0⟩ := h
    have k : ∀ d v H', (match parting m m' with
        | none => ∃ f, LotsP m f ∧ d = .tup [.str "same", mD (foldM m f)]
        | some bs => d = .tup [.str "bits", btD bs]) → Same H H' → Im K H' v d → Q v H' := fun d v H' hd => k0 d v H' fun a b e => by
      simp only [List.cons.injEq, and_true] at e
      rw [← mD_inj e.1, ← mD_inj e.2]
      exact hd
    cases hI with
    | cons h1 hI =>
    cases hI with
    | cons h2 hI =>
    cases hI
    refine w_cons (s_expr (ev_call N hr (ea_cons (ev_var 0 rfl h1) (ea_one (ev_var 1 rfl h2))) ⟨m, m', rfl, ok.up (by omega), ok'.up (by omega), hn, rfl⟩) fun H1 s1 => ?_)
    refine w_cons (s_set sc48.nd 2 (ev_call B (hr.mono (by decide)) (ea_cons (ev_var 0 rfl (h1.ex s1)) (ea_one (ev_var 1 rfl (h2.ex s1)))) ⟨m, m', rfl, ok, ok', rfl⟩) fun v2 H2 s2 hv2 => ?_)
    have s02 := s1.trans s2
    cases e : parting m m' with
    | none =>
      rw [e] at k hv2
      refine w_one (s_retW (we_ifExp (t := true) (et_isN (ev_var 2 rfl hv2)) (fun _ H3 s3 => ?_) fun q => nomatch q))
      refine .of (pe_tup pa_W) (wa_cons (we_ev ev_str fun v4 H4 s4 hv4 => wa_cons (we_callN F (hr.mono (by decide)) (ea_one (ev_var 0 rfl ((h1.ex s02).ex (s3.trans s4)))) ⟨m, rfl, ok.up (by omega)⟩ fun d v5 H5 hpo s5 hv5 => wa_nil ⟨by exact Nat.le_of_ble_eq_true rfl, fun p hp => ?_⟩)))
      obtain ⟨f, hf, rfl⟩ := hpo m rfl
      exact k _ _ _ ⟨f, hf, rfl⟩ (((s02.trans (s3.trans s4)).trans s5).trans (Same.new hp)) (.tup (.of upd_same) (.cons ((hv4.ex s5).ex (Same.new hp)) (.cons (hv5.ex (Same.new hp)) .nil)))
    | some bs =>
      rw [e] at k hv2
      refine w_one (s_retW (we_ifExp (t := false) (et_isN (ev_var 2 rfl hv2)) (fun q => nomatch q) fun _ H3 s3 => ?_))
      exact we_ev (ev_tup (ea_cons ev_str (ea_one (ev_var 2 rfl (hv2.ex s3))))) fun v H4 s4 hv => k _ v H4 rfl (s02.trans (s3.trans s4)) hv
theorem sc49 : FnScope ["one", "other", "thing"] ["one", "other", "thing"] (defScope (top 49)) := ⟨rfl, rfl, rfl, by decide +kernel, rfl, by decide +kernel, by decide +kernel⟩
theorem runD_sh (o : Option (Nat × Nat)) : D.sh 1 (runD o) = true := by cases o <;> rfl
theorem runD_nb (o : Option (Nat × Nat)) : (runD o).nb = true := by cases o <;> rfl
theorem prB_hold (T : Txt K mg) (hcl : ∀ m : Mc, m.Ok 1000 → Closed m) (N : Pr P w K mg base "need_two" 6 ["one", "other"] (spD K preTwo)) (B : Pr P w K mg base "parting_bits" 1 ["one", "other"] (spD K prePart)) (F : Pr P w K mg base "raw_folded" 4 ["machine"] (spN K preLots postFold))
    (Wd : Pr P w K mg base "is_word" 1 ["thing", "word"] (spD K preWord)) (Ex : Pr P w K mg base "is_exactly" 1 ["thing", "due"] (spD K preExact)) (Bv : Pr P w K mg base "are_bits_value" 4 ["thing"] (spD K preBits)) (Rf : Pr P w K mg base "run_from" 1 ["machine", "first", "bits"] (spD K preRunF)) : PrB P w K mg base "runs_hold" 49 7 ["one", "other", "thing"] (spN K preHold postHold) := by
  refine mk_prB T 34 rfl sc49 (fun _ _ _ _ _ _ us hl => match us, hl with | [_, _, _], _ => rfl) (fun vs H Q E h => ?_) (fun cdv A outer s H vs Q E hr h => ?_)
  · obtain ⟨ds, ⟨m, m', t, rfl, _⟩, hI, _⟩ := h
    exact hI.len
  · obtain ⟨ds, ⟨m, m', t, rfl, ok, ok', hn, ht⟩, hI, k0⟩ := h
    cases hI with
    | cons h1 hI =>
    cases hI with
    | cons h2 hI =>
    cases hI with
    | cons h3 hI =>
    cases hI
    have fl : mg "len" = none := T.free _ (by decide +kernel)
    have hr1 := hr.mono (show 1 ≤ 6 by decide)
    refine w_cons (s_expr (ev_call N hr (ea_cons (ev_var 0 rfl h1) (ea_one (ev_var 1 rfl h2))) ⟨m, m', rfl, ok.up (by omega), ok'.up (by omega), hn, rfl⟩) fun H1 s1 => ?_)
    have g1 := h1.ex s1
    have g2 := h2.ex s1
    have g3 := h3.ex s1
    cases t with
    | bits bs =>
      have k : ∀ v H', Same H H' → Im K H' v (.bl (!decide (runM m 0 bs 0 = runM m' 0 bs 0))) → Q v H' := fun v H' => k0 _ v H' fun a b t e => by
        simp only [List.cons.injEq, and_true] at e
        rw [← mD_inj e.1, ← mD_inj e.2.1, ← thD_inj e.2.2]
      refine w_cons (s_if (t := false) (EvT.cast (EvW.t (ew_and (u := false) (et_val (ev_call Wd hr1 (ea_cons (ev_var 2 rfl g3) (ea_one ev_str)) ⟨"bits", "same", [btD bs], rfl, rfl⟩)) fun q => absurd q (by decide))) (by decide)) (fun q => nomatch q) fun _ H2 s2 => w_nil ?_)
      have g32 := g3.ex s2
      refine w_cons (s_if (t := false) (EvT.cast (EvW.t (ew_or (et_not (et_val (ev_call Wd hr1 (ea_cons (ev_var 2 rfl g32) (ea_one ev_str)) ⟨"bits", "bits", [btD bs], rfl, rfl⟩))) fun _ => ew_or (et_neI (ev_lenT fl (ea_one (ev_var 2 rfl g32))) ev_int) fun _ => ew_or1 (et_not (et_val (ev_call Bv (hr.mono (by decide)) (ea_one (ev_ixT (ds := [.str "bits", btD bs]) (ev_var 2 rfl g32) ev_int rfl)) ⟨bs.map b1, by rw [btD_ints], by rw [List.length_map]; exact ht, rfl⟩))))) (by rw [bt_all]; simp)) (fun q => nomatch q) fun _ H3 s3 => w_nil ?_)
      have s13 := s2.trans s3
      have run : ∀ {e : Expr} {mm : Mc}, True := trivial
      refine w_one (s_ret (Ev.cast (ev_neD hr (ev_call Rf hr1 (ea_cons (ev_var 0 rfl (g1.ex s13)) (ea_cons ev_int (ea_one (ev_ixT (ds := [.str "bits", btD bs]) (ev_var 2 rfl (g3.ex s13)) ev_int rfl)))) ⟨m, 0, bs, rfl, ok.up (by omega), ok.pos, rfl⟩) (ev_call Rf hr1 (ea_cons (ev_var 1 rfl (g2.ex s13)) (ea_cons ev_int (ea_one (ev_ixT (ds := [.str "bits", btD bs]) (ev_var 2 rfl (g3.ex s13)) ev_int rfl)))) ⟨m', 0, bs, rfl, ok'.up (by omega), ok'.pos, rfl⟩) (runD_sh _) (runD_sh _) (runD_nb _) (runD_nb _)) ?_) fun v H4 s4 hv => k v H4 (s1.trans (s13.trans s4)) hv)
      classical
      congr 2
      by_cases e : runM m 0 bs 0 = runM m' 0 bs 0
      · rw [decide_eq_true e, decide_eq_true (by rw [e])]
      · rw [decide_eq_false e, decide_eq_false fun z => e (runD_inj z)]
    | same m3 =>
      have ok3 : m3.Ok 100 := ht
      have k : ∀ d v H', (match parting m m' with
          | some _ => d = .bl false
          | none => ∃ f, LotsP m f ∧ d = .bl (decide ((mD m3).py.shown = (mD (foldM m f)).py.shown))) → Same H H' → Im K H' v d → Q v H' := fun d v H' hd => k0 d v H' fun a b t e => by
        simp only [List.cons.injEq, and_true] at e
        rw [← mD_inj e.1, ← mD_inj e.2.1, ← thD_inj e.2.2]
        exact hd
      refine w_cons (s_if (t := true) (EvT.cast (EvW.t (ew_and (u := true) (et_val (ev_call Wd hr1 (ea_cons (ev_var 2 rfl g3) (ea_one ev_str)) ⟨"same", "same", [mD m3], rfl, rfl⟩)) fun _ => EvW.cast (ew_and1 (et_eqI (ev_lenT fl (ea_one (ev_var 2 rfl g3))) ev_int)) rfl)) (by decide)) (fun _ H2 s2 => ?_) fun q => nomatch q)
      have s02 := s1.trans s2
      refine w_one (s_retW ?_)
      refine we_and (ev_isN (ev_call B hr1 (ea_cons (ev_var 0 rfl (g1.ex s2)) (ea_one (ev_var 1 rfl (g2.ex s2)))) ⟨m, m', rfl, ok, ok', rfl⟩)) (fun q H3 s3 => ?_) (fun q H3 s3 => ?_)
      · have e : parting m m' = none := by
          cases e : parting m m' with
          | none => rfl
          | some bs => rw [e] at q; cases q
        rw [e] at k
        have g13 := g1.ex (s2.trans s3)
        have g33 := g3.ex (s2.trans s3)
        refine we_one (we_call Ex hr1 (wa_cons (we_ev (ev_ixT (ds := [.str "same", mD m3]) (ev_var 2 rfl g33) ev_int rfl) fun v4 H4 s4 hv4 => wa_cons (we_callN F (hr.mono (by decide)) (ea_one (ev_var 0 rfl (g13.ex s4))) ⟨m, rfl, ok.up (by omega)⟩ fun d v5 H5 hpo s5 hv5 => wa_nil ?_))))
        obtain ⟨f, hf, rfl⟩ := hpo m rfl
        have okf := foldM_ok f ok (hcl m (ok.up (by omega)))
        refine ⟨_, _, ⟨mD m3, mD (foldM m f), rfl, mD_shw ok3 (by omega), mD_shw okf (by omega), (fun i z => nomatch z), (fun z => nomatch z), (fun i z => nomatch z), (fun z => nomatch z), rfl⟩, .cons (hv4.ex s5) (.cons hv5 .nil), fun v H6 s6 hv => k _ v H6 ⟨f, hf, ?_⟩ ((s02.trans s3).trans ((s4.trans s5).trans s6)) hv⟩
        first
        | rfl
        | (congr 1
           by_cases e : (mD m3).py.shown = (mD (foldM m f)).py.shown
           · rw [decide_eq_true e, decide_eq_true e]
           · rw [decide_eq_false e, decide_eq_false e])
      · obtain ⟨bs, e⟩ : ∃ bs, parting m m' = some bs := by
          cases e : parting m m' with
          | none => rw [e] at q; cases q
          | some bs => exact ⟨bs, rfl⟩
        rw [e] at k
        exact k _ _ H3 rfl (s02.trans s3) (.bl _)
end
end Dr
set_option Elab.async false
set_option linter.all false
set_option maxRecDepth 100000
set_option maxHeartbeats 4000000
set_option pp.deepTerms false
set_option pp.maxSteps 400
namespace Dr
open PySem PySem.Spec PyProof.Rows L2
/-! ### enumerate(zip(l, l2)): nobody lets the zip's own tuple go -/
/-- all that a zip of two lists has in the heap; m: the tuple that it remembers, g: whether it was seen out -/
structure ZAll (z TI TO i1 i2 l1 l2 : Addr) (xs ys : Array Value) (m g c1 c2 : Value) (k1 k2 : Nat) (h : Heap) : Prop where
  own : h.get? z = some { cls := .type "zip", dict := none, data := .fields #[m, g, .bool false, .ref TI, .ref TO], slots := #[] }
  src : IsPair h TI (.ref i1) (.ref i2)
  box : IsPair h TO c1 c2
  one : h.IsListIter i1 l1 k1
  two : h.IsListIter i2 l2 k2
  la : h.IsList l1 xs
  lb : h.IsList l2 ys
/-- nothing but these four changed, and nothing is new -/
structure ZFew (z TO i1 i2 : Addr) (h h' : Heap) : Prop where
  size : h'.objs.size = h.objs.size
  old : ∀ c, c ≠ z ∧ c ≠ TO ∧ c ≠ i1 ∧ c ≠ i2 → ∀ o, h.get? c = some o → h'.get? c = some o
section
variable {z TI TO i1 i2 l1 l2 : Addr} {xs ys : Array Value} {m g c1 c2 : Value} {k1 k2 : Nat} {h h' h'' : Heap}
theorem ZFew.then (a : ZFew z TO i1 i2 h h') (b : ZFew z TO i1 i2 h' h'') : ZFew z TO i1 i2 h h'' :=
  ⟨b.size.trans a.size, fun c n o e => b.old c n o (a.old c n o e)⟩
theorem ZFew.by {p : Addr} (hp : p = z ∨ p = TO ∨ p = i1 ∨ p = i2) (b : Heap.SameBut p h h') : ZFew z TO i1 i2 h h' :=
  ⟨b.1, fun c n o e => b.extBut c o (fun q => by subst q; obtain ⟨n1, n2, n3, n4⟩ := n; rcases hp with q | q | q | q <;> contradiction) e⟩
section
variable (D : ZipApart z TI TO i1 i2 l1 l2) (a : ZAll z TI TO i1 i2 l1 l2 xs ys m g c1 c2 k1 k2 h)
include D a
theorem ZAll.note {m' g' : Value} (b : Heap.SameBut z h h') (e : h'.get? z = some { cls := .type "zip", dict := none, data := .fields #[m', g', .bool false, .ref TI, .ref TO], slots := #[] }) :
    ZAll z TI TO i1 i2 l1 l2 xs ys m' g' c1 c2 k1 k2 h' :=
  let k := b.extBut
  ⟨e, k _ _ D.TIz a.src, k _ _ D.TOz a.box, a.one.extBut k D.i1z, a.two.extBut k D.i2z, a.la.extBut k D.l1z, a.lb.extBut k D.l2z⟩
theorem ZAll.fill {d1 d2 : Value} (b : Heap.SameBut TO h h') (e : IsPair h' TO d1 d2) : ZAll z TI TO i1 i2 l1 l2 xs ys m g d1 d2 k1 k2 h' :=
  let k := b.extBut
  ⟨k _ _ D.TOz.symm a.own, k _ _ D.TITO a.src, e, a.one.extBut k D.TOi1.symm, a.two.extBut k D.TOi2.symm, a.la.extBut k D.l1TO, a.lb.extBut k D.l2TO⟩
theorem ZAll.left {j : Nat} (b : Heap.SameBut i1 h h') (e : h'.IsListIter i1 l1 j) : ZAll z TI TO i1 i2 l1 l2 xs ys m g c1 c2 j k2 h' :=
  let k := b.extBut
  ⟨k _ _ D.i1z.symm a.own, k _ _ D.TIi1 a.src, k _ _ D.TOi1 a.box, e, a.two.extBut k D.i12.symm, a.la.extBut k D.l1i1, a.lb.extBut k D.l2i1⟩
theorem ZAll.right {j : Nat} (b : Heap.SameBut i2 h h') (e : h'.IsListIter i2 l2 j) : ZAll z TI TO i1 i2 l1 l2 xs ys m g c1 c2 k1 j h' :=
  let k := b.extBut
  ⟨k _ _ D.i2z.symm a.own, k _ _ D.TIi2 a.src, k _ _ D.TOi2 a.box, a.one.extBut k D.i12, e, a.la.extBut k D.l1i2, a.lb.extBut k D.l2i2⟩
end
/-- something new -/
theorem ZAll.push (a : ZAll z TI TO i1 i2 l1 l2 xs ys m g c1 c2 k1 k2 h) (o : Obj) : ZAll z TI TO i1 i2 l1 l2 xs ys m g c1 c2 k1 k2 (h.push o) :=
  have k : ∀ {c : Addr} {q : Obj}, h.get? c = some q → (h.push o).get? c = some q := fun e => Heap.get?_push_of_some _ e
  ⟨k a.own, k a.src, k a.box, a.one.at fun _ => k, a.two.at fun _ => k, a.la.push _, a.lb.push _⟩
end
section
variable {prog : Program} {w : World} {A : Around} {E : Value → Shared → Prop} {s : Shared} {z TI TO i1 i2 l1 l2 : Addr} {xs ys : Array Value} {m g c1 c2 : Value} {k1 k2 : Nat}
/-- what the zip remembers: nothing, or a tuple, out or gone -/
def ZMem (m : Value) : Prop := m = .none ∨ ∃ T : Addr, m = rawInt T
/-- how a turn of a zip ends: a new pair, or the end -/
structure ZTurn (z TI TO i1 i2 l1 l2 : Addr) (xs ys : Array Value) (k1 k2 : Nat) (s : Shared) (Q E : Value → Shared → Prop) : Prop where
  pair : ∀ x y h', xs[k1]? = some x → ys[k2]? = some y → (∃ m g c1 c2, ZMem m ∧ ZAll z TI TO i1 i2 l1 l2 xs ys m (.bool g) c1 c2 (k1 + 1) (k2 + 1) h') →
    IsPair h' s.heap.objs.size x y → h'.objs.size = s.heap.objs.size + 1 → (∀ c, c ≠ z ∧ c ≠ TO ∧ c ≠ i1 ∧ c ≠ i2 → ∀ o, s.heap.get? c = some o → h'.get? c = some o) → Q (.ref s.heap.objs.size) { s with heap := h' }
  over : ∀ h' e, xs[k1]? = none ∨ ys[k2]? = none → (∀ c, c ≠ z ∧ c ≠ TO ∧ c ≠ i1 ∧ c ≠ i2 → ∀ o, s.heap.get? c = some o → h'.get? c = some o) → (∃ o, h'.get? e = some o ∧ o.cls = .type "StopIteration") → E (.ref e) { s with heap := h' }
/-- the zip's tuple is its own: nothing remembered, or what is remembered is gone -/
theorem zip_own (D : ZipApart z TI TO i1 i2 l1 l2) (a : ZAll z TI TO i1 i2 l1 l2 xs ys m g c1 c2 k1 k2 s.heap) (hm : m = .none ∨ ∃ T : Addr, m = rawInt T ∧ s.heap.get? T = none) {Q : Bool → Shared → Prop} (q : Q true s) :
    wpAny (model prog w) A (Builtin.SmallTypes.ownedTupleIsFree (.ref z)) Q E s := by
  unfold Builtin.SmallTypes.ownedTupleIsFree
  refine wpAny_bind (wpAny_field a.own rfl rfl ?_)
  rcases hm with e | ⟨T, e, gone⟩
  · subst e; exact wpAny_pure q
  · subst e
    have look : ∀ {R : Option Obj → Shared → Prop}, R none s → wpAny (model prog w) A (loadIfAlive ((T : Int).toNat)) R E s := fun {R} r _ _ _ => by
      show R (s.heap.get? ((T : Int).toNat)) s
      rw [Int.toNat_natCast, gone]; exact r
    exact wpAny_bind (look (wpAny_pure q))
/-- an end on the way: the zip forgets its tuple and what was raised goes on -/
theorem zip_quit {i e : Addr} {h1 h2 : Heap} {R : Unit → Shared → Prop} {E' : Value → Shared → Prop} (nz : z ≠ i) (few : ZFew z TO i1 i2 s.heap h1) (hi : i = z ∨ i = TO ∨ i = i1 ∨ i = i2) (own : h1.get? z = some { cls := .type "zip", dict := none, data := .fields #[m, g, .bool false, .ref TI, .ref TO], slots := #[] })
    (ex : Heap.ExtBut i h1 h2) (se : ∃ o, h2.get? e = some o ∧ o.cls = .type "StopIteration")
    (k : ∀ h3, (∀ c, c ≠ z ∧ c ≠ TO ∧ c ≠ i1 ∧ c ≠ i2 → ∀ o, s.heap.get? c = some o → h3.get? c = some o) → (∃ o, h3.get? e = some o ∧ o.cls = .type "StopIteration") → R () { s with heap := h3 }) :
    wpAny (model prog w) A (setField (.ref z) 0 .none) R E' { s with heap := h2 } := by
  have own2 := ex z _ nz own
  refine wpAny_setField_rec own2 (by simp) fun h3 _ b => ?_
  obtain ⟨o, ho, hc⟩ := se
  have ne : e ≠ z := fun q => by
    subst q
    rw [own2] at ho
    obtain rfl := Option.some.inj ho
    exact absurd hc (by simp)
  refine k h3 (fun c n q hq => b.extBut c q n.1 (ex c q (fun u => ?_) (few.old c n q hq))) ⟨o, b.extBut e o ne ho, hc⟩
  subst u
  obtain ⟨n1, n2, n3, n4⟩ := n
  rcases hi with q | q | q | q <;> contradiction
theorem zip_turn {Q : Value → Shared → Prop} (hh : A.handled = none) (D : ZipApart z TI TO i1 i2 l1 l2) (a : ZAll z TI TO i1 i2 l1 l2 xs ys m g c1 c2 k1 k2 s.heap) (hg : ∃ f, g = .bool f) (hm : m = .none ∨ ∃ T : Addr, m = rawInt T ∧ s.heap.get? T = none)
    (t : ZTurn z TI TO i1 i2 l1 l2 xs ys k1 k2 s Q E) :
    wpAny (model prog w) A (Builtin.«zip.__next__» ⟨[.ref z], []⟩) (fun fin s' => ∃ v, fin = .done (.ret v) ∧ Q v s') E s := by
  obtain ⟨f, rfl⟩ := hg
  refine wpAny_bind (wpAny_of_eq (a := (Value.ref z, [])) rfl (wpAny_bind (wpAny_field a.own rfl rfl (wpAny_bind (wpAny_field a.own rfl rfl (wpAny_bind (wpAny_seqItems a.src rfl (wpAny_bind (zip_own D a hm ?_)))))))))
  refine wpAny_bind (wpAny_rule (wpAny_bind (wpAny_field a.own rfl rfl (wpAny_bind (wpAny_setField_rec a.own (by simp) fun h1 e1 b1 => ?_)))))
  have a1 := a.note (m' := .ellipsis) (g' := .bool f) D b1 e1
  have few1 : ZFew z TO i1 i2 s.heap h1 := .by (.inl rfl) b1
  clear e1 b1
  refine wpAny_bind ?_
  simp only [List.zipIdx_cons, List.zipIdx_nil, List.forIn_cons, List.forIn_nil]
  -- the first place
  refine wpAny_bind (wpAny_bind (wpAny_onRaise ?_))
  change wpAny (model prog w) A (Builtin.SmallTypes.nextOf (.ref i1) >>= fun v => pure (some v)) _ _ _
  rcases hx : xs[k1]? with _ | x
  · refine wpAny_bind (wpAny_nextOf_list_end hh a1.one a1.la hx fun h2 e ex se => ?_)
    exact zip_quit (s := s) D.i1z.symm few1 (.inr (.inr (.inl rfl))) a1.own ex se fun h3 => t.over h3 e (.inl hx)
  refine wpAny_bind (wpAny_nextOf_list_item a1.one a1.la hx fun h2 e2 b2 => wpAny_pure ?_)
  have a2 := a1.left D b2 e2
  refine wpAny_bind (wpAny_seqItems a2.box rfl (wpAny_bind (wpAny_updateSeq_pair a2.box fun h3 e3 b3 => wpAny_bind (wpAny_letGo (wpAny_pure ?_)))))
  have a3 : ZAll z TI TO i1 i2 l1 l2 xs ys .ellipsis (.bool f) x c2 (k1 + 1) k2 h3 := a2.fill D b3 e3
  have few3 := few1.then ((ZFew.by (.inr (.inr (.inl rfl))) b2).then (.by (.inr (.inl rfl)) b3))
  clear a1 a2 few1 e2 b2 e3 b3
  -- the second
  refine wpAny_bind (wpAny_bind (wpAny_onRaise ?_))
  change wpAny (model prog w) A (Builtin.SmallTypes.nextOf (.ref i2) >>= fun v => pure (some v)) _ _ _
  rcases hy : ys[k2]? with _ | y
  · refine wpAny_bind (wpAny_nextOf_list_end hh a3.two a3.lb hy fun h4 e ex se => ?_)
    exact zip_quit (s := s) D.i2z.symm few3 (.inr (.inr (.inr rfl))) a3.own ex se fun h5 => t.over h5 e (.inr hy)
  refine wpAny_bind (wpAny_nextOf_list_item a3.two a3.lb hy fun h4 e4 b4 => wpAny_pure ?_)
  have a4 := a3.right D b4 e4
  refine wpAny_bind (wpAny_seqItems a4.box rfl (wpAny_bind (wpAny_updateSeq_pair a4.box fun h5 e5 b5 => wpAny_bind (wpAny_letGo (wpAny_pure (wpAny_pure ?_))))))
  have a5 : ZAll z TI TO i1 i2 l1 l2 xs ys .ellipsis (.bool f) x y (k1 + 1) (k2 + 1) h5 := a4.fill D b5 e5
  have few5 := few3.then ((ZFew.by (.inr (.inr (.inr rfl))) b4).then (.by (.inr (.inl rfl)) b5))
  clear a3 a4 few3 e4 b4 e5 b5
  -- a new pair of them goes out
  refine wpAny_bind (wpAny_seqItems a5.box rfl (wpAny_bind (wpAny_newTuple (wpAny_bind ?_))))
  have a6 := a5.push { cls := .type "tuple", data := .seq #[x, y] }
  unfold Builtin.SmallTypes.ownedTupleHandOut
  refine wpAny_bind (wpAny_setField_rec a6.own (by simp) fun h7 e7 b7 => ?_)
  have a7 := a6.note (m' := rawInt h5.objs.size) (g' := .bool f) D b7 e7
  refine wpAny_setField_rec a7.own (by simp) fun h8 e8 b8 => wpAny_pure ⟨_, rfl, ?_⟩
  have a8 := a7.note (m' := rawInt h5.objs.size) (g' := .bool false) D b8 e8
  have up : ∀ c, c ≠ z → ∀ o, h5.get? c = some o → h8.get? c = some o := fun c n o q => b8.extBut c o n (b7.extBut c o n (Heap.get?_push_of_some _ q))
  have nz : h5.objs.size ≠ z := Nat.ne_of_gt (Heap.lt_size a5.own)
  have out : IsPair h8 h5.objs.size x y := b8.extBut _ _ nz (b7.extBut _ _ nz (Heap.get?_push_size _ rfl))
  have sz : h8.objs.size = h5.objs.size + 1 := by rw [b8.1, b7.1, Heap.size_push]
  have e5 := few5.size
  have q := t.pair x y h8 hx hy ⟨_, _, _, _, .inr ⟨_, rfl⟩, a8⟩ (e5 ▸ out) (e5 ▸ sz) fun c n o k => up c n.1 o (few5.old c n o k)
  show Q (.ref h5.objs.size) _
  rw [e5]; exact q
/-- the zip asked from inside: its tuple its own, or still out -/
theorem zip_ask {Q : Value → Shared → Prop} (hh : A.in1.handled = none) (D : ZipApart z TI TO i1 i2 l1 l2) (a : ∃ m g c1 c2, ZMem m ∧ ZAll z TI TO i1 i2 l1 l2 xs ys m (.bool g) c1 c2 k1 k2 s.heap)
    (t : ZTurn z TI TO i1 i2 l1 l2 xs ys k1 k2 s Q E) : wpAny (model prog w) A (Builtin.SmallTypes.nextOf (.ref z)) Q E s := by
  obtain ⟨m, f, c1, c2, hm, a⟩ := a
  have kind : s.TypeIs (.ref z) "zip" := ⟨_, a.own, rfl⟩
  have t' : ZTurn z TI TO i1 i2 l1 l2 xs ys k1 k2 s (fun v s' => wpAny (model prog w) A (pure v) Q E s') E := ⟨fun x y h' e1 e2 q1 q2 q3 q4 => wpAny_pure (t.pair x y h' e1 e2 q1 q2 q3 q4), t.over⟩
  unfold Builtin.SmallTypes.nextOf
  refine wpAny_bind (wpAny_callSpecial?_slot (name := Str.ofString "__next__") kind F.slot_zip_next (wpAny_call_entry F.slot_zip_next kind F.entry_zip_next ?_ (F.args_zip_next_1 _)))
  rcases hm with e | ⟨T, e⟩
  · exact zip_turn hh D a ⟨f, rfl⟩ (.inl e) t'
  rcases alive : s.heap.get? T with _ | o
  · exact zip_turn hh D a ⟨f, rfl⟩ (.inr ⟨T, e, alive⟩) t'
  subst e
  rcases hx : xs[k1]? with _ | x
  · exact zip_next_end_held hh D a.own alive a.src a.one a.two a.la a.lb (.inl hx) fun h' e k se => t'.over h' e (.inl hx) (fun c n o => k c o n.1 n.2.2.1 n.2.2.2) se
  rcases hy : ys[k2]? with _ | y
  · exact zip_next_end_held hh D a.own alive a.src a.one a.two a.la a.lb (.inr hy) fun h' e k se => t'.over h' e (.inr hy) (fun c n o => k c o n.1 n.2.2.1 n.2.2.2) se
  refine zip_next_item_held D a.own alive a.src a.one a.two a.la a.lb hx hy fun h' q1 q2 q3 q4 q5 k => t'.pair x y h' hx hy ⟨_, _, c1, c2, .inr ⟨T, rfl⟩, q1, ?_, ?_, q2, q3, ?_, ?_⟩ q4 q5 fun c n o => k c o n.1 n.2.2.1 n.2.2.2
  · exact k _ _ D.TIz D.TIi1 D.TIi2 a.src
  · exact k _ _ D.TOz D.TOi1 D.TOi2 a.box
  · exact a.la.at fun o => k l1 o D.l1z D.l1i1 D.l1i2
  · exact a.lb.at fun o => k l2 o D.l2z D.l2i1 D.l2i2
end
/-- where the zip stands, the lists apart -/
def ZAt (z TI TO i1 i2 a b : Addr) (i : Nat) (h : Heap) : Prop :=
  (∃ m g, ZMem m ∧ h.get? z = some { cls := .type "zip", dict := none, data := .fields #[m, .bool g, .bool false, .ref TI, .ref TO], slots := #[] }) ∧ IsPair h TI (.ref i1) (.ref i2) ∧ (∃ c1 c2, IsPair h TO c1 c2) ∧ h.IsListIter i1 a i ∧ h.IsListIter i2 b i
theorem ZAt.all {z TI TO i1 i2 a b : Addr} {i : Nat} {h : Heap} {xs ys : Array Value} (t : ZAt z TI TO i1 i2 a b i h) (p : h.IsList a xs) (q : h.IsList b ys) :
    ∃ m g c1 c2, ZMem m ∧ ZAll z TI TO i1 i2 a b xs ys m (.bool g) c1 c2 i i h :=
  let ⟨⟨m, g, hm, e⟩, src, ⟨c1, c2, box⟩, one, two⟩ := t
  ⟨m, g, c1, c2, hm, e, src, box, one, two, p, q⟩
theorem inn_zip {P : Program} {w : World} {K : PySem.W.Frag} {z TI TO i1 i2 a b : Addr} (D : ZipApart z TI TO i1 i2 a b) : Inn P w K (Itz K a b) [z, TI, TO, i1, i2] z (ZAt z TI TO i1 i2 a b) where
  there := by
    rintro i h b ⟨⟨m, g, _, e⟩, src, ⟨c1, c2, box⟩, ⟨o1, e1, _, d1⟩, ⟨o2, e2, _, d2⟩⟩ hb
    simp only [List.mem_cons, List.not_mem_nil, or_false] at hb
    rcases hb with q | q | q | q | q <;> subst q
    · exact ⟨_, e, fun v q => nomatch q⟩
    · exact ⟨_, src, fun v q => nomatch q⟩
    · exact ⟨_, box, fun v q => nomatch q⟩
    · exact ⟨_, e1, fun v q => by simp [d1] at q⟩
    · exact ⟨_, e2, fun v q => by simp [d2] at q⟩
  stays := fun ⟨⟨m, g, hm, e⟩, src, ⟨c1, c2, box⟩, one, two⟩ k =>
    ⟨⟨m, g, hm, k _ _ (by simp) e⟩, k _ _ (by simp) src, ⟨c1, c2, k _ _ (by simp) box⟩, one.at fun o => k _ o (by simp), two.at fun o => k _ o (by simp)⟩
  item := by
    rintro X rfl rfl rfl hc i pins s σ H I hf t ⟨xs, ys, x, y, sx, sy, ex, ey⟩ E
    obtain ⟨its, rv, p, _⟩ := I.list sx
    obtain ⟨its2, rv2, p2, _⟩ := I.list sy
    refine zip_ask (I.ok.hd hc) D (t.all p.isList p2.isList) ⟨fun u u2 h' hu hu2 st pr sz k => ?_, fun h' e en _ _ => ?_⟩
    · obtain ⟨m, g, c1, c2, hm, a'⟩ := st
      obtain ⟨v, hv, rel⟩ := rv.get ex
      obtain ⟨v2, hv2, rel2⟩ := rv2.get ey
      obtain rfl : v = u := Option.some.inj (hv.symm.trans (by simpa using hu))
      obtain rfl : v2 = u2 := Option.some.inj (hv2.symm.trans (by simpa using hu2))
      have few : ∀ c o, c ∉ [z, TI, TO, i1, i2] → s.heap.get? c = some o → h'.get? c = some o := fun c o n q => by
        simp only [List.mem_cons, List.not_mem_nil, or_false, not_or] at n
        exact k c ⟨n.1, n.2.2.1, n.2.2.2⟩ o q
      have new : ObjOk X.prog X.w (upd H s.heap.objs.size (.tup [x, y])) h' s.heap.objs.size (.tup [x, y]) := ⟨(by decide : 2 ≤ sizeLine), [v, v2], .cons rel (.cons rel2 .nil), _, pr, rfl, _, rfl⟩
      refine ⟨.ref s.heap.objs.size, _, I.turnedNew (t' := s.toks) few hf (Nat.le_refl _) new, rfl, ⟨_, x, y, rfl, I.hok.fresh (Nat.le_refl _), rfl, fun l q => ?_, fun l q => ?_⟩, ⟨⟨m, g, hm, a'.own⟩, a'.src, ⟨c1, c2, a'.box⟩, a'.one, a'.two⟩, fun c n o q => few c o n q, fun c lt q => by rw [upd_ne (Nat.ne_of_lt lt)]; exact q⟩
      · rw [I.list_inj q sx]; exact ex
      · rw [I.list_inj q sy]; exact ey
    · have e1 := rv.length
      have e2 := rv2.length
      have b1 := (List.getElem?_eq_some_iff.mp ex).1
      have b2 := (List.getElem?_eq_some_iff.mp ey).1
      simp only [List.getElem?_toArray, List.getElem?_eq_none_iff] at en
      omega
  done := by
    rintro X rfl rfl rfl hc i pins s σ H I hf t ⟨xs, ys, sx, sy, short⟩ Q E q
    obtain ⟨its, rv, p, _⟩ := I.list sx
    obtain ⟨its2, rv2, p2, _⟩ := I.list sy
    have e1 := rv.length
    have e2 := rv2.length
    refine zip_ask (I.ok.hd hc) D (t.all p.isList p2.isList) ⟨fun u u2 h' hu hu2 _ _ _ _ => ?_, fun h' e _ k se => q e _ se (I.turnedL (t' := s.toks) (ch := [z, TI, TO, i1, i2]) (fun c o n => ?_) hf)⟩
    · have b1 := (Array.getElem?_eq_some_iff.mp hu).1
      have b2 := (Array.getElem?_eq_some_iff.mp hu2).1
      simp only [List.size_toArray] at b1 b2
      omega
    · simp only [List.mem_cons, List.not_mem_nil, or_false, not_or] at n
      exact k c ⟨n.1, n.2.2.1, n.2.2.2⟩ o
def iEnumZ (K : PySem.W.Frag) (ta : TA) : TI := fun σ H R => ta σ H fun vs H1 => ∃ a b xs ys, vs = [.ref a, .ref b] ∧ SqL K H1 a xs ∧ SqL K H1 b ys ∧ R (ItEn (Itz K a b)) H1
theorem pi_enumZ {X : Cx} {e e2 : Expr} {ta : TA} {p pos p2 pos2 tpos : Pos} {elts : List Expr} {kk : Nat} (hg : Gl X "enumerate") (hm : X.mg "enumerate" = none) (hg2 : Gl X "zip") (hm2 : X.mg "zip" = none) (ha : PA X [e, e2] ta)
    (hs0 : starEach [.Call (.Name "zip" p2) [e, e2] [] pos2] X.env = [(false, eval (.Call (.Name "zip" p2) [e, e2] [] pos2) X.env)] := by rfl)
    (hs : starEach [e, e2] X.env = (false, eval e X.env) :: starEach [e2] X.env := by rfl) (hpl : (backTo pos2 (starEach [e2] X.env)).any (·.1) = false := by rfl) :
    PI X (.Tuple elts kk tpos) (.Call (.Name "enumerate" p) [.Call (.Name "zip" p2) [e, e2] [] pos2] [] pos) (iEnumZ X.K ta) where
  run pins s σ H R I h := by
    refine Call_ (ld_blt I hg hm boot_enumerate (PyProof.Rows.callWith_type1 ?_ hs0 rfl))
    rw [hs0]
    refine Calls.spliced_cons (Call_ (ld_blt I hg2 hm2 PyProof.Rows.boot_zip (PyProof.Rows.callWith_type1 (thn (ha.run pos2 pins s σ H _ I h) fun us s1 ⟨vs, H1, I1, rs, a, b, xs, ys, ev, sx, sy, r⟩ => ?_) hs hpl)))
    subst ev
    obtain ⟨u, u2, rfl, ru, ru2⟩ := rs.two
    obtain rfl : u = Value.ref a := ru
    obtain rfl : u2 = Value.ref b := ru2
    obtain ⟨its, _, at1, _⟩ := I1.list sx
    obtain ⟨its2, _, at2, _⟩ := I1.list sy
    refine call_zip_2 at1.isList at2.isList fun h hz src box one two sz old => Calls.spliced_nil ?_
    -- a zip is its own iterator
    replace sz : h.objs.size = s1.heap.objs.size + 5 := sz
    replace old : ∀ c o, s1.heap.get? c = some o → h.get? c = some o := old
    have B : Bgn (.ref (s1.heap.objs.size + 4)) (fun h => IsZip h (s1.heap.objs.size + 4) (s1.heap.objs.size + 2) (s1.heap.objs.size + 3) .none) id fun _ => .ref (s1.heap.objs.size + 4) := fun prog w A E s Q ok q => wpAny_pyIter_zip ok q
    refine en_call B hz rfl fun h' en old' => wpAny_pyIter_enum en (pie_en (s1 := s1) (h := h) I1 old (by omega) (inn_zip (PySem.W.ktu_apart s1.heap.objs.size a b at1.lt at2.lt)) ⟨⟨_, _, .inl rfl, hz⟩, src, ⟨_, _, box⟩, one, two⟩ (fun c m => ?_) en old' r)
    show s1.heap.objs.size ≤ c ∧ c < h.objs.size
    simp only [List.mem_cons, List.not_mem_nil, or_false] at m
    have near : ∀ j : Nat, j < 5 → s1.heap.objs.size ≤ s1.heap.objs.size + j ∧ s1.heap.objs.size + j < s1.heap.objs.size + 5 := fun j lt => ⟨Nat.le_add_right _ j, Nat.add_lt_add_left lt _⟩
    rw [sz]
    rcases m with q | q | q | q | q <;> subst q
    · exact near 4 (by decide)
    · exact near 2 (by decide)
    · exact near 3 (by decide)
    · exact near 0 (by decide)
    · exact near 1 (by decide)
section
variable {X : Cx} {σ : L2.St} {H H' : Hp} {e e2 : Expr} {ds ds2 : List D} {p pos tpos p2 pos2 : Pos}
theorem zpD_get {i : Nat} {d1 d2 : D} (h1 : ds[i]? = some d1) (h2 : ds2[i]? = some d2) : (zpD ds ds2)[i]? = some (.tup [d1, d2]) := by
  unfold zpD
  rw [List.getElem?_zipWith, h1, h2]
theorem wk_enumZ {elts : List Expr} {kk : Nat} (hm : X.mg "enumerate" = none) (hm2 : X.mg "zip" = none) (h : Ev X e σ H (.lst ds)) (h2 : Ev X e2 σ H (.lst ds2)) (hpl : D.pls ds = true) (hpl2 : D.pls ds2 = true) (hl : ds.length = ds2.length) (hg : Gl X "enumerate" := by rfl) (hg2 : Gl X "zip" := by rfl)
    (hs0 : starEach [.Call (.Name "zip" p2) [e, e2] [] pos2] X.env = [(false, eval (.Call (.Name "zip" p2) [e, e2] [] pos2) X.env)] := by rfl)
    (hs : starEach [e, e2] X.env = (false, eval e X.env) :: starEach [e2] X.env := by rfl) (hs2 : starEach [e2] X.env = (false, eval e2 X.env) :: starEach [] X.env := by rfl) (hs3 : (backTo pos2 (starEach [e2] X.env)).any (·.1) = false := by rfl) :
    Wk X (.Tuple elts kk tpos) (.Call (.Name "enumerate" p) [.Call (.Name "zip" p2) [e, e2] [] pos2] [] pos) σ H (enD (zpD ds ds2)) (fun H1 H2 => Tx X.K H1 H2 ∧ LsX H1 H2) := fun H1 s R r => by
  refine ⟨_, pi_enumZ hg hm hg2 hm2 pa_W hs0 hs hs3, ea_cons h (ea_one h2 hs2) hs H1 s _ fun vs H2 s2 hvs => ?_⟩
  obtain _ | ⟨hv, _ | ⟨hv2, _ | _⟩⟩ := hvs
  obtain ⟨a, xs, rfl, at1, im⟩ := hv.lstI
  obtain ⟨b, ys, rfl, at2, im2⟩ := hv2.lstI
  have n1 : (enD (zpD ds ds2)).length = xs.length := by rw [enD_len, im.len]; simp [zpD, hl]
  have n2 : xs.length = ys.length := by rw [im.len, im2.len, hl]
  refine ⟨a, b, xs, ys, rfl, .inl at1, .inl at2, r _ H2 (fun H' => Tx X.K H2 H' ∧ LsX H2 H') s2 ⟨fun i H' hi t => ?_, fun H' t => ⟨xs, ys, .inl (t.2 _ _ at1), .inl (t.2 _ _ at2), .inl (Nat.le_of_eq n1.symm)⟩, ?_⟩ fun _ q => q⟩
  · rw [n1] at hi
    exact ⟨xs, ys, _, _, .inl (t.2 _ _ at1), .inl (t.2 _ _ at2), List.getElem?_eq_getElem hi, List.getElem?_eq_getElem (n2 ▸ hi)⟩
  · rintro i H' v H3 hi t ⟨T, pv, H4, rfl, ⟨T2, x, y, rfl, hT2, rfl, y1, y2⟩, hT, rfl⟩
    obtain ⟨d1, e1, f1⟩ := im.atV (y1 xs (.inl (t.2 _ _ at1)))
    obtain ⟨d2, e2, f2⟩ := im2.atV (y2 ys (.inl (t.2 _ _ at2)))
    have g1 := (f1.up t.1 (pls_mem hpl d1 (List.mem_of_getElem? e1))).ex (Same.new (o := .tup [x, y]) hT2)
    have g2 := (f2.up t.1 (pls_mem hpl2 d2 (List.mem_of_getElem? e2))).ex (Same.new (o := .tup [x, y]) hT2)
    have pair : Im X.K (upd H' T2 (.tup [x, y])) (.ref T2) (.tup [d1, d2]) := .tup (.of upd_same) (.cons g1 (.cons g2 .nil))
    exact ⟨(Same.new hT2).trans (Same.new hT), .tup [.int (i : Nat), .tup [d1, d2]], by rw [enD_get, zpD_get e1 e2]; rfl, .tup (.of upd_same) (.cons (.int _) (.cons (pair.ex (Same.new hT)) .nil))⟩
variable {d1 d2 d3 : D}
/-- i, (a, b) as a target -/
theorem g_nest {x y z : Str} {px py pz pq : Pos} {k k2 : Nat} {v : V} {Q : L2.St → Hp → Prop} (nd : X.N.Nodup) (i j l : Nat) (hv : Im X.K H v (.tup [d1, .tup [d2, d3]])) (h : ∀ v1 v2 v3, Im X.K H v1 d1 → Im X.K H v2 d2 → Im X.K H v3 d3 → Q (((σ.set i (some v1)).set j (some v2)).set l (some v3)) H)
    (hi : X.N[i]? = some x := by rfl) (hj : X.N[j]? = some y := by rfl) (hl : X.N[l]? = some z := by rfl) (hx : Loc X.env.scope x := by first | exact .inl rfl | exact .inr rfl) (hy : Loc X.env.scope y := by first | exact .inl rfl | exact .inr rfl) (hz : Loc X.env.scope z := by first | exact .inl rfl | exact .inr rfl)
    (hf : X.fn x = true ∨ X.env.scope.names.lookup x = some .local := by first | exact .inl rfl | exact .inr rfl) (hf2 : X.fn y = true ∨ X.env.scope.names.lookup y = some .local := by first | exact .inl rfl | exact .inr rfl) (hf3 : X.fn z = true ∨ X.env.scope.names.lookup z = some .local := by first | exact .inl rfl | exact .inr rfl) (hc : X.calm = true := by rfl)
    (hs : (assignEach [.Name x px, .Tuple [.Name y py, .Name z pz] k2 pq] X.env).map (·.2) = assign (.Name x px) X.env :: (assignEach [.Tuple [.Name y py, .Name z pz] k2 pq] X.env).map (·.2) := by rfl)
    (hs1 : (assignEach [.Tuple [.Name y py, .Name z pz] k2 pq] X.env).map (·.2) = assign (.Tuple [.Name y py, .Name z pz] k2 pq) X.env :: (assignEach [] X.env).map (·.2) := by rfl)
    (hs3 : (assignEach [.Name y py, .Name z pz] X.env).map (·.2) = assign (.Name y py) X.env :: (assignEach [.Name z pz] X.env).map (·.2) := by rfl) (hs2 : (assignEach [.Name z pz] X.env).map (·.2) = assign (.Name z pz) X.env :: (assignEach [] X.env).map (·.2) := by rfl)
    (hn : (assignEach [.Name x px, .Tuple [.Name y py, .Name z pz] k2 pq] X.env).length = 2 := by rfl) (hst : (assignEach [.Name x px, .Tuple [.Name y py, .Name z pz] k2 pq] X.env).findIdx? (·.1) = none := by rfl)
    (hn2 : (assignEach [.Name y py, .Name z pz] X.env).length = 2 := by rfl) (hst2 : (assignEach [.Name y py, .Name z pz] X.env).findIdx? (·.1) = none := by rfl) : WG X (.Tuple [.Name x px, .Tuple [.Name y py, .Name z pz] k2 pq] k pos) v σ H Q := by
  obtain ⟨a, xs, rfl, h1, h2⟩ := hv.tupI
  cases h2 with
  | cons p1 h2 =>
  cases h2 with
  | cons p2 h2 =>
  cases h2
  obtain ⟨b, ys, rfl, h3, h4⟩ := p2.tupI
  cases h4 with
  | cons p3 h4 =>
  cases h4 with
  | cons p4 h4 =>
  cases h4
  exact ⟨_, pg_tup hc (pgs_cons (pg_name nd hi hx hf) (pgs_cons (pg_tup hc (pgs_cons (pg_name nd hj hy hf2) (pgs_cons (pg_name nd hl hz hf3) pgs_nil hs2) hs3) hn2 hst2) pgs_nil hs1) hs) hn hst,
    a, _, rfl, h1, rfl, _, _, rfl, _, _, rfl, ⟨b, _, rfl, h3, rfl, _, _, rfl, _, _, rfl, rfl, rfl, h _ _ _ p1 p3 p4⟩⟩
end
end Dr
set_option Elab.async false
set_option linter.all false
set_option maxRecDepth 100000
set_option maxHeartbeats 4000000
set_option pp.deepTerms false
set_option pp.maxSteps 400
namespace Dr
open PySem PySem.Spec PyProof.Rows L2
/-! ### unlike_length, where the lengths agree -/
def lvK (m : Mc) : Nat → List (Nat × Nat)
  | 0 => [(0, 1)]
  | k + 1 => nextL m (lvK m k)
theorem lvK_ok {m : Mc} {z : Nat} (ok : m.Ok z) : ∀ k, LvOk m (lvK m k)
  | 0 => ⟨fun p hp => by rw [List.mem_singleton.mp hp]; exact ok.pos, by simp [lvK]⟩
  | k + 1 => nextL_ok ok _
def preUnl (ds : List D) (d : D) : Prop := ∃ (m m' : Mc), ds = [mD m, mD m'] ∧ m.Ok 1000 ∧ m'.Ok 1000 ∧ (∀ k, k < m.rows.length + m'.rows.length → endL m (lvK m k) = endL m' (lvK m' k)) ∧ d = .non
section
variable {P : Program} {w : World} {K : PySem.W.Frag} {mg : Str → Option Value} {base : Heap}
theorem sc50 : FnScope ["one", "other", "near", "far", "k", "i", "many", "others"] ["one", "other"] (defScope (top 50)) := ⟨rfl, rfl, rfl, by decide +kernel, rfl, by decide +kernel, by decide +kernel⟩
theorem pr_unl (T : Txt K mg) : Pr P w K mg base "unlike_length" 2 ["one", "other"] (spD K preUnl) := by
  have Fi : Pr P w K mg base "first_level" 1 [] (spD K preFirst) := pr_first T
  have Nx := pr_next T (P := P) (w := w) (base := base)
  have En := pr_ended T (P := P) (w := w) (base := base)
  have fl := T.free "len" (by decide)
  have fr := T.free "range" (by decide)
  have fe := T.free "enumerate" (by decide)
  have fz := T.free "zip" (by decide)
  refine mk_pr T 35 rfl sc50 (fun _ _ _ _ _ _ us hl => match us, hl with | [_, _], _ => rfl) (fun vs H Q E h => ?_) (fun cdv A outer s H vs Q E hr h => ?_)
  · obtain ⟨ds, d, ⟨m, m', rfl, _⟩, hI, _⟩ := h
    exact hI.len
  · obtain ⟨ds, d, ⟨m, m', rfl, ok, ok', hlev, rfl⟩, hI, k⟩ := h
    cases hI with
    | cons h1 hI =>
    cases hI with
    | cons h2 hI =>
    cases hI
    have hr1 := hr.mono (j := 1) (by decide)
    refine w_cons (s_par2W sc50.nd 2 3 (wa_cons (we_call0 Fi hr1 ⟨[], _, ⟨rfl, rfl⟩, .nil, fun v2 H1 s1 hv2 => wa_cons (we_call0 Fi hr1 ⟨[], _, ⟨rfl, rfl⟩, .nil, fun v3 H2 s2 hv3 => wa_nil ⟨_, _, rfl, ?_⟩⟩)⟩)))
    have hv2' := hv2.ex s2
    have l1 := ok.le
    have l2 := ok'.le
    refine w_cons (s_for (wk_rng fr (n := m.rows.length + m'.rows.length) (Ev.cast (ev_add (ev_lenT fl (ea_one (ev_rows (ev_var 0 rfl ((h1.ex s1).ex s2))))) (ev_lenT fl (ea_one (ev_rows (ev_var 1 rfl ((h2.ex s1).ex s2)))))) (by simp)) (by omega)) fun H3 s3 => ⟨fun j σ' H' => ∃ (v2 v3 : V) (x4 x5 x6 x7 : Option V), σ' = [some _, some _, some v2, some v3, x4, x5, x6, x7] ∧ Same H H' ∧ Im K H' v2 (lvD (lvK m j)) ∧ Im K H' v3 (lvD (lvK m' j)),
      ⟨_, _, none, none, none, none, rfl, (s1.trans s2).trans s3, hv2'.ex s3, hv3.ex s3⟩, fun _ _ _ _ => trivial, ?_, ?_⟩)
    · rintro j d v σ' H4 H5 hj ⟨v2, v3, x4, x5, x6, x7, rfl, sH, hv2, hv3⟩ s5 hv
      have hjl : j < m.rows.length + m'.rows.length := by
        have := (List.getElem?_eq_some_iff.mp hj).1
        simpa [rgD] using this
      have hd : d = .int (j : Nat) := by
        rw [rgD_at hjl] at hj
        exact ((Option.some.inj hj).symm.trans (by simp))
      subst hd
      have ev := hv.intI
      subst ev
      refine g_name sc50.nd 4 ?_
      have s15 := sH.trans s5
      have n8 := ok.n8
      have n8' := ok'.n8
      have hn := congrArg List.length (hlev j hjl)
      refine w_cons (s_for (wk_enumZ fe fz (ev_call En hr1 (ea_cons (ev_var 0 rfl (h1.ex s15)) (ea_one (ev_var 2 rfl (hv2.ex s5)))) ⟨m, _, rfl, ok, lvK_ok ok j, rfl⟩) (ev_call En hr1 (ea_cons (ev_var 1 rfl (h2.ex s15)) (ea_one (ev_var 3 rfl (hv3.ex s5)))) ⟨m', _, rfl, ok', lvK_ok ok' j, rfl⟩) (pls_map nI_pl _) (pls_map nI_pl _) (by rw [List.length_map, List.length_map]; exact hn)) fun H6 s6 => ⟨fun _ σ' H' => ∃ (x5 x6 x7 : Option V), σ' = [some _, some _, some v2, some v3, some (.int (j : Nat)), x5, x6, x7] ∧ Same H6 H',
        ⟨_, _, _, rfl, Same.refl _⟩, fun i σ' H' q => ?_, ?_, ?_⟩)
      · obtain ⟨_, _, _, _, q⟩ := q
        exact ⟨Same.tx q, Same.ls q⟩
      · rintro i d v σ' H7 H8 hi ⟨x5, x6, x7, rfl, sH7⟩ s8 hv8
        obtain ⟨d2, hd2, rfl⟩ := enD_at hi
        obtain ⟨a, b, ha, hb, rfl⟩ := zpD_at hd2
        rw [← hlev j hjl] at hb
        rw [ha] at hb
        have hab := Option.some.inj hb
        subst hab
        rw [List.getElem?_map] at ha
        obtain ⟨x, _, rfl⟩ := Option.map_eq_some_iff.mp ha
        refine g_nest sc50.nd 5 6 7 hv8 fun u5 u6 u7 hu5 hu6 hu7 => ?_
        refine w_one (s_if (t := false) (EvT.cast (et_neI (ev_var 6 rfl hu6) (ev_var 7 rfl hu7)) (by simp)) (fun q => nomatch q) fun _ H9 s9 => w_nil ?_)
        exact ⟨_, _, _, rfl, (sH7.trans s8).trans s9⟩
      · rintro σ' H7 ⟨x5, x6, x7, rfl, sH7⟩
        have s57 := (s5.trans s6).trans sH7
        have s17 := sH.trans s57
        refine w_one (s_par2W sc50.nd 2 3 (wa_cons (we_ev (ev_call Nx hr1 (ea_cons (ev_var 0 rfl (h1.ex s17)) (ea_one (ev_var 2 rfl (hv2.ex s57)))) ⟨m, _, rfl, ok, lvK_ok ok j, rfl⟩) fun u H8 s8 hu => wa_cons (we_ev (ev_call Nx hr1 (ea_cons (ev_var 1 rfl ((h2.ex s17).ex s8)) (ea_one (ev_var 3 rfl ((hv3.ex s57).ex s8)))) ⟨m', _, rfl, ok', lvK_ok ok' j, rfl⟩) fun u' H9 s9 hu' => wa_nil ⟨_, _, rfl, ?_⟩))))
        exact ⟨_, _, _, _, _, _, rfl, (s17.trans s8).trans s9, hu.ex s9, hu'⟩
    · rintro σ' H4 ⟨v2, v3, x4, x5, x6, x7, rfl, sH, _, _⟩
      exact w_one (s_ret ev_non fun v5 H5 s5 hv5 => k v5 H5 (sH.trans s5) hv5)
theorem sc51 : FnScope ["one", "other", "found"] ["one", "other"] (defScope (top 51)) := ⟨rfl, rfl, rfl, by decide +kernel, rfl, by decide +kernel, by decide +kernel⟩
def preLen (ds : List D) (d : D) : Prop := ∃ (m m' : Mc), ds = [mD m, mD m'] ∧ m.Ok 1000 ∧ m'.Ok 1000 ∧ m.n = m'.n ∧ (∀ k, k < m.rows.length + m'.rows.length → endL m (lvK m k) = endL m' (lvK m' k)) ∧ d = .tup [.str "alike"]
theorem prB_len (T : Txt K mg) (N : Pr P w K mg base "need_two" 6 ["one", "other"] (spD K preTwo)) : PrB P w K mg base "judge_lengths" 51 7 ["one", "other"] (spD K preLen) := by
  have U := pr_unl T (P := P) (w := w) (base := base)
  refine mk_prB T 36 rfl sc51 (fun _ _ _ _ _ _ us hl => match us, hl with | [_, _], _ => rfl) (fun vs H Q E h => ?_) (fun cdv A outer s H vs Q E hr h => ?_)
  · obtain ⟨ds, d, ⟨m, m', rfl, _⟩, hI, _⟩ := h
    exact hI.len
  · obtain ⟨ds, d, ⟨m, m', rfl, ok, ok', hn, hlev, rfl⟩, hI, k⟩ := h
    cases hI with
    | cons h1 hI =>
    cases hI with
    | cons h2 hI =>
    cases hI
    refine w_cons (s_expr (ev_call N hr (ea_cons (ev_var 0 rfl h1) (ea_one (ev_var 1 rfl h2))) ⟨m, m', rfl, ok, ok', hn, rfl⟩) fun H1 s1 => ?_)
    refine w_cons (s_set sc51.nd 2 (ev_call U (hr.mono (by decide)) (ea_cons (ev_var 0 rfl (h1.ex s1)) (ea_one (ev_var 1 rfl (h2.ex s1)))) ⟨m, m', rfl, ok, ok', hlev, rfl⟩) fun v2 H2 s2 hv2 => ?_)
    refine w_one (s_retW (we_ifExp (t := true) (et_isN (ev_var 2 rfl hv2)) (fun _ H3 s3 => ?_) fun q => nomatch q))
    exact we_ev (ev_tup (ea_one ev_str)) fun v H4 s4 hv => k v H4 ((s1.trans s2).trans (s3.trans s4)) hv
end
end Dr
set_option Elab.async false
set_option linter.all false
set_option maxRecDepth 100000
set_option maxHeartbeats 4000000
set_option pp.deepTerms false
set_option pp.maxSteps 400
namespace Dr
open PySem PySem.Spec PyProof.Rows L2
section
variable {X : Cx} {K : PySem.W.Frag} {σ : L2.St} {H H' : Hp} {a b e : Expr} {pos p : Pos} {d : D} {ds : List D}
theorem ims_flat : ∀ {vs : List V} {L : List Nat}, Ims K H vs (L.map nI) → vs = L.map fun x => V.int (x : Nat)
  | [], [], _ => rfl
  | v :: vs, x :: L, h => by
    cases h with
    | cons h1 h2 => rw [ims_flat h2, h1.intI]; rfl
  | [], _ :: _, h => nomatch h
  | _ :: _, [], h => nomatch h
theorem inV_nat (t : Nat) (L : List Nat) : inV (.int (t : Nat)) (L.map fun x => V.int (x : Nat)) = L.contains t := by
  induction L with
  | nil => rfl
  | cons x L ih =>
    have e : (eqV (.int (x : Nat)) (.int (t : Nat))) = (t == x) := by
      show decide _ = _
      by_cases h : t = x
      · subst h; simp
      · have h2 : ¬ ((x : Int) = (t : Int)) := by omega
        simp [h, h2]
    rw [List.map_cons, List.contains_cons]
    show (eqV _ _ || inV _ _) = _
    rw [e, ih]
theorem et_notinL {q : Addr} {t : Nat} {L : List Nat} (ha : Ev X a σ H (.int (t : Nat))) (hb : EvV X b σ H (.ref q)) (hq : LsI X.K H q (L.map nI)) (hm : behindInMarks .NotIn b = false := by rfl) : EvT X (.Compare a [.NotIn] [b] pos) σ H (!L.contains t) :=
  et_cmp2 op_notIn_seq ha.int hb (fun H1 s Q q => by
    obtain ⟨xs, h1, h2⟩ := hq.ex s
    have e := ims_flat h2
    subst e
    refine ⟨_, _, rfl, .inl (SqL.of h1), rfl, ?_, ?_⟩
    · rw [List.all_map]; simp [Function.comp_def]; intro x _; rfl
    · rw [if_pos rfl, inV_nat]; exact q) hm
theorem et_tossC {r : Rw} {k k2 : Nat} {ps ps2 ps3 ps4 : Pos} (z : Ev X e σ H (rowD r)) : EvT X (.Compare (.Subscript e (.Constant (.int 0) k ps) ps2) [.Eq] [.Constant (.str "toss") k2 ps3] ps4) σ H r.isT :=
  (et_eqS (ev_word z) ev_str).cast (word_toss r)
theorem et_outC {r : Rw} {k k2 : Nat} {ps ps2 ps3 ps4 : Pos} (z : Ev X e σ H (rowD r)) : EvT X (.Compare (.Subscript e (.Constant (.int 0) k ps) ps2) [.Eq] [.Constant (.str "out") k2 ps3] ps4) σ H (!r.isT) :=
  (et_eqS (ev_word z) ev_str).cast (word_out r)
end
section
variable {P : Program} {w : World} {K : PySem.W.Frag} {mg : Str → Option Value} {base : Heap}
theorem sc68 : FnScope ["_law_told", "_law_due"] ["_law_told", "_law_due"] (defScope (top 68)) := ⟨rfl, rfl, rfl, by decide +kernel, rfl, by decide +kernel, by decide +kernel⟩
theorem pr_same (T : Txt K mg) : Pr P w K mg base "_law_same" 1 ["_law_told", "_law_due"] (spD K preExact) := by
  refine mk_pr T 50 rfl sc68 (fun _ _ _ _ _ _ us hl => match us, hl with | [_, _], _ => rfl) (fun vs H Q E h => ?_) (fun cdv A outer s H vs Q E hr h => ?_)
  · obtain ⟨ds, d, ⟨m, m', rfl, _⟩, hI, _⟩ := h
    exact hI.len
  · obtain ⟨ds, d, ⟨a, b, rfl, sa, sb, a1, a2, b1, b2, rfl⟩, hI, k⟩ := h
    cases hI with
    | cons h1 hI =>
    cases hI with
    | cons h2 hI =>
    cases hI
    have f1 : mg "repr" = none := T.free _ (by decide +kernel)
    refine w_one (s_ret (Ev.cast (ev_eqS (ev_repr hr f1 (ev_var 0 rfl h1) sa a1 a2) (ev_repr hr f1 (ev_var 1 rfl h2) sb b1 b2)) ?_) k)
    congr
def lVisit (t : Nat) (L : List Nat) : List Nat := if L.contains t = true then L else L ++ [t]
def lrStep (m : Mc) (L : List Nat) (i : Nat) : List Nat := match L[i]? with
  | some s => match m.rows[s]? with
    | some (.toss x y) => lVisit y (lVisit x L)
    | _ => L
  | none => L
def lrRow (L : List Nat) : Rw → List Nat
  | .toss x y => lVisit y (lVisit x L)
  | .out _ => L
theorem lrStep_at {m : Mc} {L : List Nat} {j s : Nat} {r : Rw} (eL : L[j]? = some s) (hr : m.rows[s]? = some r) : lrStep m L j = lrRow L r := by
  unfold lrStep
  rw [eL]
  dsimp only
  rw [hr]
  cases r <;> rfl
def lReached (m : Mc) : List Nat := (List.range m.rows.length).foldl (lrStep m) [0]
def preLReach (ds : List D) (d : D) : Prop := ∃ m : Mc, ds = [mD m] ∧ m.Ok 1000 ∧ d = .lst ((lReached m).map nI)
theorem lVisit_lt {n t : Nat} {L : List Nat} (h : ∀ s ∈ L, s < n) (ht : t < n) : ∀ s ∈ lVisit t L, s < n := by
  intro s hs
  unfold lVisit at hs
  split at hs
  · exact h s hs
  · rcases List.mem_append.mp hs with hs | hs
    · exact h s hs
    · rw [List.mem_singleton.mp hs]; exact ht
theorem lVisit_nd {t : Nat} {L : List Nat} (h : L.Nodup) : (lVisit t L).Nodup := by
  unfold lVisit
  split
  · exact h
  · rename_i hc
    rw [List.nodup_append]
    refine ⟨h, by simp, fun a ha b hb => ?_⟩
    rw [List.mem_singleton.mp hb]
    rintro rfl
    exact hc (List.contains_iff_mem.mpr ha)
theorem lrStep_ok {m : Mc} {z : Nat} (ok : m.Ok z) {L : List Nat} (i : Nat) (h : ∀ s ∈ L, s < m.rows.length) (nd : L.Nodup) : (∀ s ∈ lrStep m L i, s < m.rows.length) ∧ (lrStep m L i).Nodup := by
  unfold lrStep
  cases e : L[i]? with
  | none => exact ⟨h, nd⟩
  | some s =>
    dsimp only
    cases e2 : m.rows[s]? with
    | none => exact ⟨h, nd⟩
    | some r =>
      cases r with
      | out j => exact ⟨h, nd⟩
      | toss x y =>
        obtain ⟨h1, h2⟩ := ok.row _ (List.mem_of_getElem? e2)
        exact ⟨lVisit_lt (lVisit_lt h h1) h2, lVisit_nd (lVisit_nd nd)⟩
theorem lr_ok {m : Mc} {z : Nat} (ok : m.Ok z) (j : Nat) : (∀ s ∈ (List.range j).foldl (lrStep m) [0], s < m.rows.length) ∧ ((List.range j).foldl (lrStep m) [0]).Nodup := by
  induction j with
  | zero => exact ⟨fun s hs => by rw [List.mem_singleton.mp hs]; exact ok.pos, by simp⟩
  | succ j ih =>
    rw [List.range_succ, List.foldl_append]
    exact lrStep_ok ok j ih.1 ih.2
theorem nd_len {n : Nat} {L : List Nat} (h : ∀ s ∈ L, s < n) (nd : L.Nodup) : L.length ≤ n := by
  have := TabOk.len (n := n) (l := L.map fun s => (s, ())) ⟨fun p hp => by
    obtain ⟨s, hs, rfl⟩ := List.mem_map.mp hp
    exact h s hs, by rw [List.map_map]; simpa [Function.comp_def] using nd⟩
  simpa using this
theorem sc62 : FnScope ["_law_machine_here", "_law_found", "_law_turn", "_law_to"] ["_law_machine_here"] (defScope (top 62)) := ⟨rfl, rfl, rfl, by decide +kernel, rfl, by decide +kernel, by decide +kernel⟩
theorem pr_lreach (T : Txt K mg) : Pr P w K mg base "_law_reached" 1 ["_law_machine_here"] (spD K preLReach) := by
  have fl := T.free "len" (by decide)
  have fr := T.free "range" (by decide)
  refine mk_pr T 44 rfl sc62 (fun _ _ _ _ _ _ us hl => match us, hl with | [_], _ => rfl) (fun vs H Q E h => ?_) (fun cdv A outer s H vs Q E hr h => ?_)
  · obtain ⟨ds, d, ⟨m, rfl, _⟩, hI, _⟩ := h
    exact hI.len
  · obtain ⟨ds, d, ⟨m, rfl, ok, rfl⟩, hI, k⟩ := h
    cases hI with
    | cons h1 hI =>
    cases hI
    have okl := ok.le
    refine w_cons (s_setW sc62.nd 1 (we_evl (el_lst (ds := [nI 0]) (ea_one ev_int)) fun p H1 hp s1 hL => ?_))
    refine w_cons (s_for (wk_rng fr (n := m.rows.length) (Ev.cast (ev_lenT fl (ea_one (ev_rows (ev_var 0 rfl (h1.ex s1))))) (by simp)) (by omega)) fun H2 s2 => ⟨fun j σ' H' => ∃ (x2 x3 : Option V), σ' = [some _, some (.ref p), x2, x3] ∧ Same H H' ∧ LsI K H' p (((List.range j).foldl (lrStep m) [0]).map nI),
      ⟨none, none, rfl, s1.trans s2, hL.ex s2⟩, fun _ _ _ _ => trivial, ?_, ?_⟩)
    · rintro j d v σ' H3 H4 hj ⟨x2, x3, rfl, sH, hLs⟩ s4 hv
      have hjl : j < m.rows.length := by
        have := (List.getElem?_eq_some_iff.mp hj).1
        simpa [rgD] using this
      have hd : d = .int (j : Nat) := by
        rw [rgD_at hjl] at hj
        exact ((Option.some.inj hj).symm.trans (by simp))
      subst hd
      have ev := hv.intI
      subst ev
      refine g_name sc62.nd 2 ?_
      have hL4 := hLs.ex s4
      have s14 := sH.trans s4
      obtain ⟨lt, nd⟩ := lr_ok ok j
      generalize hL0 : (List.range j).foldl (lrStep m) [0] = L at hL4 lt nd
      have hnext : (List.range (j + 1)).foldl (lrStep m) [0] = lrStep m L j := by
        rw [List.range_succ, List.foldl_append, hL0]; rfl
      have hll := nd_len lt nd
      cases eL : L[j]? with
      | none =>
        have ge : L.length ≤ j := List.getElem?_eq_none_iff.mp eL
        have est : lrStep m L j = L := by unfold lrStep; rw [eL]
        refine w_one (s_if (t := false) (EvW.t (ew_and (t := false) (u := false) (EvT.cast (et_lt (ev_var 2 rfl (.int _)) (ev_lenL fl (vv_var 1 rfl) hL4)) (by simp; omega)) fun q => nomatch q)) (fun q => nomatch q) fun _ H5 s5 => w_nil ?_)
        exact ⟨_, _, rfl, s14.trans s5, LsI.cast (hL4.ex s5) (by rw [hnext, est]; try rfl)⟩
      | some s =>
        have ltj : j < L.length := (List.getElem?_eq_some_iff.mp eL).1
        obtain ⟨r, hr1, hrok⟩ := ok.at (lt s (List.mem_of_getElem? eL))
        have hidx : atI (L.map nI) ((j : Nat) : Int) = some (nI s) := atI_nat (j := j) (by rw [List.getElem?_map, eL]; rfl)
        have est : lrStep m L j = lrRow L r := lrStep_at eL hr1
        refine w_one (s_if (t := r.isT) (EvT.cast (EvW.t (ew_and (u := r.isT) (EvT.cast (b' := true) (et_lt (ev_var 2 rfl (.int _)) (ev_lenL fl (vv_var 1 rfl) hL4)) (by simp; omega)) fun _ => ew_and1 (et_tossC (ev_row (ev_var 0 rfl (h1.ex s14)) (ev_ixL (vv_var 1 rfl) hL4 (ev_var 2 rfl (.int _)) hidx) hr1)))) (by simp)) (fun q H5 s5 => ?_) fun q H5 s5 => w_nil ?_)
        · cases r with
          | out i => cases q
          | toss x y =>
          refine w_one (s_for (wk_tup (ev_sl1 (d := .str "toss") (ds := [nI x, nI y]) (ev_row (ev_var 0 rfl (h1.ex (s14.trans s5))) (ev_ixL (vv_var 1 rfl) (hL4.ex s5) (ev_var 2 rfl (.int _)) hidx) hr1)) rfl) fun H6 s6 => ⟨fun i σ' H' => ∃ (L' : List Nat) (x3 : Option V), σ' = [some _, some (.ref p), some (.int (j : Nat)), x3] ∧ Same H H' ∧ Tx K H6 H' ∧ LsI K H' p (L'.map nI) ∧ (∀ s ∈ L', s < m.rows.length) ∧ L'.Nodup ∧ ((i = 0 ∧ L' = L) ∨ (i = 1 ∧ L' = lVisit x L) ∨ (i = 2 ∧ L' = lVisit y (lVisit x L))),
            ⟨L, _, rfl, (s14.trans s5).trans s6, .refl, (hL4.ex s5).ex s6, lt, nd, .inl ⟨rfl, rfl⟩⟩, fun i σ' H' q => ?_, ?_, ?_⟩)
          · obtain ⟨_, _, _, _, q, _⟩ := q
            exact q
          · rintro i d v σ' H7 H8 hi ⟨L', x3, rfl, sH7, tx7, hL7, lt7, nd7, hst⟩ s8 hv8
            obtain ⟨t, ht2, rfl⟩ : ∃ t, [x, y][i]? = some t ∧ d = nI t := by
              match i, hi with
              | 0, hj => exact ⟨x, rfl, (Option.some.inj hj).symm⟩
              | 1, hj => exact ⟨y, rfl, (Option.some.inj hj).symm⟩
            have e8 := hv8.intI
            subst e8
            have htl : t < m.rows.length := by
              match i, ht2 with
              | 0, ht2 => obtain rfl := Option.some.inj ht2; exact hrok.1
              | 1, ht2 => obtain rfl := Option.some.inj ht2; exact hrok.2
            have hst2 : (i + 1 = 1 ∧ lVisit t L' = lVisit x L) ∨ (i + 1 = 2 ∧ lVisit t L' = lVisit y (lVisit x L)) := by
              rcases hst with ⟨rfl, rfl⟩ | ⟨rfl, rfl⟩ | ⟨rfl, rfl⟩
              · obtain rfl := Option.some.inj ht2
                exact .inl ⟨rfl, rfl⟩
              · obtain rfl := Option.some.inj ht2
                exact .inr ⟨rfl, rfl⟩
              · cases ht2
            refine g_name sc62.nd 3 ?_
            refine w_one (s_if (et_notinL (t := t) (ev_var 3 rfl (.int _)) (vv_var 1 rfl) (hL7.ex s8)) (fun q H9 s9 => ?_) fun q H9 s9 => w_nil ?_)
            · have hno : L'.contains t = false := by simpa using q
              have hvis : lVisit t L' = L' ++ [t] := by unfold lVisit; rw [hno]; rfl
              have ll := nd_len lt7 nd7
              refine w_one (s_app (vv_var 1 rfl) ((hL7.ex s8).ex s9) (ev_var 3 rfl (.int _)) rfl (pls_map nI_pl _) (by rw [List.length_map]; omega) fun H10 m10 tx10 hL10 => ?_)
              refine ⟨lVisit t L', _, rfl, m10.same ((sH7.trans s8).trans s9) hp, (tx7.trans (Same.tx (s8.trans s9))).trans tx10, LsI.cast hL10 (by rw [hvis, List.map_append]; rfl), lVisit_lt lt7 htl, lVisit_nd nd7, .inr hst2⟩
            · have hyes : L'.contains t = true := by simpa using q
              have hvis : lVisit t L' = L' := by unfold lVisit; rw [hyes]; rfl
              refine ⟨lVisit t L', _, rfl, (sH7.trans s8).trans s9, tx7.trans (Same.tx (s8.trans s9)), LsI.cast ((hL7.ex s8).ex s9) (by rw [hvis]), lVisit_lt lt7 htl, lVisit_nd nd7, .inr hst2⟩
          · rintro σ' H7 ⟨L', x3, rfl, sH7, tx7, hL7, lt7, nd7, hst⟩
            have : L' = lVisit y (lVisit x L) := by
              rcases hst with ⟨e, _⟩ | ⟨e, _⟩ | ⟨_, e⟩
              · cases e
              · cases e
              · exact e
            subst this
            exact ⟨_, _, rfl, sH7, LsI.cast hL7 (by rw [hnext, est]; try rfl)⟩
        · cases r with
          | toss x y => cases q
          | out i => exact ⟨_, _, rfl, s14.trans s5, LsI.cast (hL4.ex s5) (by rw [hnext, est]; try rfl)⟩
    · rintro σ' H4 ⟨x2, x3, rfl, sH, hLs⟩
      exact w_one (s_ret (vv_var 1 rfl |>.ev fun _ s => hLs.im.ex s) fun v5 H5 s5 hv5 => k v5 H5 (sH.trans s5) (by rw [show (rgD 0 m.rows.length).length = m.rows.length by simp [rgD]] at hv5; exact hv5))
theorem sc63 : FnScope ["_law_machine_here", "_law_bits", "_law_at", "_law_k", "_law_standing"] ["_law_machine_here", "_law_bits"] (defScope (top 63)) := ⟨rfl, rfl, rfl, by decide +kernel, rfl, by decide +kernel, by decide +kernel⟩
def preLRun (ds : List D) (d : D) : Prop := ∃ (m : Mc) (bs : List Bool), ds = [mD m, btD bs] ∧ m.Ok 1000 ∧ bs.length ≤ 100000 ∧ d = runD (runM m 0 bs 0)
theorem pr_lrun (T : Txt K mg) : Pr P w K mg base "_law_run" 1 ["_law_machine_here", "_law_bits"] (spD K preLRun) := by
  have fl := T.free "len" (by decide)
  have fr := T.free "range" (by decide)
  refine mk_pr T 45 rfl sc63 (fun _ _ _ _ _ _ us hl => match us, hl with | [_, _], _ => rfl) (fun vs H Q E h => ?_) (fun cdv A outer s H vs Q E hr h => ?_)
  · obtain ⟨ds, d, ⟨m, bs, rfl, _⟩, hI, _⟩ := h
    exact hI.len
  · obtain ⟨ds, d, ⟨m, bs, rfl, ok, hbl, rfl⟩, hI, k⟩ := h
    cases hI with
    | cons h1 hI =>
    cases hI with
    | cons h2 hI =>
    cases hI
    refine w_cons (s_set sc63.nd 2 ev_int fun v2 H1 s1 hv2 => ?_)
    have e2 := hv2.intI
    subst e2
    refine w_cons (s_for (wk_rng fr (n := bs.length + 1) (Ev.cast (ev_add (ev_lenT fl (ea_one (ev_var 1 rfl (h2.ex s1)))) ev_int) (by simp)) (by omega)) fun H2 s2 => ⟨fun j σ' H' => ∃ (s : Nat) (x3 x4 : Option V), σ' = [some _, some _, some (.int (s : Nat)), x3, x4] ∧ Same H H' ∧ s < m.rows.length ∧ (j ≤ bs.length → runM m s (bs.drop j) j = runM m 0 bs 0) ∧ (j = bs.length + 1 → runM m 0 bs 0 = none),
      ⟨0, none, none, rfl, s1.trans s2, ok.pos, fun _ => rfl, fun h => by omega⟩, fun _ _ _ _ => trivial, ?_, ?_⟩)
    · rintro j d v σ' H3 H4 hj ⟨s, x3, x4, rfl, sH, hs, hst, _⟩ s4 hv
      have hjl : j < bs.length + 1 := by
        have := (List.getElem?_eq_some_iff.mp hj).1
        simpa [rgD] using this
      have hd : d = .int (j : Nat) := by
        rw [rgD_at hjl] at hj
        exact ((Option.some.inj hj).symm.trans (by simp))
      subst hd
      have ev := hv.intI
      subst ev
      refine g_name sc63.nd 3 ?_
      have s14 := sH.trans s4
      have hst := hst (by omega)
      obtain ⟨r, hr1, hrok⟩ := ok.at hs
      refine w_cons (s_set sc63.nd 4 (ev_row (ev_var 0 rfl (h1.ex s14)) (ev_var 2 rfl (.int _)) hr1) fun v4 H5 s5 hv4 => ?_)
      refine w_cons (s_if (et_outC (ev_var 4 rfl hv4)) (fun q H6 s6 => ?_) fun q H6 s6 => w_nil ?_)
      · cases r with
        | toss x y => cases q
        | out i =>
        refine w_one (s_ret (ev_tup (ea_cons (ev_ixT (ev_var 4 rfl (hv4.ex s6)) ev_int rfl) (ea_one (ev_var 3 rfl (.int _))))) fun v' H7 s7 hv' => k v' H7 (((s14.trans s5).trans s6).trans s7) ?_)
        have : runM m s (bs.drop j) j = some (i, j) := by
          cases bs.drop j <;> simp [runM, hr1]
        rw [← hst, this]
        exact hv'
      · cases r with
        | out i => cases q
        | toss x y =>
        have s16 := (s14.trans s5).trans s6
        by_cases lt : j < bs.length
        · refine w_one (s_if (t := true) (EvT.cast (et_lt (ev_var 3 rfl (.int _)) (ev_lenT fl (ea_one (ev_var 1 rfl (h2.ex s16))))) (by simp; exact lt)) (fun _ H7 s7 => ?_) fun q => nomatch q)
          have s17 := s16.trans s7
          have edrop : bs.drop j = bs[j] :: bs.drop (j + 1) := List.drop_eq_getElem_cons lt
          rw [edrop] at hst
          simp only [runM, hr1] at hst
          refine w_one (s_set sc63.nd 2 (ev_turn (c := bs[j]) (ev_var 4 rfl (hv4.ex (s6.trans s7))) (ev_ixT (ev_var 1 rfl (h2.ex s17)) (ev_var 3 rfl (.int _)) (atI_nat (j := j) (by rw [List.getElem?_map, List.getElem?_eq_getElem lt]; rfl)))) fun v8 H8 s8 hv8 => ?_)
          have e8 := hv8.intI
          subst e8
          refine ⟨_, _, _, rfl, s17.trans s8, ?_, fun _ => hst, fun h => by omega⟩
          split
          · exact hrok.2
          · exact hrok.1
        · refine w_one (s_if (t := false) (EvT.cast (et_lt (ev_var 3 rfl (.int _)) (ev_lenT fl (ea_one (ev_var 1 rfl (h2.ex s16))))) (by simp; omega)) (fun q => nomatch q) fun _ H7 s7 => w_nil ?_)
          refine ⟨s, _, _, rfl, s16.trans s7, hs, fun h => by omega, fun _ => ?_⟩
          have : j = bs.length := by omega
          rw [this, List.drop_length] at hst
          rw [← hst]
          simp only [runM, hr1]
    · rintro σ' H3 ⟨s, x3, x4, rfl, sH, _, _, hst⟩
      refine w_one (s_ret ev_non fun v5 H5 s5 hv5 => k v5 H5 (sH.trans s5) ?_)
      rw [hst (by simp [rgD])]
      exact hv5
theorem sc64 : FnScope ["_law_thing", "_law_x"] ["_law_thing"] (defScope (top 64)) := ⟨rfl, rfl, rfl, by decide +kernel, rfl, by decide +kernel, by decide +kernel⟩
def preLBits (ds : List D) (d : D) : Prop := ∃ bs : List Bool, ds = [btD bs] ∧ bs.length ≤ 100000 ∧ d = .bl true
theorem pr_lbits (T : Txt K mg) : Pr P w K mg base "_law_are_bits" 1 ["_law_thing"] (spD K preLBits) := by
  obtain ⟨f1, f2, f3, f4, f5, f6, f7⟩ := fI T
  refine mk_pr T 46 rfl sc64 (fun _ _ _ _ _ _ us hl => match us, hl with | [_], _ => rfl) (fun vs H Q E h => ?_) (fun cdv A outer s H vs Q E hr h => ?_)
  · obtain ⟨ds, d, ⟨bs, rfl, _⟩, hI, _⟩ := h
    exact hI.len
  · obtain ⟨ds, d, ⟨bs, rfl, hbl, rfl⟩, hI, k⟩ := h
    cases hI with
    | cons h1 hI =>
    cases hI
    have hno : ∀ n : Nat, kept n (fun _ => false) (fun _ => D.non) = [] := fun n => by simp [kept]
    refine w_one (s_ret (Ev.cast (ev_and (ev_isi f1 f4 (ev_var 0 rfl h1) kb8) fun _ => ev_one (ev_eqD (d1 := .lst []) (d2 := .lst []) (n := 1) (m := 1) hr (EvL.ev (ds := []) (EvL.cast (el_lc sc64 [("_law_x", 1)] (fun _ => false) (fun _ => .non) (fun _ => rfl) (wk_tup (ev_var 0 rfl h1) (btD_pl _)) (fun _ _ s => Same.tx s) (by simpa using hbl) ?_) (hno _))) (EvL.ev (el_lst ea_nil)) rfl rfl rfl rfl)) (by simp)) k)
    intro j d v H1 s1 hj hv
    rw [List.getElem?_map] at hj
    obtain ⟨b, _, rfl⟩ := Option.map_eq_some_iff.mp hj
    refine ⟨_, fun Q2 q s H C cl fp => g_name sc64.nd 1 q, rfl, fun s H C cl fp => et_one (EvT.cast (EvW.t (ew_or (et_not (et_val (ev_isi f1 f2 (ev_var 1 rfl hv) kb1))) fun _ => ew_or (et_val (ev_isi f1 f3 (ev_var 1 rfl hv) kb2)) fun _ => ew_or1 (et_not (et_lele ev_int (ev_var 1 rfl hv) ev_int)))) ?_), fun q => nomatch q⟩
    cases b <;> rfl
end
end Dr
set_option Elab.async false
set_option linter.all false
set_option maxRecDepth 100000
set_option maxHeartbeats 4000000
set_option pp.deepTerms false
set_option pp.maxSteps 400
set_option exponentiation.threshold 10000
namespace Dr
open PySem PySem.Spec PyProof.Rows L2
/-! ### the deck: a dict with three text keys, one of its values a list that shrinks -/
def dkv (q : Addr) (a b : Int) : List (Key × V) := [(Sum.inr "left", .ref q), (Sum.inr "mixed", .int a), (Sum.inr "draws", .int b)]
def Dck (H : Hp) (p q : Addr) : Prop := ∃ (a b : Int) (is : List Int), H p = some (.dK (dkv q a b)) ∧ H q = some (.lst (is.map V.int)) ∧ is.length ≤ 64 ∧ p ≠ q
/-- all but the deck stays -/
structure Dm (K : PySem.W.Frag) (p q : Addr) (H H' : Hp) : Prop where
  at' : ∀ a u, a ≠ p → a ≠ q → H a = some u → H' a = some u
  tx : Tx K H H'
section
variable {K : PySem.W.Frag} {p q : Addr} {H H1 H2 : Hp}
theorem Dck.ex (h : Dck H p q) (s : Same H H1) : Dck H1 p q := by
  obtain ⟨a, b, is, h1, h2, h3, h4⟩ := h
  exact ⟨a, b, is, s _ _ h1, s _ _ h2, h3, h4⟩
theorem Dm.of (s : Same H H1) : Dm K p q H H1 := ⟨fun a u _ _ e => s a u e, Same.tx s⟩
theorem Dm.trans (h : Dm K p q H H1) (h2 : Dm K p q H1 H2) : Dm K p q H H2 := ⟨fun a u n1 n2 e => h2.at' a u n1 n2 (h.at' a u n1 n2 e), h.tx.trans h2.tx⟩
theorem Dm.putP {o o' : HO} (h : H p = some o) (n : NoT o) : Dm K p q H (upd H p o') := ⟨fun a u n1 _ e => by rw [upd_ne n1]; exact e, Tx.put h n⟩
theorem Dm.putQ {o o' : HO} (h : H q = some o) (n : NoT o) : Dm K p q H (upd H q o') := ⟨fun a u _ n2 e => by rw [upd_ne n2]; exact e, Tx.put h n⟩
theorem LsI.dm {l : Addr} {ds : List D} (h : LsI K H l ds) (n1 : l ≠ p) (n2 : l ≠ q) (m : Dm K p q H H1) (hp : D.pls ds = true) : LsI K H1 l ds := by
  obtain ⟨xs, h1, h2⟩ := h
  exact ⟨xs, m.at' _ _ n1 n2 h1, h2.up m.tx hp⟩
/-- with the list l new since H0 -/
theorem Dm.same {H0 : Hp} (s : Same H0 H) (h1 : H0 p = none) (h2 : H0 q = none) (m : Dm K p q H H1) : Same H0 H1 := fun a u e => m.at' a u (fun z => by subst z; rw [h1] at e; cases e) (fun z => by subst z; rw [h2] at e; cases e) (s a u e)
end
def spDk (K : PySem.W.Frag) (pre : List D → Prop) (post : List D → D → Prop) : Sp := fun vs H Q _ => ∃ p q vs' ds, vs = .ref p :: vs' ∧ Dck H p q ∧ pre ds ∧ Ims K H vs' ds ∧ ∀ d v H', post ds d → Dm K p q H H' → Dck H' p q → Im K H' v d → Q v H'
section
variable {X : Cx} {σ : L2.St} {H H' : Hp} {a b c e e2 : Expr} {es : List Expr} {pos p1 : Pos} {d d1 d2 : D} {ds : List D} {i j : Int} {Z : Ends} {k : Nat}
theorem ev_mul (ha : Ev X a σ H (.int i)) (hb : Ev X b σ H (.int j)) (hc : CMul i j) : Ev X (.BinOp a .Mult b pos) σ H (.int (i * j)) :=
  ev_op2 op_mul ha.int hb.int fun H1 s Q q => ⟨i, j, rfl, rfl, hc, q _ H1 (Same.refl _) (.int _)⟩
theorem ev_pow (ha : Ev X a σ H (.int i)) (hb : Ev X b σ H (.int j)) (hc : CPow i j) : Ev X (.BinOp a .Pow b pos) σ H (.int (i ^ j.toNat)) :=
  ev_op2 op_pow ha.int hb.int fun H1 s Q q => ⟨i, j, rfl, rfl, hc, q _ H1 (Same.refl _) (.int _)⟩
theorem ev_intc (hm : X.mg "int" = none) (ha : Ev X a σ H (.int i)) (hg : Gl X "int" := by rfl)
    (he : starEach [a] X.env = (false, eval a X.env) :: starEach [] X.env := by rfl) {p : Pos} : Ev X (.Call (.Name "int" p) [a] [] pos) σ H (.int i) :=
  ev_ct (ds := [.int i]) call_int1 hm (by decide +kernel) (ea_one ha he) (fun vs H1 s hvs Q q => by
    cases hvs with
    | cons h1 h2 =>
    cases h2
    rw [h1.intI]
    exact .inl ⟨i, rfl, q _ H1 (Same.refl _) (.int _)⟩) hg (by decide) (by decide) he
theorem ev_max2 (hc : X.calm = true) (hm : X.mg "max" = none) (ha : Ev X a σ H (.int i)) (hb : Ev X b σ H (.int j)) (hg : Gl X "max" := by rfl)
    (he : starEach [a, b] X.env = (false, eval a X.env) :: starEach [b] X.env := by rfl) (he2 : starEach [b] X.env = (false, eval b X.env) :: starEach [] X.env := by rfl) (hpl : (backTo pos (starEach [b] X.env)).any (·.1) = false := by rfl) {p : Pos} : Ev X (.Call (.Name "max" p) [a, b] [] pos) σ H (.int (if j > i then j else i)) :=
  ev_cb (ds := [.int i, .int j]) (call_max2 hc) hm (by decide +kernel) (ea_cons ha (ea_one hb he2) he) (fun vs H1 s hvs Q q => by
    cases hvs with
    | cons h1 hvs =>
    cases hvs with
    | cons h2 hvs =>
    cases hvs
    rw [h1.intI, h2.intI]
    exact ⟨i, j, rfl, q _ H1 (Same.refl _) (.int _)⟩) hg (by decide) (by decide) he hpl
theorem ev_min2 (hc : X.calm = true) (hm : X.mg "min" = none) (ha : Ev X a σ H (.int i)) (hb : Ev X b σ H (.int j)) (hg : Gl X "min" := by rfl)
    (he : starEach [a, b] X.env = (false, eval a X.env) :: starEach [b] X.env := by rfl) (he2 : starEach [b] X.env = (false, eval b X.env) :: starEach [] X.env := by rfl) (hpl : (backTo pos (starEach [b] X.env)).any (·.1) = false := by rfl) {p : Pos} : Ev X (.Call (.Name "min" p) [a, b] [] pos) σ H (.int (if j < i then j else i)) :=
  ev_cb (ds := [.int i, .int j]) (call_min2 hc) hm (by decide +kernel) (ea_cons ha (ea_one hb he2) he) (fun vs H1 s hvs Q q => by
    cases hvs with
    | cons h1 hvs =>
    cases hvs with
    | cons h2 hvs =>
    cases hvs
    rw [h1.intI, h2.intI]
    exact ⟨i, j, rfl, q _ H1 (Same.refl _) (.int _)⟩) hg (by decide) (by decide) he hpl
theorem vv_dS {p : Addr} {x : Str} {kvs : List (Key × V)} {v : V} {kk : Nat} {pp : Pos} (hr : Rm k X.A) (ha : EvV X a σ H (.ref p)) (hp : H p = some (.dK kvs)) (hx : valV kvs (Sum.inr x) = some v) : EvV X (.Subscript a (.Constant (.str x) kk pp) pos) σ H v :=
  fun H1 s Q q => .of (pe_dget (by have := hr.room.un; omega) pe_W pe_W (fun _ _ => rfl)) (ha H1 s _ fun H2 s2 => ev_str.str H2 (s.trans s2) _ fun H3 s3 =>
    ⟨p, v, rfl, .inl ⟨kvs, Sum.inr x, .inl (((s.trans s2).trans s3) _ _ hp), rfl, hx.symm⟩, q H3 (s2.trans s3)⟩)
theorem dtailS {p : Addr} {v : V} {x : Str} {kvs : List (Key × V)} {kk : Nat} {pp : Pos} (hp : H p = some (.dK kvs)) (hz : kvs.length < 100000) (ha : EvV X a σ H (.ref p)) (h : ∀ H2, Same H H2 → Z.nx σ (upd H2 p (.dK (putK kvs (Sum.inr x) v)))) : DTail X a (.Constant (.str x) kk pp) σ v Z H :=
  ha H (Same.refl _) _ fun H2 s2 => ev_str.str H2 s2 _ fun H3 s3 => ⟨p, _, rfl, .inl ⟨kvs, Sum.inr x, (s2.trans s3) _ _ hp, rfl, by rw [sizeLine_eq]; omega, rfl⟩, h H3 (s2.trans s3)⟩
/-- a statement, all that may stand behind it, the rest -/
theorem w_cut {st : Stmt} {rest : List Stmt} (J : L2.St → Hp → Prop) (h : WS X st { Z with nx := J } σ H) (k : ∀ σ' H', J σ' H' → WSs X rest Z σ' H') : WSs X (st :: rest) Z σ H :=
  w_cons (h.mono ⟨k, fun _ _ q => q, fun _ _ q => q, fun _ _ q => q⟩)
/-- l.pop() -/
theorem we_pop {p : Addr} {xs : List V} {v : V} {Q : VK} {apos cpos : Pos} (ha : EvV X a σ H (.ref p)) (hp : H p = some (.lst xs)) (hx : xs[xs.length - 1]? = some v) (h : ∀ H1, Same H H1 → Q v (upd H1 p (.lst xs.dropLast)))
    (hbase : attributeBase a "pop" X.env (eval a X.env) = eval a X.env := by rfl) (hline : (apos.endLine == cpos.line) = true := by rfl) : WE X (.Call (.Attribute a "pop" apos) [] [] cpos) σ H Q :=
  .of (pe_bm0 PySem.F.plainAttrs_list PySem.F.slot_list_pop PySem.F.type_list_pop (r := rPop) mt_pop pe_W hbase hline) (ha H (Same.refl _) _ fun H1 s1 => ⟨.inl ⟨rfl, xs, .inl (.of (s1 _ _ hp))⟩, p, xs, v, rfl, rfl, s1 _ _ hp, hx, h H1 s1⟩)
end
section
variable {P : Program} {w : World} {K : PySem.W.Frag} {mg : Str → Option Value} {base : Heap}
def preDraw (ds : List D) : Prop := ∃ n : Nat, ds = [nI n] ∧ 0 < n ∧ n ≤ 1000
def postDraw (ds : List D) (d : D) : Prop := ∀ n : Nat, ds = [nI n] → ∃ r, r < n ∧ d = nI r
theorem sc59 : FnScope ["_law_deck_here", "_law_many", "_law_figure", "_law_cell"] ["_law_deck_here", "_law_many"] (defScope (top 59)) := ⟨rfl, rfl, rfl, by decide +kernel, rfl, by decide +kernel, by decide +kernel⟩
theorem dkv_left {q : Addr} {a b : Int} : valV (dkv q a b) (Sum.inr "left") = some (.ref q) := rfl
theorem dkv_mixed {q : Addr} {a b : Int} : valV (dkv q a b) (Sum.inr "mixed") = some (.int a) := by rfl
theorem dkv_draws {q : Addr} {a b : Int} : valV (dkv q a b) (Sum.inr "draws") = some (.int b) := by rfl
theorem dkv_put {q : Addr} {a b b' : Int} : putK (dkv q a b) (Sum.inr "draws") (.int b') = dkv q a b' := by rfl
theorem ims_V {H : Hp} : ∀ is : List Int, Ims K H (is.map V.int) (is.map D.int)
  | [] => .nil
  | i :: is => .cons (.int i) (ims_V is)
theorem nbs_V : ∀ is : List Int, D.nbs (is.map D.int) = true
  | [] => rfl
  | i :: is => by
    show (D.nb (.int i) && D.nbs (is.map D.int)) = true
    rw [nbs_V is]; rfl
theorem nb_ints (is : List Int) : D.nb (.lst (is.map D.int)) = true := nbs_V is
theorem sh_ints (is : List Int) : D.sh 1 (.lst (is.map D.int)) = true := shs_all fun d hd => by
  obtain ⟨i, _, rfl⟩ := List.mem_map.mp hd
  rfl
theorem emod_nat {i : Int} {n : Nat} (h : 0 < n) : ∃ r : Nat, r < n ∧ i % (n : Int) = (r : Nat) := by
  have h1 := Int.emod_nonneg i (b := (n : Int)) (by omega)
  have h2 := Int.emod_lt_of_pos i (b := (n : Int)) (by omega)
  exact ⟨(i % (n : Int)).toNat, by omega, by omega⟩
theorem pr_draw (T : Txt K mg) : Pr P w K mg base "_law_draw" 1 ["_law_deck_here", "_law_many"] (spDk K preDraw postDraw) := by
  have fm := T.free "max" (by decide)
  have fi := T.free "int" (by decide)
  refine mk_pr T 41 rfl sc59 (fun _ _ _ _ _ _ us hl => match us, hl with | [_, _], _ => rfl) (fun vs H Q E h => ?_) (fun cdv A outer s H vs Q E hr h => ?_)
  · obtain ⟨p, q, vs', ds, rfl, _, ⟨n, rfl, _⟩, hI, _⟩ := h
    simpa using hI.len
  · obtain ⟨p, q, vs', ds, rfl, ⟨a, b, is, hp, hq, hl, npq⟩, ⟨n, rfl, n0, n1⟩, hI, k⟩ := h
    cases hI with
    | cons h2 hI =>
    cases hI
    have e2 := h2.intI
    subst e2
    refine w_cons (s_dputW hr ((ev_add (i := b) (j := 1) ((vv_dS hr (vv_var 0 rfl) hp dkv_draws).ev fun _ _ => .int _) ev_int).int H (Same.refl _) _ fun H1 s1 => dtailS (s1 _ _ hp) (by simp [dkv]) (vv_var 0 rfl) fun H2 s2 => ?_))
    have hp2 : upd H2 p (.dK (putK (dkv q a b) (Sum.inr "draws") (.int (b + 1)))) p = some (.dK (dkv q a (b + 1))) := by rw [upd_same, dkv_put]
    have hq2 : upd H2 p (.dK (putK (dkv q a b) (Sum.inr "draws") (.int (b + 1)))) q = some (.lst (is.map V.int)) := by rw [upd_ne (Ne.symm npq)]; exact (s1.trans s2) _ _ hq
    have m2 : Dm K p q H (upd H2 p (.dK (putK (dkv q a b) (Sum.inr "draws") (.int (b + 1))))) := (Dm.of (s1.trans s2)).trans (Dm.putP ((s1.trans s2) _ _ hp) trivial)
    generalize upd H2 p (.dK (putK (dkv q a b) (Sum.inr "draws") (.int (b + 1)))) = H3 at hp2 hq2 m2
    clear s1 s2 H1 H2
    generalize hb' : b + 1 = b' at hp2
    refine w_cons (s_set sc59.nd 2 (ev_add ((vv_dS hr (vv_var 0 rfl) hp2 dkv_mixed).ev fun _ _ => .int _) (ev_mul ev_int ((vv_dS hr (vv_var 0 rfl) hp2 dkv_draws).ev fun _ _ => .int _) (.inl (by decide)))) fun v2 H4 s4 hv2 => ?_)
    have e2 := hv2.intI
    subst e2
    have hp4 := s4 _ _ hp2
    have hq4 := s4 _ _ hq2
    have hs4 : ∀ {H5 : Hp}, Same H4 H5 → Im K H5 (.ref q) (.lst (is.map D.int)) := fun s5 => .lst (.of (s5 _ _ hq4)) (ims_V is)
    refine w_cut (fun σ' H' => ∃ (f : Int) (x3 : Option V) (is' : List Int), σ' = [some (V.ref p), some (.int (n : Nat)), some (.int f), x3] ∧ Dm K p q H H' ∧ H' p = some (.dK (dkv q a b')) ∧ H' q = some (.lst (is'.map V.int)) ∧ is'.length ≤ 64) ?_ ?_
    · refine s_if (et_neD (d1 := .lst (is.map D.int)) (d2 := .lst []) (n := 1) (m := 1) hr ((vv_dS hr (vv_var 0 rfl) hp4 dkv_left).ev fun _ s => hs4 s) (EvL.ev (el_lst ea_nil)) (sh_ints is) rfl (nb_ints is) rfl) (fun tr H5 s5 => ?_) fun _ H5 s5 => w_nil ⟨_, _, is, rfl, m2.trans (Dm.of (s4.trans s5)), s5 _ _ hp4, s5 _ _ hq4, hl⟩
      have hne : is ≠ [] := by
        rintro rfl
        simp at tr
      have hlen : is.length - 1 < is.length := by
        have := List.length_pos_iff.mpr hne
        omega
      refine w_cons (s_setW sc59.nd 3 (we_pop (v := .int is[is.length - 1]) (vv_dS hr (vv_var 0 rfl) (s5 _ _ hp4) dkv_left) (s5 _ _ hq4) (by simp [hlen]) fun H6 s6 => ?_))
      have hp6 : upd H6 q (.lst (is.map V.int).dropLast) p = some (.dK (dkv q a b')) := by rw [upd_ne npq]; exact (s5.trans s6) _ _ hp4
      have hq6 : upd H6 q (.lst (is.map V.int).dropLast) q = some (.lst (is.dropLast.map V.int)) := by rw [upd_same, List.map_dropLast]
      have m6 : Dm K p q H (upd H6 q (.lst (is.map V.int).dropLast)) := (m2.trans (Dm.of ((s4.trans s5).trans s6))).trans (Dm.putQ ((s5.trans s6) _ _ hq4) trivial)
      generalize upd H6 q (.lst (is.map V.int).dropLast) = H7 at hp6 hq6 m6
      have hl7 : is.dropLast.length < 64 := by rw [List.length_dropLast]; omega
      generalize is[is.length - 1] = cell
      generalize is.dropLast = js at hq6 hl7
      clear hs4 s6 s5 H6 H5
      refine w_cons (s_if (et_ge (ev_var 3 rfl (.int _)) (ev_pow ev_int ev_int ⟨by decide, by decide, by decide⟩)) (fun _ H8 s8 => ?_) fun _ H8 s8 => w_nil ?_)
      · refine w_cons (s_appW (xs := js.map V.int) (vv_dS hr (vv_var 0 rfl) (s8 _ _ hp6) dkv_left) (s8 _ _ hq6) (by rw [List.length_map]; omega) fun H9 s9 => wa_cons ((ev_fdivW (ev_var 3 rfl (.int _)) (ev_max2 rfl fm ev_int (ev_var 1 rfl (.int _))) ?_).int H9 (Same.refl _) _ fun H10 s10 => wa_nil ⟨q, js.map V.int, _, rfl, rfl, ((s8.trans s9).trans s10) _ _ hq6, by rw [List.length_map, sizeLine_eq]; omega, ?_⟩))
        · refine ⟨by split <;> omega, ?_⟩
          have : (if (n : Int) > 2 then (n : Int) else 2).natAbs < 2 ^ 9000 := Nat.lt_of_lt_of_le (show _ < 2 ^ 10 by split <;> omega) (Nat.pow_le_pow_right (by decide) (by decide))
          exact (Nat.log2_lt (by split <;> omega)).mpr this
        · have sY := (s8.trans s9).trans s10
          generalize hc' : (cell / (if (n : Int) > 2 then (n : Int) else 2)) = c'
          have hp11 : upd H10 q (.lst (js.map V.int ++ [.int c'])) p = some (.dK (dkv q a b')) := by rw [upd_ne npq]; exact sY _ _ hp6
          have hq11 : upd H10 q (.lst (js.map V.int ++ [.int c'])) q = some (.lst ((js ++ [c']).map V.int)) := by rw [upd_same, List.map_append]; rfl
          have m11 : Dm K p q H (upd H10 q (.lst (js.map V.int ++ [.int c']))) := (m6.trans (Dm.of sY)).trans (Dm.putQ (sY _ _ hq6) trivial)
          refine w_one (s_ret (ev_mod (ev_intc fi (ev_var 3 rfl (.int _))) (ev_var 1 rfl (.int _)) (by omega)) fun v9 H12 s12 hv9 => ?_)
          refine k _ v9 H12 (fun n' e => ?_) (m11.trans (Dm.of s12)) ⟨a, b', js ++ [c'], s12 _ _ hp11, s12 _ _ hq11, by rw [List.length_append]; simp; omega, npq⟩ hv9
          have : n' = n := by
            have := List.cons.inj e
            have h1 : (n : Int) = (n' : Int) := by simpa [nI] using this.1
            omega
          subst this
          obtain ⟨r, hr1, hr2⟩ := emod_nat (i := cell) n0
          exact ⟨r, hr1, by rw [nI, ← hr2]⟩
      · refine w_one (s_set sc59.nd 2 (ev_add (ev_var 2 rfl (.int _)) (ev_mod (ev_intc fi (ev_var 3 rfl (.int _))) ev_int (by decide))) fun v9 H9 s9 hv9 => ?_)
        have e9 := hv9.intI
        subst e9
        exact ⟨_, _, js, rfl, m6.trans (Dm.of (s8.trans s9)), (s8.trans s9) _ _ hp6, (s8.trans s9) _ _ hq6, by omega⟩
    · rintro σ' H5 ⟨f, x3, is', rfl, m5, hp5, hq5, hl5⟩
      refine w_cons (s_set sc59.nd 2 (ev_mod (ev_intc fi (ev_add (ev_mul (ev_var 2 rfl (.int _)) ev_int (.inr (by decide))) ev_int)) ev_int (by decide)) fun v6 H6 s6 hv6 => ?_)
      have e6 := hv6.intI
      subst e6
      generalize hf6 : (f * 48271 + 77) % 2147483549 = f6
      have r1 : 0 ≤ f6 := by rw [← hf6]; exact Int.emod_nonneg _ (by decide)
      have r2 : f6 < 2147483549 := by rw [← hf6]; exact Int.emod_lt_of_pos _ (by decide)
      refine w_cons (s_set sc59.nd 2 (ev_mod (ev_intc fi (ev_add (ev_add (ev_mul (ev_var 2 rfl (.int _)) (ev_var 2 rfl (.int _)) (.inl ⟨by omega, by omega⟩)) (ev_mul ev_int ((vv_dS hr (vv_var 0 rfl) (s6 _ _ hp5) dkv_draws).ev fun _ _ => .int _) (.inl (by decide)))) ev_int)) ev_int (by decide)) fun v7 H7 s7 hv7 => ?_)
      have e7 := hv7.intI
      subst e7
      refine w_cons (s_set sc59.nd 2 (ev_mod (ev_intc fi (ev_mul (ev_var 2 rfl (.int _)) ev_int (.inr (by decide)))) ev_int (by decide)) fun v8 H8 s8 hv8 => ?_)
      have e8 := hv8.intI
      subst e8
      refine w_one (s_ret (ev_mod (ev_intc fi (ev_fdivW (ev_var 2 rfl (.int _)) ev_int ⟨by decide, by decide⟩)) (ev_var 1 rfl (.int _)) (by omega)) fun v9 H9 s9 hv9 => ?_)
      have sX := ((s6.trans s7).trans s8).trans s9
      refine k _ v9 H9 (fun n' e => ?_) (m5.trans (Dm.of sX)) ⟨a, b', is', sX _ _ hp5, sX _ _ hq5, hl5, npq⟩ hv9
      have : n' = n := by
        have := List.cons.inj e
        have h1 : (n : Int) = (n' : Int) := by simpa [nI] using this.1
        omega
      subst this
      obtain ⟨r, hr1, hr2⟩ := emod_nat (i := (((f6 * f6 + 52361 * b' + 19) % 2147483399 * 40014) % 2147483563) / 64) n0
      exact ⟨r, hr1, by rw [nI, ← hr2]⟩
end
section
variable {X : Cx} {σ : L2.St} {H : Hp} {e e2 : Expr} {es : List Expr} {pos pn : Pos} {ds : List D} {k : Nat} {p q : Addr}
theorem we_dk {Q : VK} {x : Str} {ps : List Str} {pre : List D → Prop} {post : List D → D → Prop} (F : Pr X.prog X.w X.K X.mg X.base x k ps (spDk X.K pre post)) (hr : Rm k X.A) (hd : EvV X e σ H (.ref p)) (hD : Dck H p q) (ha : EvA X es σ H ds) (hp : pre ds)
    (h : ∀ d v H1, post ds d → Dm X.K p q H H1 → Dck H1 p q → Im X.K H1 v d → Q v H1) (hg : Gl X x := by rfl) (hdb : (x == ("__debug__" : Str)) = false := by decide)
    (he : starEach (e :: es) X.env = (false, eval e X.env) :: starEach es X.env := by rfl) (hpl : (backTo pos (starEach es X.env)).any (·.1) = false := by rfl) : WE X (.Call (.Name x pn) (e :: es) [] pos) σ H Q :=
  we_call F hr (wa_cons (hd H (Same.refl _) _ fun H1 s1 => ha H1 s1 _ fun vs H2 s2 hvs => ⟨p, q, vs, ds, rfl, hD.ex (s1.trans s2), hp, hvs, fun d v H3 hpo m hD3 hv => h d v H3 hpo ((Dm.of (s1.trans s2)).trans m) hD3 hv⟩) he) hg hdb he hpl
theorem we_draw {Q : VK} {n : Nat} (F : Pr X.prog X.w X.K X.mg X.base "_law_draw" k ["_law_deck_here", "_law_many"] (spDk X.K preDraw postDraw)) (hr : Rm k X.A) (hd : EvV X e σ H (.ref p)) (hD : Dck H p q) (ha : Ev X e2 σ H (.int (n : Int))) (h0 : 0 < n) (h1 : n ≤ 1000)
    (h : ∀ (r : Nat) H1, r < n → Dm X.K p q H H1 → Dck H1 p q → Q (.int (r : Nat)) H1) (hg : Gl X "_law_draw" := by rfl)
    (he : starEach [e, e2] X.env = (false, eval e X.env) :: starEach [e2] X.env := by rfl) (he2 : starEach [e2] X.env = (false, eval e2 X.env) :: starEach [] X.env := by rfl) (hpl : (backTo pos (starEach [e2] X.env)).any (·.1) = false := by rfl) : WE X (.Call (.Name "_law_draw" pn) [e, e2] [] pos) σ H Q :=
  we_dk F hr hd hD (ea_one ha he2) ⟨n, rfl, h0, h1⟩ (fun d v H1 hpo m hD1 hv => by
    obtain ⟨r, hr, rfl⟩ := hpo n rfl
    rw [hv.intI]
    exact h r H1 hr m hD1) hg (by decide) he hpl
theorem we_ixT {Q : VK} {a b : Expr} {v0 : V} (ha : EvV X a σ H v0) (hi : ∀ H1, Same H H1 → WE X b σ H1 fun y H2 => ∃ i d, y = .int i ∧ atI ds i = some d ∧ Im X.K H2 v0 (.tup ds) ∧ ∀ v, Im X.K H2 v d → Q v H2) (hs : PlainIx b := by exact fun _ _ => rfl) : WE X (.Subscript a b pos) σ H Q :=
  .of (pe_ix ix_tup pe_W pe_W hs) (ha H (Same.refl _) _ fun H2 s2 => (hi H2 s2).mono fun y H3 q => by
    obtain ⟨i, d, rfl, hx, h, kq⟩ := q
    obtain ⟨p, xs, rfl, h1, h2⟩ := h.tupI
    obtain ⟨k, hk, hk2⟩ := Option.bind_eq_some_iff.mp hx
    obtain ⟨v, hv1, hv2⟩ := h2.at_ hk2
    refine ⟨p, xs, i, v, rfl, rfl, h1, ?_, kq _ hv2⟩
    unfold atI
    rw [h2.len, hk]
    exact hv1)
end
section
variable {P : Program} {w : World} {K : PySem.W.Frag} {mg : Str → Option Value} {base : Heap}
def prePick (ds : List D) : Prop := ∃ es : List D, ds = [.tup es] ∧ es ≠ [] ∧ es.length ≤ 1000 ∧ D.pls es = true
def postPick (ds : List D) (d : D) : Prop := ∀ es : List D, ds = [.tup es] → d ∈ es
theorem sc60 : FnScope ["_law_deck_here", "_law_some"] ["_law_deck_here", "_law_some"] (defScope (top 60)) := ⟨rfl, rfl, rfl, by decide +kernel, rfl, by decide +kernel, by decide +kernel⟩
theorem pr_pick (T : Txt K mg) (F : Pr P w K mg base "_law_draw" 1 ["_law_deck_here", "_law_many"] (spDk K preDraw postDraw)) : Pr P w K mg base "_law_pick" 2 ["_law_deck_here", "_law_some"] (spDk K prePick postPick) := by
  have fl := T.free "len" (by decide)
  refine mk_pr T 42 rfl sc60 (fun _ _ _ _ _ _ us hl => match us, hl with | [_, _], _ => rfl) (fun vs H Q E h => ?_) (fun cdv A outer s H vs Q E hr h => ?_)
  · obtain ⟨p, q, vs', ds, rfl, _, ⟨n, rfl, _⟩, hI, _⟩ := h
    simpa using hI.len
  · obtain ⟨p, q, vs', ds, rfl, hD, ⟨es, rfl, hne, hle, hpl⟩, hI, k⟩ := h
    cases hI with
    | cons h2 hI =>
    cases hI
    have hpos := List.length_pos_iff.mpr hne
    refine w_one (s_retW (we_ixT (ds := es) (vv_var 1 rfl) fun H1 s1 => we_draw F hr (vv_var 0 rfl) (hD.ex s1) (ev_lenT fl (ea_one (ev_var 1 rfl (h2.ex s1)))) hpos hle fun r H2 hr2 m2 hD2 => ?_))
    have h3 := (h2.ex s1).up m2.tx (show (D.tup es).pl = true from hpl)
    refine ⟨r, es[r], rfl, atI_nat (by simp [hr2]), h3, fun v hv => ?_⟩
    refine k _ v H2 (fun es' e => ?_) ((Dm.of s1).trans m2) hD2 hv
    obtain rfl : es = es' := by simpa using e
    exact List.getElem_mem hr2
end
end Dr
set_option Elab.async false
set_option linter.all false
set_option maxRecDepth 100000
set_option maxHeartbeats 4000000
set_option pp.deepTerms false
set_option pp.maxSteps 400
namespace Dr
open PySem PySem.Spec PyProof.Rows L2
/-! ### tests and terms that draw -/
section
variable {X : Cx} {σ : L2.St} {H H' : Hp} {a b c e e2 : Expr} {es rest : List Expr} {pos p1 : Pos} {d d1 d2 : D} {ds : List D} {i j : Int} {Z : Ends} {k : Nat} {A B : List Stmt} {p q : Addr}
theorem wt_ev {t : Bool} {Q : Bool → Hp → Prop} (h : EvT X e σ H t) (q : ∀ H1, Same H H1 → Q t H1) : WT X e σ H Q := h H (Same.refl _) Q q
theorem wt_ww {Q : Bool → Hp → Prop} (h : WW X e σ H Q) : WT X e σ H Q := let ⟨t, h1, h2⟩ := h; ⟨t, h1.pt, h2⟩
theorem ww_and {Q : Bool → Hp → Prop} (h1 : WT X a σ H fun t H1 => (t = true → WW X (.BoolOp .And (b :: rest) pos) σ H1 Q) ∧ (t = false → Q false H1)) : WW X (.BoolOp .And (a :: b :: rest) pos) σ H Q := by
  obtain ⟨t, ht, hq⟩ := h1
  refine ⟨_, pw_and (tA := fun σ H Q' => ∃ Q0 : Bool → Hp → Prop, t σ H Q0 ∧ ∀ b H, Q0 b H → Q' b H) ⟨fun pins s σ H Q' I ⟨Q0, h, z⟩ => thn (ht.run pins s σ H Q0 I h) fun b s1 ⟨H1, I1, q1⟩ => ⟨H1, I1, z _ _ q1⟩⟩ pw_W, _, hq, fun b H1 q => ?_⟩
  cases b with
  | true => exact q.1 rfl
  | false => exact q.2 rfl
theorem ww_or {Q : Bool → Hp → Prop} (h1 : WT X a σ H fun t H1 => (t = false → WW X (.BoolOp .Or (b :: rest) pos) σ H1 Q) ∧ (t = true → Q true H1)) : WW X (.BoolOp .Or (a :: b :: rest) pos) σ H Q := by
  obtain ⟨t, ht, hq⟩ := h1
  refine ⟨_, pw_or (tA := fun σ H Q' => ∃ Q0 : Bool → Hp → Prop, t σ H Q0 ∧ ∀ b H, Q0 b H → Q' b H) ⟨fun pins s σ H Q' I ⟨Q0, h, z⟩ => thn (ht.run pins s σ H Q0 I h) fun b s1 ⟨H1, I1, q1⟩ => ⟨H1, I1, z _ _ q1⟩⟩ pw_W, _, hq, fun b H1 q => ?_⟩
  cases b with
  | true => exact q.2 rfl
  | false => exact q.1 rfl
theorem ww_and1 {Q : Bool → Hp → Prop} (h : WT X a σ H Q) : WW X (.BoolOp .And [a] pos) σ H Q := let ⟨_, h1, h2⟩ := h; ⟨_, pw_and1 h1, h2⟩
theorem ww_or1 {Q : Bool → Hp → Prop} (h : WT X a σ H Q) : WW X (.BoolOp .Or [a] pos) σ H Q := let ⟨_, h1, h2⟩ := h; ⟨_, pw_or1 h1, h2⟩
theorem WT.mono {Q Q2 : Bool → Hp → Prop} (h : WT X e σ H Q) (q : ∀ t H', Q t H' → Q2 t H') : WT X e σ H Q2 := by
  obtain ⟨t, ht, hq⟩ := h
  exact ⟨fun σ H Q' => ∃ Q0 : Bool → Hp → Prop, t σ H Q0 ∧ ∀ b H, Q0 b H → Q' b H, ⟨fun pins s σ H Q' I ⟨Q0, h, z⟩ => thn (ht.run pins s σ H Q0 I h) fun b s1 ⟨H1, I1, q1⟩ => ⟨H1, I1, z _ _ q1⟩⟩, _, hq, q⟩
theorem wt_eqI {Q : Bool → Hp → Prop} (ha : WE X a σ H fun v H1 => ∃ i, v = .int i ∧ ∀ H2, Same H1 H2 → Q (decide (i = j)) H2) (hb : ∀ H1, Ev X b σ H1 (.int j)) : WT X (.Compare a [.Eq] [b] pos) σ H Q :=
  .of (pt_cmpR op_eq pe_W pe_W (nomark _)) (ha.mono fun v H1 ⟨i, e, q⟩ => (hb H1).int H1 (Same.refl _) _ fun H2 s2 => by
    subst e
    exact ⟨rfl, _, rfl, by rw [show decide (V.int i = V.int j) = decide (i = j) by simp]; exact q H2 s2⟩)
theorem we_gtI {Q : VK} (ha : WE X a σ H fun v H1 => ∃ i, v = .int i ∧ ∀ H2, Same H1 H2 → Q (.bl (decide (j < i))) H2) (hb : ∀ H1, Ev X b σ H1 (.int j)) : WE X (.Compare a [.Gt] [b] pos) σ H Q :=
  .of (pe_cmpR op_gt pe_W pe_W (nomark _)) (ha.mono fun v H1 ⟨i, e, q⟩ => (hb H1).int H1 (Same.refl _) _ fun H2 s2 => by
    subst e
    exact ⟨i, j, rfl, rfl, q H2 s2⟩)
theorem we_add {Q : VK} (ha : Ev X a σ H (.int i)) (hb : ∀ H1, Same H H1 → WE X b σ H1 fun v H2 => ∃ j, v = .int j ∧ Q (.int (i + j)) H2) : WE X (.BinOp a .Add b pos) σ H Q :=
  .of (pe_op op_add pe_W pe_W) (ha.int H (Same.refl _) _ fun H2 s2 => (hb H2 s2).mono fun v H3 ⟨j, e, q⟩ => ⟨i, j, rfl, e, q⟩)
theorem s_ifW (h : WT X c σ H fun t H1 => (t = true → WSs X A Z σ H1) ∧ (t = false → WSs X B Z σ H1)) : WS X (.If c A B pos) Z σ H :=
  ⟨_, ps_if pt_W pss_W pss_W, h.mono fun t H1 q => by
    cases t with
    | true => exact q.1 rfl
    | false => exact q.2 rfl⟩
theorem we_ifW {Q : VK} (h : WT X c σ H fun t H1 => (t = true → WE X a σ H1 Q) ∧ (t = false → WE X b σ H1 Q)) : WE X (.IfExp c a b pos) σ H Q :=
  .of (pe_ifExp pt_W pe_W pe_W) (h.mono fun t H1 q => by
    cases t with
    | true => exact q.1 rfl
    | false => exact q.2 rfl)
theorem we_tup {Q : VK} (h : WA X es σ H fun vs H1 => vs.length ≤ sizeLine ∧ ∀ p, H1 p = none → Q (.ref p) (upd H1 p (.tup vs))) : WE X (.Tuple es k pos) σ H Q := .of (pe_tup pa_W) h
/-- l.append(e), e may draw -/
theorem s_appD {l : Addr} {apos cpos : Pos} (ha : EvV X a σ H (.ref l)) (hl : ∃ ds0, LsI X.K H l ds0)
    (he : ∀ H1, Same H H1 → WE X e σ H1 fun v H2 => ∃ ds d, LsI X.K H2 l ds ∧ Im X.K H2 v d ∧ d.pl = true ∧ D.pls ds = true ∧ ds.length < 100000 ∧ ∀ H3, Mu l H2 H3 → Tx X.K H2 H3 → LsI X.K H3 l (ds ++ [d]) → Z.nx σ H3)
    (hbase : attributeBase a "append" X.env (eval a X.env) = eval a X.env := by rfl)
    (hfew : ((backTo cpos (starEach [e] X.env)).all (fun x => !x.1) && (backToKw cpos (keywordEach [] X.env)).all (fun x => x.1.isSome)
      && decide (([e]).length + ([] : List Keyword).length + (if ([] : List Keyword).isEmpty then 0 else 1) < 30)) = true := by rfl)
    (hline : (apos.endLine == cpos.line) = true := by rfl) (hs : starEach [e] X.env = (false, eval e X.env) :: starEach [] X.env := by rfl) (hplain : (backTo cpos (starEach [] X.env)).any (·.1) = false := by rfl)
    (hsw : swapsWith (.Call (.Attribute a "append" apos) [e] [] cpos) none pos.line X.env = pure false := by rfl) : WS X (.Expr (.Call (.Attribute a "append" apos) [e] [] cpos) pos) Z σ H := by
  obtain ⟨ds0, xs0, h1, _⟩ := hl
  refine ⟨_, ps_expr (pe_bm PySem.F.plainAttrs_list PySem.F.slot_list_append PySem.F.type_list_append (r := rAppend) mt_append pe_W pa_W hbase hfew hline hs hplain) hsw, ha H (Same.refl _) _ fun H1 s1 => ⟨.inl ⟨rfl, xs0, .inl (.of (s1 _ _ h1))⟩, wa_cons ((he H1 s1).mono fun v H2 q => wa_nil ?_) hs⟩⟩
  obtain ⟨ds, d, ⟨xs, h3, h4⟩, hv, hd, hds, hz, q⟩ := q
  refine ⟨l, xs, v, rfl, rfl, h3, by rw [h4.len, sizeLine_eq]; omega, q _ ?_ (Tx.put h3 trivial) ⟨_, upd_same, ?_⟩⟩
  · unfold Mu
    rw [rm_upd]
    exact Same.refl _
  · refine (h4.app (.cons hv .nil)).up (Tx.put h3 trivial) (pls_all fun z m => ?_)
    rcases List.mem_append.mp m with m | m
    · exact pls_mem hds z m
    · rw [List.mem_singleton.mp m]; exact hd
end
section
variable {K : PySem.W.Frag} {p q l : Addr} {H H1 H2 : Hp}
theorem Dck.mu (h : Dck H p q) (m : Mu l H H1) (n1 : p ≠ l) (n2 : q ≠ l) : Dck H1 p q := by
  obtain ⟨a, b, is, h1, h2, h3, h4⟩ := h
  exact ⟨a, b, is, m.at n1 h1, m.at n2 h2, h3, h4⟩
theorem Dm.mu (h : Dm K p q H H1) (hl : H l = none) (m : Mu l H1 H2) (t : Tx K H1 H2) : Dm K p q H H2 :=
  ⟨fun a u n1 n2 e => m.at (fun z => by subst z; rw [hl] at e; cases e) (h.at' a u n1 n2 e), h.tx.trans t⟩
theorem Dck.ne1 (h : Dck H p q) (hl : H l = none) : p ≠ l := by
  rintro rfl
  obtain ⟨a, b, is, h1, _⟩ := h
  rw [hl] at h1; cases h1
theorem Dck.ne2 (h : Dck H p q) (hl : H l = none) : q ≠ l := by
  rintro rfl
  obtain ⟨a, b, is, _, h1, _⟩ := h
  rw [hl] at h1; cases h1
end
end Dr
set_option Elab.async false
set_option linter.all false
set_option maxRecDepth 100000
set_option maxHeartbeats 4000000
set_option pp.deepTerms false
set_option pp.maxSteps 400
namespace Dr
open PySem PySem.Spec PyProof.Rows L2
section
variable {P : Program} {w : World} {K : PySem.W.Frag} {mg : Str → Option Value} {base : Heap}
def preMach (ds : List D) : Prop := ∃ n many : Nat, ds = [nI n, nI many] ∧ 1 ≤ n ∧ n ≤ 8 ∧ 1 ≤ many ∧ many ≤ 12
def postMach (ds : List D) (d : D) : Prop := ∀ n many : Nat, ds = [nI n, nI many] → ∃ m : Mc, d = mD m ∧ m.Ok 12 ∧ m.n = n
theorem sc61 : FnScope ["_law_deck_here", "_law_n", "_law_many", "_law_standings", "_law_sure", "_law_at", "_law_near", "_law_far"] ["_law_deck_here", "_law_n", "_law_many"] (defScope (top 61)) := ⟨rfl, rfl, rfl, by decide +kernel, rfl, by decide +kernel, by decide +kernel⟩
theorem pr_mach (T : Txt K mg) (F : Pr P w K mg base "_law_draw" 1 ["_law_deck_here", "_law_many"] (spDk K preDraw postDraw)) (Pk : Pr P w K mg base "_law_pick" 2 ["_law_deck_here", "_law_some"] (spDk K prePick postPick)) : Pr P w K mg base "_law_machine" 3 ["_law_deck_here", "_law_n", "_law_many"] (spDk K preMach postMach) := by
  have fr := T.free "range" (by decide)
  have fn := T.free "min" (by decide)
  have ft := T.free "tuple" (by decide)
  refine mk_pr T 43 rfl sc61 (fun _ _ _ _ _ _ us hl => match us, hl with | [_, _, _], _ => rfl) (fun vs H Q E h => ?_) (fun cdv A outer s H vs Q E hr h => ?_)
  · obtain ⟨p, q, vs', ds, rfl, _, ⟨n, many, rfl, _⟩, hI, _⟩ := h
    simpa using hI.len
  · obtain ⟨p, q, vs', ds, rfl, hD, ⟨n, many, rfl, n1, n8, m1, m12⟩, hI, k⟩ := h
    cases hI with
    | cons h2 hI =>
    cases hI with
    | cons h3 hI =>
    cases hI
    have e2 := h2.intI
    have e3 := h3.intI
    subst e2 e3
    clear h2 h3
    have hr1 := hr.mono (show 1 ≤ 2 by decide)
    refine w_cons (s_par2W sc61.nd 3 4 (wa_cons (we_evl (el_lst ea_nil) fun l H1 hl1 s1 hL => wa_cons (we_gtI (j := 0) (we_draw F hr1 (vv_var 0 rfl) (hD.ex s1) ev_int (by decide) (by decide) fun r H2 hr2 m2 hD2 => ⟨_, rfl, fun H3 s3 => wa_nil ⟨_, _, rfl, ?_⟩⟩) fun _ => ev_int))))
    have hl0 : H l = none := hl1
    have hD3 := hD2.ex s3
    have ne1 : p ≠ l := hD.ne1 hl0
    have ne2 : q ≠ l := hD.ne2 hl0
    have m3 : Dm K p q H H3 := ((Dm.of s1).trans m2).trans (Dm.of s3)
    have hL3 : LsI K H3 l [] := (hL.dm (Ne.symm ne1) (Ne.symm ne2) m2 rfl).ex s3
    generalize decide ((0 : Int) < (r : Int)) = sure
    clear hL hD2 m2 s3 hl1 s1 H1 H2 hr2
    refine w_cons (s_for (wk_rng fr (n := many) (ev_var 2 rfl (.int _)) (by omega)) fun H4 s4 => ⟨fun j σ' H' => ∃ (rows : List Rw) (x5 x6 x7 : Option V), σ' = [some (.ref p), some (.int (n : Nat)), some (.int (many : Nat)), some (.ref l), some (.bl sure), x5, x6, x7] ∧ Dm K p q H H' ∧ Dck H' p q ∧ LsI K H' l (rows.map rowD) ∧ rows.length = j ∧ ∀ r ∈ rows, r.ok n many,
      ⟨[], none, none, none, rfl, m3.trans (Dm.of s4), hD3.ex s4, hL3.ex s4, rfl, fun r hr => nomatch hr⟩, fun _ _ _ _ => trivial, ?_, ?_⟩)
    · rintro j d v σ' H5 H6 hj ⟨rows, x5, x6, x7, rfl, m5, hD5, hL5, hlen, hok⟩ s6 hv
      have hjl : j < many := by
        have := (List.getElem?_eq_some_iff.mp hj).1
        simpa [rgD] using this
      have hd : d = .int (j : Nat) := by
        rw [rgD_at hjl] at hj
        exact ((Option.some.inj hj).symm.trans (by simp))
      subst hd
      have ev := hv.intI
      subst ev
      refine g_name sc61.nd 5 ?_
      have add : ∀ {H8 H9 : Hp} {r : Rw} (x6 x7 : Option V), Dm K p q H H8 → Dck H8 p q → r.ok n many → Mu l H8 H9 → Tx K H8 H9 → LsI K H9 l (rows.map rowD ++ [rowD r]) →
          ∃ (rows' : List Rw) (y5 y6 y7 : Option V), [some (.ref p), some (.int (n : Nat)), some (.int (many : Nat)), some (.ref l), some (.bl sure), some (.int (j : Nat)), x6, x7] = [some (.ref p), some (.int (n : Nat)), some (.int (many : Nat)), some (.ref l), some (.bl sure), y5, y6, y7] ∧ Dm K p q H H9 ∧ Dck H9 p q ∧ LsI K H9 l (rows'.map rowD) ∧ rows'.length = j + 1 ∧ ∀ r ∈ rows', r.ok n many := fun {H8 H9 r} x6 x7 m8 hD8 hok8 mu tx hL9 =>
        ⟨rows ++ [r], _, _, _, rfl, m8.mu hl0 mu tx, hD8.mu mu ne1 ne2, LsI.cast hL9 (by rw [List.map_append]; rfl), by rw [List.length_append, hlen]; rfl, fun r' hr' => by
          rcases List.mem_append.mp hr' with h | h
          · exact hok r' h
          · rw [List.mem_singleton.mp h]; exact hok8⟩
      refine w_one (s_ifW (WT.mono (Q := fun t H7 => Dm K p q H H7 ∧ Dck H7 p q ∧ LsI K H7 l (rows.map rowD) ∧ (t = false → sure = true → j + 1 < many)) ?_ fun t H7 ⟨m7, hD7, hL7, hsure⟩ => ⟨fun _ => ?_, fun et => ?_⟩))
      · have fin : ∀ (t : Bool) (H7 : Hp), Dm K p q H6 H7 → Dck H7 p q → (t = false → sure = true → j + 1 < many) → Dm K p q H H7 ∧ Dck H7 p q ∧ LsI K H7 l (rows.map rowD) ∧ (t = false → sure = true → j + 1 < many) := fun t H7 m7 hD7 hs =>
          ⟨(m5.trans (Dm.of s6)).trans m7, hD7, (hL5.ex s6).dm (Ne.symm ne1) (Ne.symm ne2) m7 (pls_map rowD_pl _), hs⟩
        have hD6 := hD5.ex s6
        refine wt_ww (ww_or (WT.mono (Q := fun t H8 => Dm K p q H6 H8 ∧ Dck H8 p q ∧ (t = false → ¬ (j + 1 = many ∧ sure = true))) ?_ fun t H8 ⟨m8, hD8, hn⟩ => ⟨fun et => ?_, fun et => fin _ _ m8 hD8 fun q => nomatch q⟩))
        · refine wt_ww (ww_and (wt_ev (et_eqI (i := ((j : Int) + 1)) (j := (many : Int)) (ev_add (ev_var 5 rfl (.int _)) ev_int) (ev_var 2 rfl (.int _))) fun H8 s8 => ⟨fun e1 => ww_and1 (wt_ww (ww_or (wt_ev (et_val (t := sure) (ev_var 4 rfl (.bl _))) fun H9 s9 => ⟨fun e2 => ww_or1 (wt_eqI (j := 0) (we_draw F hr1 (vv_var 0 rfl) (hD6.ex (s8.trans s9)) ev_int (by decide) (by decide) fun r H10 hr10 m10 hD10 => ⟨_, rfl, fun H11 s11 => ⟨((Dm.of (s8.trans s9)).trans m10).trans (Dm.of s11), hD10.ex s11, fun _ h => by
            have := h.2
            rw [e2] at this; cases this⟩⟩) fun _ => ev_int), fun e2 => ⟨Dm.of (s8.trans s9), hD6.ex (s8.trans s9), fun q => nomatch q⟩⟩))), fun e1 => ⟨Dm.of s8, hD6.ex s8, fun _ h => by
            have := of_decide_eq_false e1
            omega⟩⟩))
        · have hn := hn et
          have hno : sure = true → j + 1 < many := fun hs => by
            by_cases h : j + 1 = many
            · exact absurd ⟨h, hs⟩ hn
            · omega
          exact ww_or1 (wt_ww (ww_and (wt_ev (et_gt (i := (j : Int)) (j := 0) (ev_var 5 rfl (.int _)) ev_int) fun H9 s9 => ⟨fun _ => ww_and1 (wt_eqI (j := 0) (we_draw F hr1 (vv_var 0 rfl) (hD8.ex s9) ev_int (by decide) (by decide) fun r H10 hr10 m10 hD10 => ⟨_, rfl, fun H11 s11 => fin _ _ (((m8.trans (Dm.of s9)).trans m10).trans (Dm.of s11)) (hD10.ex s11) fun _ => hno⟩) fun _ => ev_int), fun _ => fin _ _ (m8.trans (Dm.of s9)) (hD8.ex s9) fun _ => hno⟩)))
      · refine w_one (s_appD (vv_var 3 rfl) ⟨_, hL7⟩ fun H8 s8 => we_tup (wa_cons (we_ev ev_str fun v8 H9 s9 hv8 => wa_cons (we_draw F hr1 (vv_var 0 rfl) (hD7.ex (s8.trans s9)) (ev_var 1 rfl (.int _)) (by omega) (by omega) fun r H10 hr10 m10 hD10 => wa_nil ⟨by exact Nat.le_of_ble_eq_true rfl, fun a ha => ?_⟩))))
        have sa := Same.new (o := .tup [v8, .int (r : Nat)]) ha
        have e8 := hv8.strI
        subst e8
        exact ⟨_, rowD (.out r), ((hL7.ex (s8.trans s9)).dm (Ne.symm ne1) (Ne.symm ne2) m10 (pls_map rowD_pl _)).ex sa, .tup (.of upd_same) (.cons (.str _) (.cons (.int _) .nil)), rowD_pl _, pls_map rowD_pl _, by rw [List.length_map]; omega, fun H11 mu tx hL11 =>
          add _ _ (((m7.trans (Dm.of (s8.trans s9))).trans m10).trans (Dm.of sa)) (hD10.ex sa) (r := .out r) hr10 mu tx hL11⟩
      · have hsure := hsure et
        refine w_cons (s_setW sc61.nd 6 (WE.mono (Q := fun v H8 => ∃ near : Nat, v = .int (near : Nat) ∧ near < many ∧ Dm K p q H7 H8 ∧ Dck H8 p q) ?_ ?_))
        · refine we_ifW (wt_ev (et_val (t := sure) (ev_var 4 rfl (.bl _))) fun H8 s8 => ⟨fun hs => we_add (i := (j : Int) + 1) (ev_add (ev_var 5 rfl (.int _)) ev_int) fun H9 s9 => we_draw (n := many - j - 1) F hr1 (vv_var 0 rfl) (hD7.ex (s8.trans s9)) (Ev.cast (ev_sub (ev_sub (ev_var 2 rfl (.int _)) (ev_var 5 rfl (.int _))) ev_int) ?_) ?_ (by omega) fun r H10 hr10 m10 hD10 => ⟨r, rfl, j + 1 + r, ?_, ?_, (Dm.of (s8.trans s9)).trans m10, hD10⟩,
            fun hs => we_draw F hr1 (vv_var 0 rfl) (hD7.ex s8) (ev_var 2 rfl (.int _)) (by omega) (by omega) fun r H10 hr10 m10 hD10 => ⟨r, rfl, hr10, (Dm.of s8).trans m10, hD10⟩⟩)
          · have := hsure hs
            congr 1
            omega
          · have := hsure hs
            omega
          · simp
          · have := hsure hs
            omega
        rintro _ H8 ⟨near, rfl, hnear, m8, hD8⟩
        refine w_cons (s_setW sc61.nd 7 (WE.mono (Q := fun v H9 => ∃ far : Nat, v = .int (far : Nat) ∧ far < many ∧ Dm K p q H8 H9 ∧ Dck H9 p q) ?_ ?_))
        · refine we_call Pk hr (wa_cons ((vv_var 0 rfl) H8 (Same.refl _) _ fun H9 s9 => wa_cons (we_tup (wa_cons (we_draw F hr1 (vv_var 0 rfl) (hD8.ex s9) (ev_var 2 rfl (.int _)) (by omega) (by omega) fun r H10 hr10 m10 hD10 => wa_cons (we_ev (ev_min2 (i := (many : Int) - 1) (j := (j : Int) + 1) rfl fn (ev_sub (ev_var 2 rfl (.int _)) ev_int) (ev_add (ev_var 5 rfl (.int _)) ev_int)) fun v1 H11 s11 hv1 => wa_cons (we_ev (ev_min2 (i := (many : Int) - 1) (j := (j : Int) + 2) rfl fn (ev_sub (ev_var 2 rfl (.int _)) ev_int) (ev_add (ev_var 5 rfl (.int _)) ev_int)) fun v2 H12 s12 hv2 => wa_nil ⟨by exact Nat.le_of_ble_eq_true rfl, fun a ha => wa_nil ?_⟩)))))))
          have sa := Same.new (o := .tup [.int (r : Nat), v1, v2]) ha
          refine ⟨p, q, _, [.tup [nI r, _, _]], rfl, (hD10.ex (s11.trans s12)).ex sa, ⟨_, rfl, by simp, by exact Nat.le_of_ble_eq_true rfl, ?_⟩, .cons (.tup (.of upd_same) (.cons (.int _) (.cons ((hv1.ex s12).ex sa) (.cons (hv2.ex sa) .nil)))) .nil, fun d v H13 hpo m13 hD13 hv13 => ?_⟩
          · rfl
          · have hm := hpo _ rfl
            have : ∃ far : Nat, d = nI far ∧ far < many := by
              rcases List.mem_cons.mp hm with h | hm
              · exact ⟨r, h, hr10⟩
              · rcases List.mem_cons.mp hm with h | hm
                · refine ⟨if j + 1 < many - 1 then j + 1 else many - 1, ?_, by split <;> omega⟩
                  rw [h, nI]
                  congr 1
                  split <;> split <;> omega
                · rw [List.mem_singleton] at hm
                  refine ⟨if j + 2 < many - 1 then j + 2 else many - 1, ?_, by split <;> omega⟩
                  rw [hm, nI]
                  congr 1
                  split <;> split <;> omega
            obtain ⟨far, rfl, hfar⟩ := this
            exact ⟨far, hv13.intI, hfar, ((((Dm.of s9).trans m10).trans (Dm.of (s11.trans s12))).trans (Dm.of sa)).trans m13, hD13⟩
        rintro _ H9 ⟨far, rfl, hfar, m9, hD9⟩
        have m79 := m8.trans m9
        have hL9 := hL7.dm (Ne.symm ne1) (Ne.symm ne2) m79 (pls_map rowD_pl _)
        have done : ∀ (x y : Nat) (v : V) (H10 H11 : Hp), x < many → y < many → Dm K p q H9 H10 → Dck H10 p q → Same H10 H11 → Im K H11 v (rowD (.toss x y)) → Dm K p q H H11 ∧ Dck H11 p q ∧ LsI K H11 l (rows.map rowD) := fun x y v H10 H11 hx hy m10 hD10 s11 hv =>
          ⟨((m7.trans m79).trans m10).trans (Dm.of s11), hD10.ex s11, (hL9.dm (Ne.symm ne1) (Ne.symm ne2) m10 (pls_map rowD_pl _)).ex s11⟩
        refine w_one (s_appD (vv_var 3 rfl) ⟨_, hL9⟩ fun H10 s10 => we_ifW (wt_eqI (j := 0) (we_draw F hr1 (vv_var 0 rfl) (hD9.ex s10) ev_int (by decide) (by decide) fun r H11 hr11 m11 hD11 => ⟨_, rfl, fun H12 s12 => ⟨fun _ => ?_, fun _ => ?_⟩⟩) fun _ => ev_int))
        · refine we_ev (ev_tup (ea_cons ev_str (ea_cons (ev_var 6 rfl (.int _)) (ea_one (ev_var 7 rfl (.int _)))))) fun v H13 s13 hv13 => ?_
          obtain ⟨g1, g2, g3⟩ := done near far v H11 H13 hnear hfar ((Dm.of s10).trans m11) hD11 (s12.trans s13) hv13
          exact ⟨_, rowD (.toss near far), g3, hv13, rowD_pl _, pls_map rowD_pl _, by rw [List.length_map]; omega, fun H14 mu tx hL14 => add _ _ g1 g2 (r := .toss near far) ⟨hnear, hfar⟩ mu tx hL14⟩
        · refine we_ev (ev_tup (ea_cons ev_str (ea_cons (ev_var 7 rfl (.int _)) (ea_one (ev_var 6 rfl (.int _)))))) fun v H13 s13 hv13 => ?_
          obtain ⟨g1, g2, g3⟩ := done far near v H11 H13 hfar hnear ((Dm.of s10).trans m11) hD11 (s12.trans s13) hv13
          exact ⟨_, rowD (.toss far near), g3, hv13, rowD_pl _, pls_map rowD_pl _, by rw [List.length_map]; omega, fun H14 mu tx hL14 => add _ _ g1 g2 (r := .toss far near) ⟨hfar, hnear⟩ mu tx hL14⟩
    · rintro σ' H5 ⟨rows, x5, x6, x7, rfl, m5, hD5, hL5, hlen, hok⟩
      have hlen : rows.length = many := by rw [hlen]; simp [rgD]
      refine w_one (s_ret (ev_tup (ea_cons (ev_var 1 rfl (.int _)) (ea_one (ev_tupleV ft (vv_var 3 rfl) hL5)))) fun v6 H6 s6 hv6 => ?_)
      refine k _ v6 H6 (fun n' many' e => ?_) (m5.trans (Dm.of s6)) (hD5.ex s6) hv6
      have e1 : n' = n ∧ many' = many := by
        have h1 : (n : Int) = (n' : Int) ∧ (many : Int) = (many' : Int) := by simpa [nI] using e
        omega
      obtain ⟨rfl, rfl⟩ := e1
      exact ⟨⟨n', rows⟩, rfl, ⟨n1, n8, by show 0 < rows.length; omega, by show rows.length ≤ 12; omega, fun r hr => by show r.ok n' rows.length; rw [hlen]; exact hok r hr⟩, rfl⟩
end
end Dr
set_option Elab.async false
set_option linter.all false
set_option maxRecDepth 100000
set_option maxHeartbeats 4000000
set_option pp.deepTerms false
set_option pp.maxSteps 400
namespace Dr
open PySem PySem.Spec PyProof.Rows L2
def cutD (ds : List D) (lo hi : Option Int) : List D := (ds.drop (HT.sIx ds.length 0 lo)).take (HT.sIx ds.length ds.length hi - HT.sIx ds.length 0 lo)
theorem Ims.dropD {K : PySem.W.Frag} {H : Hp} : ∀ (n : Nat) {xs : List V} {ds : List D}, Ims K H xs ds → Ims K H (xs.drop n) (ds.drop n)
  | 0, _, _, h => h
  | n + 1, _, _, .nil => .nil
  | n + 1, _, _, .cons _ h => Ims.dropD n h
theorem Ims.takeD {K : PySem.W.Frag} {H : Hp} : ∀ (n : Nat) {xs : List V} {ds : List D}, Ims K H xs ds → Ims K H (xs.take n) (ds.take n)
  | 0, _, _, _ => .nil
  | n + 1, _, _, .nil => .nil
  | n + 1, _, _, .cons h1 h => .cons h1 (Ims.takeD n h)
theorem Ims.cut {K : PySem.W.Frag} {H : Hp} {xs : List V} {ds : List D} (h : Ims K H xs ds) (lo hi : Option Int) : Ims K H (cutV xs lo hi) (cutD ds lo hi) := by
  unfold cutV cutD
  rw [h.len]
  exact Ims.takeD _ (Ims.dropD _ h)
section
variable {X : Cx} {σ : L2.St} {H H' : Hp} {a b c e e2 : Expr} {es rest : List Expr} {pos p1 p2 : Pos} {d d1 d2 : D} {ds : List D} {i j : Int} {Z : Ends} {k : Nat}
theorem cut_whole {ds : List D} {lo hi : Option Int} (h : HT.sIx ds.length 0 lo = 0 ∧ HT.sIx ds.length ds.length hi = ds.length) : cutD ds lo hi = ds := by
  unfold cutD
  rw [h.1, h.2]
  simp
theorem sl_fin {Q : VK} {lo hi : Option Int} {v : V} {H3 : Hp} (hv : Im X.K H3 v (.tup ds)) (q : ∀ v H', Same H3 H' → Im X.K H' v (.tup (cutD ds lo hi)) → Q v H') : rSlA X.K v lo hi H3 Q := by
  obtain ⟨p, xs, rfl, h1, h2⟩ := hv.tupI
  refine ⟨p, xs, rfl, h1, fun z => ?_, fun _ r hr => ?_⟩
  · rw [h2.len] at z
    exact q _ H3 (Same.refl _) (by rw [cut_whole z]; exact .tup h1 h2)
  · exact q _ _ (Same.new hr) (.tup (.of upd_same) ((h2.cut lo hi).ex (Same.new hr)))
theorem ev_slLo (ha : Ev X a σ H (.tup ds)) (hb : Ev X b σ H (.int i)) : Ev X (.Subscript a (.Slice (some b) none none p2) pos) σ H (.tup (cutD ds (some i) none)) :=
  fun H1 s Q q => .of (pe_slice sl_tupA pe_W (po_some pe_W) po_none) (ha H1 s _ fun v H2 s2 hv => hb.int H2 (s.trans s2) _ fun H3 s3 => ⟨i, rfl, sl_fin (hv.ex s3) fun v H' s4 hv' => q v H' ((s2.trans s3).trans s4) hv'⟩)
theorem ev_slHi (ha : Ev X a σ H (.tup ds)) (hb : Ev X b σ H (.int i)) : Ev X (.Subscript a (.Slice none (some b) none p2) pos) σ H (.tup (cutD ds none (some i))) :=
  fun H1 s Q q => .of (pe_slice sl_tupA pe_W po_none (po_some pe_W)) (ha H1 s _ fun v H2 s2 hv => hb.int H2 (s.trans s2) _ fun H3 s3 => ⟨i, rfl, sl_fin (hv.ex s3) fun v H' s4 hv' => q v H' ((s2.trans s3).trans s4) hv'⟩)
theorem cutD_lo {n : Nat} (h : n ≤ ds.length) : cutD ds (some (n : Int)) none = ds.drop n := by
  unfold cutD
  rw [HT.sIx_nat, HT.sIx_none, Nat.min_eq_left h]
  exact List.take_of_length_le (by rw [List.length_drop]; exact Nat.le_refl _)
theorem cutD_hi {n : Nat} (h : n ≤ ds.length) : cutD ds none (some (n : Int)) = ds.take n := by
  unfold cutD
  rw [HT.sIx_nat, HT.sIx_none, Nat.min_eq_left h]
  simp
theorem cutD_neg1 : cutD ds none (some (-1)) = ds.dropLast := by
  unfold cutD
  rw [HT.sIx_none]
  have e : HT.sIx ds.length ds.length (some (-1)) = ds.length - 1 := by
    show (if (-1 : Int) < 0 then ((-1 : Int) + (ds.length : Int)).toNat else min (-1 : Int).toNat ds.length) = _
    rw [if_pos (by decide)]
    omega
  rw [e, List.dropLast_eq_take]
  rfl
/-- target = e -/
theorem s_asg {tg : Expr} (h : WE X e σ H fun v H1 => WG X tg v σ H1 Z.nx) (hsw : swapsWithSole [tg] e pos.line X.env = pure false := by rfl) (hw : swappedStores [tg] e X.env = pure none := by rfl)
    (h1 : (assignEach [tg] X.env).map (·.2) = [assign tg X.env] := by rfl) : WS X (.Assign [tg] e pos) Z σ H :=
  ⟨_, ps_asg pe_W (pg_W (tg := tg)) hsw hw h1, h⟩
end
end Dr
set_option Elab.async false
set_option linter.all false
set_option maxRecDepth 100000
set_option maxHeartbeats 4000000
set_option pp.deepTerms false
set_option pp.maxSteps 400
namespace Dr
open PySem PySem.Spec PyProof.Rows L2
section
variable {P : Program} {w : World} {K : PySem.W.Frag} {mg : Str → Option Value} {base : Heap}
def preChg (ds : List D) : Prop := ∃ m : Mc, ds = [mD m] ∧ m.Ok 15
def postChg (ds : List D) (d : D) : Prop := ∀ m : Mc, ds = [mD m] → ∃ m' : Mc, d = mD m' ∧ m'.Ok 15 ∧ m'.n = m.n
theorem sc67 : FnScope ["_law_deck_here", "_law_machine_here", "_law_n", "_law_standings", "_law_at", "_law_many", "_law_row"] ["_law_deck_here", "_law_machine_here"] (defScope (top 67)) := ⟨rfl, rfl, rfl, by decide +kernel, rfl, by decide +kernel, by decide +kernel⟩
theorem pr_chg (T : Txt K mg) (F : Pr P w K mg base "_law_draw" 1 ["_law_deck_here", "_law_many"] (spDk K preDraw postDraw)) : Pr P w K mg base "_law_changed" 2 ["_law_deck_here", "_law_machine_here"] (spDk K preChg postChg) := by
  have fl := T.free "len" (by decide)
  refine mk_pr T 49 rfl sc67 (fun _ _ _ _ _ _ us hl => match us, hl with | [_, _], _ => rfl) (fun vs H Q E h => ?_) (fun cdv A outer s H vs Q E hr h => ?_)
  · obtain ⟨p, q, vs', ds, rfl, _, ⟨m, rfl, _⟩, hI, _⟩ := h
    simpa using hI.len
  · obtain ⟨p, q, vs', ds, rfl, hD, ⟨m, rfl, ok⟩, hI, k⟩ := h
    cases hI with
    | @cons v1 _ _ _ h2 hI =>
    cases hI
    have n1 := ok.n1
    have n8 := ok.n8
    have pos := ok.pos
    have le := ok.le
    have hr1 := hr
    refine w_cons (s_asg (we_ev (ev_var 1 rfl h2) fun v H1 s1 hv => g_pair (d1 := nI m.n) (d2 := .tup (m.rows.map rowD)) sc67.nd 2 3 hv fun v2 v3 hv2 hv3 => ?_))
    have e2 := hv2.intI
    subst e2
    have pl3 : (D.tup (m.rows.map rowD)).pl = true := pls_map rowD_pl _
    refine w_cons (s_par2W sc67.nd 4 5 (wa_cons (we_draw (n := m.rows.length) F hr1 (vv_var 0 rfl) (hD.ex s1) (Ev.cast (ev_lenT fl (ea_one (ev_var 3 rfl hv3))) (by rw [List.length_map])) pos (by omega) fun a H2 ha m2 hD2 => wa_cons (we_ev (Ev.cast (ev_lenT fl (ea_one (ev_var 3 rfl (hv3.up m2.tx pl3)))) (by rw [List.length_map])) fun v5 H3 s3 hv5 => wa_nil ⟨_, _, rfl, ?_⟩))))
    have e5 := hv5.intI
    subst e5
    have hv3' := (hv3.up m2.tx pl3).ex s3
    have m3 : Dm K p q H H3 := ((Dm.of s1).trans m2).trans (Dm.of s3)
    have hD3 := hD2.ex s3
    obtain ⟨r, hr0, hrok⟩ := ok.at ha
    refine w_cons (s_set sc67.nd 6 (ev_ixT (d := rowD r) (ev_var 3 rfl hv3') (ev_var 4 rfl (.int _)) (atI_nat (j := a) (by rw [List.getElem?_map, hr0]; rfl))) fun v6 H4 s4 hv6 => ?_)
    have m4 := m3.trans (Dm.of s4)
    have hD4 := hD3.ex s4
    refine w_cut (fun σ' H' => ∃ (v : V) (r' : Rw), σ' = [some (.ref p), some v1, some (.int (m.n : Nat)), some v3, some (.int (a : Nat)), some (.int (m.rows.length : Nat)), some v] ∧ Dm K p q H4 H' ∧ Dck H' p q ∧ Im K H' v (rowD r') ∧ r'.ok m.n m.rows.length) ?_ ?_
    · have rowTwo : ∀ (x y : Nat) (v : V) (H5 H6 : Hp), x < m.rows.length → y < m.rows.length → Dm K p q H4 H5 → Dck H5 p q → Same H5 H6 → Im K H6 v (rowD (.toss x y)) → ∃ (v' : V) (r' : Rw), [some (V.ref p), some v1, some (.int (m.n : Nat)), some v3, some (.int (a : Nat)), some (.int (m.rows.length : Nat)), some v] = [some (.ref p), some v1, some (.int (m.n : Nat)), some v3, some (.int (a : Nat)), some (.int (m.rows.length : Nat)), some v'] ∧ Dm K p q H4 H6 ∧ Dck H6 p q ∧ Im K H6 v' (rowD r') ∧ r'.ok m.n m.rows.length :=
        fun x y v H5 H6 hx hy m5 hD5 s6 hv => ⟨v, .toss x y, rfl, m5.trans (Dm.of s6), hD5.ex s6, hv, hx, hy⟩
      refine s_if (et_outC (ev_var 6 rfl hv6)) (fun _ H5 s5 => ?_) fun tr H5 s5 => ?_
      · refine w_one (s_setW sc67.nd 6 (we_ifW (wt_eqI (j := 0) (we_draw F hr1 (vv_var 0 rfl) (hD4.ex s5) ev_int (by decide) (by decide) fun b H6 hb m6 hD6 => ⟨_, rfl, fun H7 s7 => ⟨fun _ => ?_, fun _ => ?_⟩⟩) fun _ => ev_int)))
        · refine we_tup (wa_cons (we_ev ev_str fun v8 H8 s8 hv8 => wa_cons (we_draw F hr1 (vv_var 0 rfl) (hD6.ex (s7.trans s8)) (ev_var 2 rfl (.int _)) (by omega) (by omega) fun i H9 hi m9 hD9 => wa_nil ⟨by exact Nat.le_of_ble_eq_true rfl, fun c hc => ?_⟩)))
          have sa := Same.new (o := .tup [v8, .int (i : Nat)]) hc
          have e8 := hv8.strI
          subst e8
          exact ⟨_, .out i, rfl, ((((Dm.of s5).trans m6).trans (Dm.of (s7.trans s8))).trans m9).trans (Dm.of sa), hD9.ex sa, .tup (.of upd_same) (.cons (.str _) (.cons (.int _) .nil)), hi⟩
        · refine we_tup (wa_cons (we_ev ev_str fun v8 H8 s8 hv8 => wa_cons (we_draw F hr1 (vv_var 0 rfl) (hD6.ex (s7.trans s8)) (ev_var 5 rfl (.int _)) (by omega) (by omega) fun i H9 hi m9 hD9 => wa_cons (we_draw F hr1 (vv_var 0 rfl) hD9 (ev_var 5 rfl (.int _)) (by omega) (by omega) fun j H10 hj m10 hD10 => wa_nil ⟨by exact Nat.le_of_ble_eq_true rfl, fun c hc => ?_⟩))))
          have sa := Same.new (o := .tup [v8, .int (i : Nat), .int (j : Nat)]) hc
          have e8 := hv8.strI
          subst e8
          exact ⟨_, .toss i j, rfl, (((((Dm.of s5).trans m6).trans (Dm.of (s7.trans s8))).trans m9).trans m10).trans (Dm.of sa), hD10.ex sa, .tup (.of upd_same) (.cons (.str _) (.cons (.int _) (.cons (.int _) .nil))), hi, hj⟩
      · cases r with
        | out i => cases tr
        | toss x y =>
        obtain ⟨hx, hy⟩ := hrok
        have px : (rowD (.toss x y)).pl = true := rowD_pl _
        refine w_one (s_ifW (wt_eqI (j := 0) (we_draw F hr1 (vv_var 0 rfl) (hD4.ex s5) ev_int (by decide) (by decide) fun b H6 hb m6 hD6 => ⟨_, rfl, fun H7 s7 => ⟨fun _ => ?_, fun _ => ?_⟩⟩) fun _ => ev_int))
        · have hv7 := ((hv6.ex s5).up m6.tx px).ex s7
          refine w_one (s_set sc67.nd 6 (d := rowD (.toss y x)) (ev_tup (ea_cons ev_str (ea_cons (ev_ixT (d := nI y) (ev_var 6 rfl hv7) ev_int rfl) (ea_one (ev_ixT (d := nI x) (ev_var 6 rfl hv7) ev_int rfl))))) fun v8 H8 s8 hv8 => ?_)
          exact rowTwo y x v8 H7 H8 hy hx (((Dm.of s5).trans m6).trans (Dm.of s7)) (hD6.ex s7) s8 hv8
        · have hv7 := ((hv6.ex s5).up m6.tx px).ex s7
          refine w_one (s_setW sc67.nd 6 (we_ifW (wt_eqI (j := 0) (we_draw F hr1 (vv_var 0 rfl) (hD6.ex s7) ev_int (by decide) (by decide) fun b2 H8 hb2 m8 hD8 => ⟨_, rfl, fun H9 s9 => ⟨fun _ => ?_, fun _ => ?_⟩⟩) fun _ => ev_int)))
          · have hv9 := (hv7.up m8.tx px).ex s9
            refine we_tup (wa_cons (we_ev ev_str fun v8 H10 s10 hv8 => wa_cons (we_draw F hr1 (vv_var 0 rfl) (hD8.ex (s9.trans s10)) (ev_var 5 rfl (.int _)) (by omega) (by omega) fun i H11 hi m11 hD11 => wa_cons (we_ev (ev_ixT (d := nI y) (ev_var 6 rfl ((hv9.ex s10).up m11.tx px)) ev_int rfl) fun v12 H12 s12 hv12 => wa_nil ⟨by exact Nat.le_of_ble_eq_true rfl, fun c hc => ?_⟩))))
            have sa := Same.new (o := .tup [v8, .int (i : Nat), v12]) hc
            have e8 := hv8.strI
            have e12 := hv12.intI
            subst e8 e12
            exact ⟨_, .toss i y, rfl, (((((((Dm.of s5).trans m6).trans (Dm.of s7)).trans m8).trans (Dm.of (s9.trans s10))).trans m11).trans (Dm.of s12)).trans (Dm.of sa), (hD11.ex s12).ex sa, .tup (.of upd_same) (.cons (.str _) (.cons (.int _) (.cons (.int _) .nil))), hi, hy⟩
          · have hv9 := (hv7.up m8.tx px).ex s9
            refine we_tup (wa_cons (we_ev ev_str fun v8 H10 s10 hv8 => wa_cons (we_ev (ev_ixT (d := nI x) (ev_var 6 rfl (hv9.ex s10)) ev_int rfl) fun v12 H12 s12 hv12 => wa_cons (we_draw F hr1 (vv_var 0 rfl) (hD8.ex ((s9.trans s10).trans s12)) (ev_var 5 rfl (.int _)) (by omega) (by omega) fun i H11 hi m11 hD11 => wa_nil ⟨by exact Nat.le_of_ble_eq_true rfl, fun c hc => ?_⟩))))
            have sa := Same.new (o := .tup [v8, v12, .int (i : Nat)]) hc
            have e8 := hv8.strI
            have e12 := hv12.intI
            subst e8 e12
            exact ⟨_, .toss x i, rfl, ((((((Dm.of s5).trans m6).trans (Dm.of s7)).trans m8).trans (Dm.of ((s9.trans s10).trans s12))).trans m11).trans (Dm.of sa), hD11.ex sa, .tup (.of upd_same) (.cons (.str _) (.cons (.int _) (.cons (.int _) .nil))), hx, hi⟩
    · rintro σ' H5 ⟨v, r', rfl, m5, hD5, hv, hok'⟩
      have hv5 := (hv3'.ex s4).up m5.tx pl3
      have hlen : (m.rows.map rowD).length = m.rows.length := List.length_map ..
      refine w_one (s_ret (ev_tup (ea_cons (ev_var 2 rfl (.int _)) (ea_one (Ev.cast (ev_cat (ev_cat (ev_slHi (i := (a : Int)) (ev_var 3 rfl hv5) (ev_var 4 rfl (.int _))) (ev_tup (ea_one (ev_var 6 rfl hv))) ?_) (ev_slLo (i := ((a + 1 : Nat) : Int)) (ev_var 3 rfl hv5) (Ev.cast (ev_add (ev_var 4 rfl (.int _)) ev_int) (by simp))) ?_) (show _ = D.tup ((m.rows.take a ++ [r'] ++ m.rows.drop (a + 1)).map rowD) from ?_))))) fun v6 H6 s6 hv6 => ?_)
      · rw [cutD_hi (by rw [hlen]; omega), sizeLine_eq]; simp; omega
      · rw [cutD_hi (by rw [hlen]; omega), cutD_lo (by rw [hlen]; omega), sizeLine_eq]; simp; omega
      · rw [cutD_hi (by rw [hlen]; omega), cutD_lo (by rw [hlen]; omega)]
        simp [List.map_take, List.map_drop]
      · refine k _ v6 H6 (fun m' e => ?_) ((m4.trans m5).trans (Dm.of s6)) (hD5.ex s6) hv6
        have hL : (m.rows.take a ++ [r'] ++ m.rows.drop (a + 1)).length = m.rows.length := by simp; omega
        have em : m = m' := mD_inj (by simpa using e)
        subst em
        refine ⟨⟨m.n, m.rows.take a ++ [r'] ++ m.rows.drop (a + 1)⟩, rfl, ⟨n1, n8, by show 0 < List.length _; rw [hL]; exact pos, by show List.length _ ≤ 15; rw [hL]; exact le, fun r2 hr2 => ?_⟩, rfl⟩
        show r2.ok m.n (List.length _)
        rw [hL]
        rcases List.mem_append.mp hr2 with h | h
        · rcases List.mem_append.mp h with h | h
          · exact ok.row _ (List.mem_of_mem_take h)
          · rw [List.mem_singleton.mp h]; exact hok'
        · exact ok.row _ (List.mem_of_mem_drop h)
end
end Dr
set_option Elab.async false
set_option linter.all false
set_option maxRecDepth 100000
set_option maxHeartbeats 4000000
set_option pp.deepTerms false
set_option pp.maxSteps 400
namespace Dr
open PySem PySem.Spec PyProof.Rows L2
theorem sqL_ex {K : PySem.W.Frag} {H H1 : Hp} {a : Addr} {xs : List V} (h : SqL K H a xs) (s : Same H H1) : SqL K H1 a xs := by
  rcases h with h | h
  · exact .inl (Same.rd s h)
  · exact .inr h
section
variable {X : Cx} {σ : L2.St} {H H' : Hp} {a b c e e2 : Expr} {pos p1 p2 p3 : Pos} {ns : List Int} {l : Addr}
/-- l[:63], a list of ints that may be written in the text -/
theorem el_hiS {kk : Nat} (ha : EvV X a σ H (.ref l)) (hl : SqL X.K H l (ns.map V.int)) (hn : ns.length ≤ 63) : EvL X (.Subscript a (.Slice none (some (.Constant (.int 63) kk p1)) none p2) pos) σ H (ns.map D.int) := fun H1 s Q q =>
  .of (pe_slice sl_list pe_W po_none (po_some pe_W)) (ha H1 s _ fun H2 s2 => (ev_int (i := 63)).int H2 (s.trans s2) _ fun H3 s3 => ⟨63, rfl, l, _, rfl, sqL_ex hl ((s.trans s2).trans s3), fun p hp => by
    have e : cutV (ns.map V.int) none (some 63) = ns.map V.int := by
      unfold cutV
      rw [show (63 : Int) = ((63 : Nat) : Int) from rfl, HT.sIx_nat, HT.sIx_none]
      show ((ns.map V.int).drop 0).take (min 63 (ns.map V.int).length - 0) = _
      rw [List.drop_zero, Nat.sub_zero]
      exact List.take_of_length_le (by rw [List.length_map]; omega)
    rw [e]
    exact q p _ _ (((s2.trans s3).free hp)) ((s2.trans s3).trans (Same.new hp)) upd_same (ims_V ns)⟩)
/-- list(x)[::-1] -/
theorem el_rev {kk : Nat} {p q1 : Pos} (hm : X.mg "list" = none) (ha : EvL X a σ H (ns.map D.int)) (hg : Gl X "list" := by rfl) (he : starEach [a] X.env = (false, eval a X.env) :: starEach [] X.env := by rfl) :
    EvL X (.Subscript (.Call (.Name "list" p) [a] [] pos) (.Slice none none (some (.UnaryOp .USub (.Constant (.int 1) kk p1) p2)) p3) q1) σ H (ns.reverse.map D.int) := fun H1 s Q q =>
  .of (pe_revL pe_W) (.of (pe_callTy call_list_of hg hm (by decide +kernel) pa_W (by decide) (by decide) he) (wa_cons (ha H1 s _ fun l xs H2 hl s2 h1 h2 => wa_nil ⟨l, xs, rfl, .inl (SqL.of h1), fun l2 hl2 => ⟨l2, xs, rfl, SqL.of upd_same, fun p hp => by
    have sn := s2.trans (Same.new (o := .lst xs) hl2)
    have e := h2.ints
    subst e
    rw [← List.map_reverse]
    exact q p _ _ (sn.free hp) (sn.trans (Same.new hp)) upd_same (ims_V _)⟩⟩) he))
end
def spMk (K : PySem.W.Frag) : Sp := fun vs H Q _ => ∃ (a : Addr) (ns : List Int), vs = [.ref a] ∧ SqL K H a (ns.map V.int) ∧ ns.length ≤ 63 ∧ ∀ p q H', Same H H' → Dck H' p q → Q (.ref p) H'
section
variable {P : Program} {w : World} {K : PySem.W.Frag} {mg : Str → Option Value} {base : Heap}
theorem sc58 : FnScope ["_law_script", "_law_mixed", "_law_cell"] ["_law_script"] (defScope (top 58)) := ⟨rfl, rfl, rfl, by decide +kernel, rfl, by decide +kernel, by decide +kernel⟩
theorem pr_deck (T : Txt K mg) : Pr P w K mg base "_law_deck" 1 ["_law_script"] (spMk K) := by
  have fi := T.free "int" (by decide)
  have fl := T.free "list" (by decide)
  refine mk_pr T 40 rfl sc58 (fun _ _ _ _ _ _ us hl => match us, hl with | [_], _ => rfl) (fun vs H Q E h => ?_) (fun cdv A outer s H vs Q E hr h => ?_)
  · obtain ⟨a, ns, rfl, _⟩ := h
    rfl
  · obtain ⟨a, ns, rfl, hS, hn, k⟩ := h
    refine w_cons (s_set sc58.nd 1 ev_int fun v1 H1 s1 hv1 => ?_)
    have e1 := hv1.intI
    subst e1
    refine w_cons (s_for (wk_lstD (EvL.ev (el_hiS (vv_var 0 rfl) (sqL_ex hS s1) hn)) (pls_map (fun _ => rfl) _)) fun H2 s2 => ⟨fun j σ' H' => ∃ (i : Int) (x2 : Option V), σ' = [some (.ref a), some (.int i), x2] ∧ Same H2 H',
      ⟨_, none, rfl, Same.refl _⟩, fun _ _ _ q => ?_, ?_, ?_⟩)
    · obtain ⟨_, _, _, q⟩ := q
      exact ⟨Same.tx q, Same.ls q⟩
    · rintro j d v σ' H3 H4 hj ⟨i, x2, rfl, sH⟩ s4 hv
      rw [List.getElem?_map] at hj
      obtain ⟨c, _, rfl⟩ := Option.map_eq_some_iff.mp hj
      refine g_name sc58.nd 2 ?_
      refine w_one (s_set sc58.nd 1 (ev_mod (ev_intc fi (ev_add (ev_add (ev_mul (ev_var 1 rfl (.int _)) ev_int (.inr (by decide))) (ev_mod (ev_intc fi (ev_var 2 rfl hv)) ev_int (by decide))) ev_int)) ev_int (by decide)) fun v5 H5 s5 hv5 => ?_)
      have e5 := hv5.intI
      subst e5
      exact ⟨_, _, rfl, (sH.trans s4).trans s5⟩
    · rintro σ' H3 ⟨i, x2, rfl, sH⟩
      have s13 := (s1.trans s2).trans sH
      refine w_one (s_retW ⟨_, pe_disp (pps_cons pe_W pe_W (pps_cons pe_W pe_W (pps_cons pe_W pe_W pps_nil))) rfl rfl (by simp) (by exact Nat.le_of_ble_eq_true rfl), fun p hp => ?_⟩)
      have sp := Same.new (o := .dK []) hp
      refine (ev_str.str) _ (Same.refl _) _ fun H4 s4 => (el_rev (ns := ns) fl (el_hiS (vv_var 0 rfl) (sqL_ex hS ((s13.trans sp).trans s4)) hn)) H4 (Same.refl _) _ fun q xs H5 hq s5 h1 h2 => ev_str.str H5 (Same.refl _) _ fun H6 s6 => (vv_var 1 rfl) H6 (Same.refl _) _ fun H7 s7 => ev_str.str H7 (Same.refl _) _ fun H8 s8 => (ev_int (i := 0)).int H8 (Same.refl _) _ fun H9 s9 => ?_
      have s49 := (((s5.trans s6).trans s7).trans s8).trans s9
      have e : H9 p = some (.dK []) := (s4.trans s49) _ _ upd_same
      have hq9 : H9 q = some (.lst xs) := (((s6.trans s7).trans s8).trans s9) _ _ h1
      have npq : p ≠ q := by
        rintro rfl
        rw [e] at hq9; cases hq9
      have ex := h2.ints
      subst ex
      refine ⟨e, dkv q i 0, rfl, by simp [dkv], k p q _ (Same.mut ((s13.trans sp).trans (s4.trans s49)) (s13.free hp)) ?_⟩
      refine ⟨i, 0, ns.reverse, by rw [upd_same]; rfl, by rw [upd_ne (Ne.symm npq)]; exact hq9, by rw [List.length_reverse]; omega, npq⟩
end
end Dr
set_option Elab.async false
set_option linter.all false
set_option maxRecDepth 100000
set_option maxHeartbeats 4000000
set_option pp.deepTerms false
set_option pp.maxSteps 400
namespace Dr
open PySem PySem.Spec PyProof.Rows L2
/-! ### the law's reached is closed -/
theorem lVisit_ex (t : Nat) (L : List Nat) : ∃ r, lVisit t L = L ++ r := by
  unfold lVisit
  split
  · exact ⟨[], by simp⟩
  · exact ⟨[t], rfl⟩
theorem lVisit_mem (t : Nat) (L : List Nat) : t ∈ lVisit t L := by
  unfold lVisit
  split
  · rename_i h; exact List.contains_iff_mem.mp h
  · simp
theorem lrRow_ex (L : List Nat) (r : Rw) : ∃ r', lrRow L r = L ++ r' := by
  cases r with
  | out i => exact ⟨[], by simp [lrRow]⟩
  | toss x y =>
    obtain ⟨r1, e1⟩ := lVisit_ex x L
    obtain ⟨r2, e2⟩ := lVisit_ex y (lVisit x L)
    exact ⟨r1 ++ r2, by show lVisit y (lVisit x L) = _; rw [e2, e1, List.append_assoc]⟩
theorem lrStep_ex (m : Mc) (L : List Nat) (j : Nat) : ∃ r, lrStep m L j = L ++ r := by
  cases e : L[j]? with
  | none => exact ⟨[], by unfold lrStep; rw [e]; simp⟩
  | some s =>
    cases e2 : m.rows[s]? with
    | none => exact ⟨[], by unfold lrStep; rw [e]; dsimp only; rw [e2]; simp⟩
    | some r => rw [lrStep_at e e2]; exact lrRow_ex L r
def LCl (m : Mc) (L : List Nat) : Prop := ∀ s ∈ L, ∀ x y, m.rows[s]? = some (.toss x y) → x ∈ L ∧ y ∈ L
theorem lr_closed_aux {m : Mc} (j : Nat) : (∃ r, (List.range j).foldl (lrStep m) [0] = 0 :: r) ∧ ∀ i, i < j → ∀ s, ((List.range j).foldl (lrStep m) [0])[i]? = some s → ∀ x y, m.rows[s]? = some (.toss x y) → x ∈ (List.range j).foldl (lrStep m) [0] ∧ y ∈ (List.range j).foldl (lrStep m) [0] := by
  induction j with
  | zero => exact ⟨⟨[], rfl⟩, fun i hi => by omega⟩
  | succ j ih =>
    rw [List.range_succ, List.foldl_append]
    generalize (List.range j).foldl (lrStep m) [0] = L at ih
    obtain ⟨⟨r0, e0⟩, ih⟩ := ih
    show (∃ r, lrStep m L j = 0 :: r) ∧ ∀ i, i < j + 1 → ∀ s, (lrStep m L j)[i]? = some s → ∀ x y, m.rows[s]? = some (.toss x y) → x ∈ lrStep m L j ∧ y ∈ lrStep m L j
    obtain ⟨r, e⟩ := lrStep_ex m L j
    refine ⟨⟨r0 ++ r, by rw [e, e0]; rfl⟩, fun i hi s hs x y hr => ?_⟩
    by_cases hL : i < L.length
    · have hs2 : L[i]? = some s := by rw [e, List.getElem?_append_left hL] at hs; exact hs
      by_cases hij : i < j
      · obtain ⟨h1, h2⟩ := ih i hij s hs2 x y hr
        rw [e]
        exact ⟨List.mem_append_left _ h1, List.mem_append_left _ h2⟩
      · have : i = j := by omega
        subst this
        rw [lrStep_at hs2 hr]
        show x ∈ lVisit y (lVisit x L) ∧ y ∈ lVisit y (lVisit x L)
        obtain ⟨r2, e2⟩ := lVisit_ex y (lVisit x L)
        exact ⟨by rw [e2]; exact List.mem_append_left _ (lVisit_mem x L), lVisit_mem y _⟩
    · have hn : L[j]? = none := List.getElem?_eq_none_iff.mpr (by omega)
      have : lrStep m L j = L := by unfold lrStep; rw [hn]
      rw [this] at hs
      have := (List.getElem?_eq_some_iff.mp hs).1
      exact absurd this hL
theorem lr_closed {m : Mc} {z : Nat} (ok : m.Ok z) : LCl m (lReached m) := by
  intro s hs x y hr
  obtain ⟨i, hi, e⟩ := List.getElem_of_mem hs
  obtain ⟨lt, nd⟩ := lr_ok ok m.rows.length
  have hl := nd_len lt nd
  exact (lr_closed_aux m.rows.length).2 i (Nat.lt_of_lt_of_le hi hl) s (show (lReached m)[i]? = some s from List.getElem?_eq_some_iff.mpr ⟨hi, e⟩) x y hr
theorem lr_zero {m : Mc} : ∃ r, lReached m = 0 :: r := (lr_closed_aux m.rows.length).1
/-! ### the law's lots -/
inductive RndN (m : Mc) (L : List Nat) : Nat → (Nat → Nat) → Prop
  | init : RndN m L 0 (baseN m)
  | step {n : Nat} {f : Nat → Nat} {js : List Kb} (h : RndN m L n f) (hj : js.Nodup) (hm : ∀ b, b ∈ js ↔ b ∈ L.map (sgn m f)) : RndN m L (n + 1) (fun s => js.idxOf (sgn m f s))
def lfirst (f : Nat → Nat) (L : List Nat) : List Nat := L.foldl (fun O s => if (O.map f).contains (f s) = true then O else O ++ [s]) []
def lfoldM (m : Mc) (f : Nat → Nat) (L : List Nat) : Mc := ⟨m.n, (lfirst f L).map (frow m f (lfirst f L))⟩
def postLFold (ds : List D) (d : D) : Prop := ∀ m : Mc, ds = [mD m] → ∃ f, RndN m (lReached m) (lReached m).length f ∧ d = mD (lfoldM m f (lReached m))
def preLFold (ds : List D) : Prop := ∃ m : Mc, ds = [mD m] ∧ m.Ok 100
/-! ### the keys of a round, each once -/
def kys (l : List Kb) : List Kb := (ddp l).map (·.1)
theorem kys_snoc (l : List Kb) (b : Kb) : kys (l ++ [b]) = if b ∈ kys l then kys l else kys l ++ [b] := by
  unfold kys
  rw [show ddp (l ++ [b]) = pt (ddp l) b true by unfold ddp; rw [List.foldl_append]; rfl, ptG_keys]
  by_cases h : b ∈ (ddp l).map (·.1)
  · rw [if_pos h, if_pos (hs_memG.mpr h)]
  · rw [if_neg h, if_neg (fun q => h (hs_memG.mp q))]
theorem kys_pre (l l' : List Kb) : ∃ r, kys (l ++ l') = kys l ++ r := by
  induction l' generalizing l with
  | nil => exact ⟨[], by simp⟩
  | cons b l' ih =>
    obtain ⟨r, e⟩ := ih (l ++ [b])
    rw [List.append_assoc] at e
    rw [show l ++ b :: l' = l ++ ([b] ++ l') from rfl, e, kys_snoc]
    split
    · exact ⟨r, rfl⟩
    · exact ⟨[b] ++ r, by rw [List.append_assoc]⟩
def KT (js : List Kb) : List (List Nat × D) := js.map fun b => (consK b, nI (js.idxOf b))
theorem KT_put {js : List Kb} (nd : js.Nodup) (b : Kb) : pt (KT js) (consK b) ((lk (KT js) (consK b)).getD (nI js.length)) = KT (if b ∈ js then js else js ++ [b]) := by
  by_cases h : b ∈ js
  · rw [if_pos h]
    have e := lk_idx h
    rw [show lk (KT js) (consK b) = some (nI (js.idxOf b)) from e]
    unfold pt
    rw [if_pos (by rw [lk_hs]; rw [show lk (KT js) (consK b) = some (nI (js.idxOf b)) from e]; rfl)]
    unfold KT
    rw [List.map_map]
    refine List.map_congr_left fun c _ => ?_
    show (if consK c = consK b then (consK c, _) else (consK c, _)) = _
    by_cases q : consK c = consK b
    · rw [if_pos q, consK_inj _ _ q]; rfl
    · rw [if_neg q]
  · rw [if_neg h]
    have hno : hs (KT js) (consK b) = false := by
      cases q : hs (KT js) (consK b) with
      | false => rfl
      | true =>
        have := hs_memG.mp q
        rw [KT, List.map_map] at this
        obtain ⟨c, hc, e⟩ := List.mem_map.mp this
        exact absurd (consK_inj _ _ e ▸ hc) h
    have hl : lk (KT js) (consK b) = none := by
      have := lk_hs (KT js) (consK b)
      rw [hno] at this
      cases q : lk (KT js) (consK b) with
      | none => rfl
      | some _ => rw [q] at this; cases this
    rw [pt_new hno, hl]
    unfold KT
    rw [List.map_append]
    have e1 : (js ++ [b]).idxOf b = js.length := by
      rw [List.idxOf_append, if_neg h]; simp
    show js.map _ ++ [(consK b, nI js.length)] = _ ++ [(consK b, nI ((js ++ [b]).idxOf b))]
    rw [e1]
    congr 1
    refine List.map_congr_left fun c hc => ?_
    rw [List.idxOf_append, if_pos hc]
theorem kys_nd (l : List Kb) : (kys l).Nodup := (ddp_props l).1
theorem kys_mem (l : List Kb) (b : Kb) : b ∈ kys l ↔ b ∈ l := (ddp_props l).2 b
theorem kys_len (l : List Kb) : (kys l).length ≤ l.length := by
  have := ddp_len l
  simpa [kys] using this
theorem KT_pl (js : List Kb) : ∀ x ∈ KT js, x.2.pl = true := fun x hx => by
  obtain ⟨c, _, rfl⟩ := List.mem_map.mp hx
  rfl
section
variable {X : Cx} {σ : L2.St} {H H' : Hp} {a b c : Expr} {pos : Pos} {ds : List D}
theorem el_ifE {t : Bool} (h : EvT X c σ H t) (h1 : t = true → EvL X a σ H ds) (h2 : t = false → EvL X b σ H ds) : EvL X (.IfExp c a b pos) σ H ds := fun H1 s Q q =>
  .of (pe_ifExp pt_W pe_W pe_W) (h H1 s _ fun H2 s2 => by
    cases t with
    | true => exact h1 rfl H2 (s.trans s2) Q fun p xs H3 hp s3 e1 e2 => q p xs H3 (s2.free hp) (s2.trans s3) e1 e2
    | false => exact h2 rfl H2 (s.trans s2) Q fun p xs H3 hp s3 e1 e2 => q p xs H3 (s2.free hp) (s2.trans s3) e1 e2)
end
end Dr
set_option Elab.async false
set_option linter.all false
set_option maxRecDepth 100000
set_option maxHeartbeats 4000000
namespace Dr
/-! ### machines that run the same -/
def RwM (R : Nat → Nat → Prop) : Option Rw → Option Rw → Prop
  | some (.out i), some (.out j) => i = j
  | some (.toss x y), some (.toss x' y') => R x x' ∧ R y y'
  | _, _ => False
theorem RwM.cases {R : Nat → Nat → Prop} {a b : Option Rw} (h : RwM R a b) : (∃ i, a = some (.out i) ∧ b = some (.out i)) ∨ ∃ x y x' y', a = some (.toss x y) ∧ b = some (.toss x' y') ∧ R x x' ∧ R y y' := by
  match a, b, h with
  | some (.out i), some (.out j), h => exact .inl ⟨i, rfl, by rw [show i = j from h]⟩
  | some (.toss x y), some (.toss x' y'), h => exact .inr ⟨x, y, x', y', rfl, rfl, h.1, h.2⟩
theorem RwM.mono {R R' : Nat → Nat → Prop} (h : ∀ s t, R s t → R' s t) {a b : Option Rw} (q : RwM R a b) : RwM R' a b := by
  rcases q.cases with ⟨i, rfl, rfl⟩ | ⟨x, y, x', y', rfl, rfl, h1, h2⟩
  · exact (rfl : i = i)
  · exact ⟨h _ _ h1, h _ _ h2⟩
def Bis (m m' : Mc) (s s' : Nat) : Prop := ∃ R : Nat → Nat → Prop, (∀ t t', R t t' → RwM R m.rows[t]? m'.rows[t']?) ∧ R s s'
section
variable {m m' m3 : Mc} {s s' s3 : Nat}
theorem Bis.step (h : Bis m m' s s') : RwM (Bis m m') m.rows[s]? m'.rows[s']? := by
  obtain ⟨R, h1, h2⟩ := h
  exact (h1 _ _ h2).mono fun t t' q => ⟨R, h1, q⟩
theorem Bis.symm (h : Bis m m' s s') : Bis m' m s' s := by
  obtain ⟨R, h1, h2⟩ := h
  refine ⟨fun a b => R b a, fun t t' q => ?_, h2⟩
  rcases (h1 _ _ q).cases with ⟨i, e1, e2⟩ | ⟨x, y, x', y', e1, e2, q1, q2⟩
  · rw [e1, e2]; exact (rfl : i = i)
  · rw [e1, e2]; exact ⟨q1, q2⟩
theorem Bis.trans (h : Bis m m' s s') (h' : Bis m' m3 s' s3) : Bis m m3 s s3 := by
  refine ⟨fun a c => ∃ b, Bis m m' a b ∧ Bis m' m3 b c, ?_, s', h, h'⟩
  rintro a c ⟨b, p, q⟩
  rcases p.step.cases with ⟨i, e1, e2⟩ | ⟨x, y, x', y', e1, e2, p1, p2⟩
  · rcases q.step.cases with ⟨j, e3, e4⟩ | ⟨x, y, x', y', e3, e4, q1, q2⟩
    · rw [e1, e4]
      rw [e2] at e3
      cases e3
      exact (rfl : i = i)
    · rw [e2] at e3; cases e3
  · rcases q.step.cases with ⟨j, e3, e4⟩ | ⟨x2, y2, x3, y3, e3, e4, q1, q2⟩
    · rw [e2] at e3; cases e3
    · rw [e1, e4]
      rw [e2] at e3
      cases e3
      exact ⟨⟨_, p1, q1⟩, ⟨_, p2, q2⟩⟩
/-! runs -/
theorem bis_run : ∀ (w : List Bool) (t s s' : Nat), Bis m m' s s' → runM m s w t = runM m' s' w t
  | [], t, s, s', h => by
    unfold runM
    rcases h.step.cases with ⟨i, e1, e2⟩ | ⟨x, y, x', y', e1, e2, _, _⟩ <;> rw [e1, e2]
  | c :: w, t, s, s', h => by
    unfold runM
    rcases h.step.cases with ⟨i, e1, e2⟩ | ⟨x, y, x', y', e1, e2, h1, h2⟩
    · rw [e1, e2]
    · rw [e1, e2]
      cases c with
      | true => exact bis_run w (t + 1) y y' h2
      | false => exact bis_run w (t + 1) x x' h1
/-! how many rows of bits of a length end at an outcome -/
def cntW (m : Mc) : Nat → Nat → Nat → Nat
  | 0, i, s => match m.rows[s]? with
    | some (.out j) => if j = i then 1 else 0
    | _ => 0
  | k + 1, i, s => match m.rows[s]? with
    | some (.toss x y) => cntW m k i x + cntW m k i y
    | _ => 0
theorem bis_cnt : ∀ (k i s s' : Nat), Bis m m' s s' → cntW m k i s = cntW m' k i s'
  | 0, i, s, s', h => by
    unfold cntW
    rcases h.step.cases with ⟨i, e1, e2⟩ | ⟨x, y, x', y', e1, e2, _, _⟩ <;> rw [e1, e2]
  | k + 1, i, s, s', h => by
    unfold cntW
    rcases h.step.cases with ⟨j, e1, e2⟩ | ⟨x, y, x', y', e1, e2, h1, h2⟩
    · rw [e1, e2]
    · rw [e1, e2]
      dsimp only
      rw [bis_cnt k i x x' h1, bis_cnt k i y y' h2]
end
def lsum (g : Nat → Nat) (l : List (Nat × Nat)) : Nat := (l.map fun p => p.2 * g p.1).sum
theorem lsum_cons (g : Nat → Nat) (p : Nat × Nat) (l : List (Nat × Nat)) : lsum g (p :: l) = p.2 * g p.1 + lsum g l := by simp [lsum]
theorem lsum_app (g : Nat → Nat) (l l' : List (Nat × Nat)) : lsum g (l ++ l') = lsum g l + lsum g l' := by simp [lsum]
theorem lsum_repl (g : Nat → Nat) (k v : Nat) : ∀ l : List (Nat × Nat), (l.map (·.1)).Nodup → k ∈ l.map (·.1) → lsum g (l.map fun p => if p.1 = k then (p.1, v) else p) + (lk l k).getD 0 * g k = lsum g l + v * g k
  | [], _, h => by cases h
  | p :: l, nd, h => by
    rw [List.map_cons, List.nodup_cons] at nd
    rw [List.map_cons, lsum_cons, lsum_cons]
    by_cases e : p.1 = k
    · have hn : ∀ q ∈ l, q.1 ≠ k := fun q hq z => nd.1 (by rw [e, ← z]; exact List.mem_map_of_mem hq)
      have e2 : (l.map fun p => if p.1 = k then (p.1, v) else p) = l := by
        rw [List.map_congr_left (g := id) fun q hq => by rw [if_neg (hn q hq)]; rfl, List.map_id]
      have e3 : lk (p :: l) k = some p.2 := by unfold lk; simp [e]
      rw [e2, e3, if_pos e, Option.getD_some]
      dsimp only
      rw [e]
      omega
    · have h' : k ∈ l.map (·.1) := by
        rcases List.mem_cons.mp h with h | h
        · exact absurd h.symm e
        · exact h
      have ih := lsum_repl g k v l nd.2 h'
      have e3 : lk (p :: l) k = lk l k := by unfold lk; simp [e]
      rw [e3, if_neg e]
      omega
theorem lsum_pt (g : Nat → Nat) {l : List (Nat × Nat)} (k c : Nat) (nd : (l.map (·.1)).Nodup) : lsum g (pt l k ((lk l k).getD 0 + c)) = lsum g l + c * g k := by
  by_cases h : hs l k = true
  · have := lsum_repl g k ((lk l k).getD 0 + c) l nd (hs_mem.mp h)
    unfold pt
    rw [if_pos h]
    rw [Nat.add_mul] at this
    omega
  · have h' : hs l k = false := by simpa using h
    rw [pt_new h', lsum_app]
    have : lk l k = none := by
      rw [lk_hs] at h'
      cases e : lk l k with
      | none => rfl
      | some v => rw [e] at h'; cases h'
    rw [this]
    simp [lsum]
theorem pt_nd {l : List (Nat × Nat)} (k v : Nat) (nd : (l.map (·.1)).Nodup) : ((pt l k v).map (·.1)).Nodup := by
  rw [pt_keys]
  split
  · exact nd
  · rename_i hh
    rw [List.nodup_append]
    refine ⟨nd, by simp, fun a ha c hc => ?_⟩
    rw [List.mem_singleton.mp hc]
    rintro rfl
    exact hh (hs_mem.mpr ha)
/-- one round -/
theorem lsum_next (m : Mc) (g : Nat → Nat) (lvl : List (Nat × Nat)) : lsum g (nextL m lvl) = lsum (fun s => match m.rows[s]? with
    | some (.toss x y) => g x + g y
    | _ => 0) lvl := by
  suffices h : ∀ (lvl acc : List (Nat × Nat)), (acc.map (·.1)).Nodup → lsum g (lvl.foldl (fun acc p => match m.rows[p.1]? with
      | some (Rw.toss x y) => let acc := pt acc x ((lk acc x).getD 0 + p.2); pt acc y ((lk acc y).getD 0 + p.2)
      | _ => acc) acc) = lsum g acc + lsum (fun s => match m.rows[s]? with
    | some (.toss x y) => g x + g y
    | _ => 0) lvl by
    have := h lvl [] (by simp)
    rw [show lsum g [] = 0 from rfl, Nat.zero_add] at this
    exact this
  intro lvl
  induction lvl with
  | nil => intro acc _; simp [lsum]
  | cons p lvl ih =>
    intro acc nd
    rw [List.foldl_cons, lsum_cons]
    cases e : m.rows[p.1]? with
    | none =>
      dsimp only
      rw [ih acc nd]
      omega
    | some r => cases r with
      | out i =>
        dsimp only
        rw [ih acc nd]
        omega
      | toss x y =>
        dsimp only
        rw [ih _ (pt_nd _ _ (pt_nd _ _ nd)), lsum_pt g y p.2 (pt_nd _ _ nd), lsum_pt g x p.2 nd, Nat.mul_add]
        omega
theorem lsum_lvK (m : Mc) (i : Nat) : ∀ k j, lsum (cntW m j i) (lvK m k) = cntW m (j + k) i 0
  | 0, j => by simp [lvK, lsum]
  | k + 1, j => by
    have ih := lsum_lvK m i k (j + 1)
    show lsum _ (nextL m (lvK m k)) = _
    rw [lsum_next]
    rw [show j + (k + 1) = j + 1 + k by omega, ← ih]
    congr 1
theorem endL_get (m : Mc) (lvl : List (Nat × Nat)) : (endL m lvl).length = m.n ∧ ∀ i, i < m.n → (endL m lvl).getD i 0 = lsum (cntW m 0 i) lvl := by
  suffices h : ∀ (lvl : List (Nat × Nat)) (acc : List Nat), acc.length = m.n → ((lvl.foldl (fun acc p => match m.rows[p.1]? with
      | some (Rw.out i) => acc.set i (acc.getD i 0 + p.2)
      | _ => acc) acc).length = m.n ∧ ∀ i, i < m.n → (lvl.foldl (fun acc p => match m.rows[p.1]? with
      | some (Rw.out i) => acc.set i (acc.getD i 0 + p.2)
      | _ => acc) acc).getD i 0 = acc.getD i 0 + lsum (cntW m 0 i) lvl) by
    obtain ⟨h1, h2⟩ := h lvl (List.replicate m.n 0) (by simp)
    refine ⟨h1, fun i hi => ?_⟩
    have := h2 i hi
    rw [show (List.replicate m.n 0).getD i 0 = 0 by simp [List.getD_eq_getElem?_getD, List.getElem?_replicate, hi], Nat.zero_add] at this
    exact this
  intro lvl
  induction lvl with
  | nil => intro acc h; exact ⟨h, fun i _ => by simp [lsum]⟩
  | cons p lvl ih =>
    intro acc h
    rw [List.foldl_cons]
    cases e : m.rows[p.1]? with
    | none =>
      obtain ⟨h1, h2⟩ := ih acc h
      refine ⟨h1, fun i hi => ?_⟩
      rw [lsum_cons, show cntW m 0 i p.1 = 0 by unfold cntW; rw [e]]
      dsimp only
      rw [h2 i hi]
      omega
    | some r => cases r with
      | toss x y =>
        obtain ⟨h1, h2⟩ := ih acc h
        refine ⟨h1, fun i hi => ?_⟩
        rw [lsum_cons, show cntW m 0 i p.1 = 0 by unfold cntW; rw [e]]
        dsimp only
        rw [h2 i hi]
        omega
      | out j =>
        obtain ⟨h1, h2⟩ := ih (acc.set j (acc.getD j 0 + p.2)) (by rw [List.length_set]; exact h)
        refine ⟨h1, fun i hi => ?_⟩
        rw [lsum_cons, show cntW m 0 i p.1 = if j = i then 1 else 0 by unfold cntW; rw [e]]
        dsimp only
        rw [h2 i hi]
        by_cases hj : j = i
        · subst hj
          rw [if_pos rfl, List.getD_eq_getElem?_getD, List.getElem?_set_self (by omega)]
          simp
          omega
        · rw [if_neg hj, List.getD_eq_getElem?_getD, List.getElem?_set_ne hj, ← List.getD_eq_getElem?_getD]
          omega
theorem endL_eq (m : Mc) (k : Nat) : endL m (lvK m k) = (List.range m.n).map fun i => cntW m k i 0 := by
  obtain ⟨h1, h2⟩ := endL_get m (lvK m k)
  apply List.ext_getElem?
  intro i
  by_cases h : i < m.n
  · have := h2 i h
    rw [lsum_lvK, Nat.zero_add, List.getD_eq_getElem?_getD, List.getElem?_eq_getElem (by omega), Option.getD_some] at this
    rw [List.getElem?_eq_getElem (by omega), this, List.getElem?_map, List.getElem?_range h]
    rfl
  · rw [List.getElem?_eq_none_iff.mpr (by omega), List.getElem?_eq_none_iff.mpr (by simpa using h)]
/-- machines that run the same have the same numbers of rows -/
theorem bis_len {m m' : Mc} (hn : m.n = m'.n) (h : Bis m m' 0 0) (k : Nat) : endL m (lvK m k) = endL m' (lvK m' k) := by
  rw [endL_eq, endL_eq, hn]
  exact List.map_congr_left fun i _ => bis_cnt k i 0 0 h
/-! ### bits that part two machines -/
def goto (m : Mc) : Nat → List Bool → Option Nat
  | s, [] => some s
  | s, b :: w => match nx m s b with
    | some t => goto m t w
    | none => none
theorem goto_snoc {m : Mc} : ∀ {w : List Bool} {s t u : Nat} {b : Bool}, goto m s w = some t → nx m t b = some u → goto m s (w ++ [b]) = some u
  | [], s, t, u, b, h, q => by
    obtain rfl : s = t := Option.some.inj h
    show (match nx m s b with | some t => goto m t [] | none => none) = some u
    rw [q]; rfl
  | c :: w, s, t, u, b, h, q => by
    unfold goto at h
    show (match nx m s c with | some t => goto m t (w ++ [b]) | none => none) = some u
    cases e : nx m s c with
    | none => rw [e] at h; cases h
    | some v =>
      rw [e] at h
      exact goto_snoc h q
theorem goto_run {m : Mc} : ∀ {w : List Bool} {s t k : Nat}, goto m s w = some t → runM m s w k = runM m t [] (k + w.length)
  | [], s, t, k, h => by
    obtain rfl : s = t := Option.some.inj h
    rfl
  | c :: w, s, t, k, h => by
    unfold goto at h
    cases e : nx m s c with
    | none => rw [e] at h; cases h
    | some v =>
      rw [e] at h
      have ih := goto_run (k := k + 1) h
      unfold nx at e
      cases e2 : m.rows[s]? with
      | none => rw [e2] at e; cases e
      | some r => cases r with
        | out i => rw [e2] at e; cases e
        | toss x y =>
          rw [e2] at e
          obtain rfl := Option.some.inj e
          rw [List.length_cons, show k + (w.length + 1) = k + 1 + w.length by omega, ← ih]
          conv => lhs; unfold runM
          rw [e2]
/-- what is found is led to -/
def PsG (m m' : Mc) (st : Pst) : Prop := ∀ p ∈ st, goto m 0 p.2 = some p.1.1 ∧ goto m' 0 p.2 = some p.1.2
theorem pvisit_g {m m' : Mc} {q : (Nat × Nat) × List Bool} {b : Bool} {st : Pst} (w : (st.map (·.1)).Nodup) (hq : q ∈ st) (h : PsG m m' st) : PsG m m' (pvisit m m' q.1 b st) := by
  unfold pvisit
  cases e : nx2 m m' q.1 b with
  | none => exact h
  | some t =>
    dsimp only
    split
    · exact h
    · intro p hp
      rcases List.mem_append.mp hp with hp | hp
      · exact h p hp
      · rw [List.mem_singleton.mp hp]
        have e2 : lk st q.1 = some q.2 := lk_ofG w hq
        rw [e2, Option.getD_some]
        unfold nx2 at e
        cases e3 : nx m q.1.1 b with
        | none => rw [e3] at e; cases e
        | some x =>
          cases e4 : nx m' q.1.2 b with
          | none => rw [e3, e4] at e; cases e
          | some y =>
            rw [e3, e4] at e
            obtain rfl := Option.some.inj e
            exact ⟨goto_snoc (h q hq).1 e3, goto_snoc (h q hq).2 e4⟩
theorem runM_nil (m : Mc) (s k : Nat) : runM m s [] k = match m.rows[s]? with
    | some (.out i) => some (i, k)
    | _ => none := rfl
theorem parts_differ {m m' : Mc} {z z' : Nat} (ok : m.Ok z) (ok' : m'.Ok z') {w : List Bool} : ∀ (n i : Nat) (st : Pst), PsI m m' st → PsG m m' st → pbGo m m' n i st = some w → runM m 0 w 0 ≠ runM m' 0 w 0
  | 0, _, _, _, _, h => by cases h
  | n + 1, i, st, hI, hG, h => by
    unfold pbGo at h
    cases e : st[i]? with
    | none => rw [e] at h; cases h
    | some q =>
      rw [e] at h
      dsimp only at h
      have hq : q ∈ st := List.mem_of_getElem? e
      by_cases hb : bothT m m' q.1 = true
      · rw [if_pos hb] at h
        obtain ⟨i1, r1, e1⟩ := pvisit_i (p := q.1) (b := false) ok ok' hI
        have g1 := pvisit_g (b := false) hI.nd hq hG
        have hq1 : q ∈ pvisit m m' q.1 false st := by rw [e1]; exact List.mem_append_left _ hq
        exact parts_differ ok ok' n _ _ (pvisit_i ok ok' i1).1 (pvisit_g i1.nd hq1 g1) h
      · rw [if_neg hb] at h
        by_cases hr : m.rows[q.1.1]? = m'.rows[q.1.2]?
        · rw [if_pos hr] at h
          exact parts_differ ok ok' n _ _ hI hG h
        · rw [if_neg hr] at h
          obtain rfl := Option.some.inj h
          obtain ⟨g1, g2⟩ := hG q hq
          obtain ⟨l1, l2⟩ := hI.lt q hq
          rw [goto_run g1, goto_run g2, runM_nil, runM_nil]
          unfold bothT at hb
          rw [List.getElem?_eq_getElem l1, List.getElem?_eq_getElem l2] at hb hr ⊢
          generalize m.rows[q.1.1] = a at hb hr
          generalize m'.rows[q.1.2] = b at hb hr
          cases a with
          | toss x y => cases b with
            | toss x' y' => exact absurd rfl hb
            | out j => simp
          | out i => cases b with
            | toss x' y' => simp
            | out j =>
              simp only [Option.some.injEq, Rw.out.injEq] at hr
              simp [hr]
theorem parting_some {m m' : Mc} {z z' : Nat} (ok : m.Ok z) (ok' : m'.Ok z') {w : List Bool} (h : parting m m' = some w) : runM m 0 w 0 ≠ runM m' 0 w 0 :=
  parts_differ ok ok' _ _ _ ⟨by simp, fun p hp => by rw [List.mem_singleton.mp hp]; exact ⟨ok.pos, ok'.pos⟩, fun p hp => by rw [List.mem_singleton.mp hp]; simp⟩
    (fun p hp => by rw [List.mem_singleton.mp hp]; exact ⟨rfl, rfl⟩) h
/-- the pairs ahead of i are done -/
def PsD (m m' : Mc) (i : Nat) (st : Pst) : Prop := ∀ j, j < i → ∀ q, st[j]? = some q → RwM (fun a b => (a, b) ∈ st.map (·.1)) m.rows[q.1.1]? m'.rows[q.1.2]?
theorem PsD.app {m m' : Mc} {i : Nat} {st r : Pst} (hi : i ≤ st.length) (h : PsD m m' i st) : PsD m m' i (st ++ r) := by
  intro j hj q hq
  rw [List.getElem?_append_left (by omega)] at hq
  exact (h j hj q hq).mono fun a b hab => by rw [List.map_append]; exact List.mem_append_left _ hab
theorem pvisit_has {m m' : Mc} {p t : Nat × Nat} {b : Bool} {st : Pst} (h : nx2 m m' p b = some t) : t ∈ (pvisit m m' p b st).map (·.1) := by
  unfold pvisit
  rw [h]
  dsimp only
  split
  · rename_i hh; exact hs_memG.mp hh
  · simp
theorem parts_none {m m' : Mc} {z z' : Nat} (ok : m.Ok z) (ok' : m'.Ok z') : ∀ (n i : Nat) (st : Pst), PsI m m' st → PsD m m' i st → i ≤ st.length → n + i = m.rows.length * m'.rows.length → (0, 0) ∈ st.map (·.1) → pbGo m m' n i st = none → Bis m m' 0 0
  | 0, i, st, hI, hD, hi, hn, h0, h => by
    have := hI.len
    refine ⟨fun a b => (a, b) ∈ st.map (·.1), fun a b hab => ?_, h0⟩
    obtain ⟨q, hq, e⟩ := List.mem_map.mp hab
    obtain ⟨j, hj, e2⟩ := List.getElem_of_mem hq
    have := hD j (by omega) q (List.getElem?_eq_some_iff.mpr ⟨hj, e2⟩)
    rw [e] at this
    exact this
  | n + 1, i, st, hI, hD, hi, hn, h0, h => by
    unfold pbGo at h
    cases e : st[i]? with
    | none =>
      have hl := List.getElem?_eq_none_iff.mp e
      refine ⟨fun a b => (a, b) ∈ st.map (·.1), fun a b hab => ?_, h0⟩
      obtain ⟨q, hq, e⟩ := List.mem_map.mp hab
      obtain ⟨j, hj, e2⟩ := List.getElem_of_mem hq
      have := hD j (by omega) q (List.getElem?_eq_some_iff.mpr ⟨hj, e2⟩)
      rw [e] at this
      exact this
    | some q =>
      rw [e] at h
      dsimp only at h
      have hq : q ∈ st := List.mem_of_getElem? e
      have hil := (List.getElem?_eq_some_iff.mp e).1
      by_cases hb : bothT m m' q.1 = true
      · rw [if_pos hb] at h
        obtain ⟨i1, r1, e1⟩ := pvisit_i (p := q.1) (b := false) ok ok' hI
        obtain ⟨i2, r2, e2⟩ := pvisit_i (p := q.1) (b := true) ok ok' i1
        refine parts_none ok ok' n (i + 1) _ i2 ?_ (by rw [e2, e1]; simp; omega) (by omega) (by rw [e2, e1, List.map_append, List.map_append]; exact List.mem_append_left _ (List.mem_append_left _ h0)) h
        intro j hj q' hq'
        by_cases hji : j < i
        · have : PsD m m' i (pvisit m m' q.1 true (pvisit m m' q.1 false st)) := by
            rw [e2, e1]
            exact (hD.app (by omega)).app (by simp; omega)
          exact this j hji q' hq'
        · obtain rfl : j = i := by omega
          have : q' = q := by
            rw [e2, e1, List.getElem?_append_left (by simp; omega), List.getElem?_append_left (by omega), e] at hq'
            exact (Option.some.inj hq').symm
          subst this
          unfold bothT at hb
          cases ea : m.rows[q'.1.1]? with
          | none => rw [ea] at hb; cases hb
          | some a =>
            cases eb : m'.rows[q'.1.2]? with
            | none => rw [ea, eb] at hb; cases a <;> cases hb
            | some b =>
              rw [ea, eb] at hb
              cases a with
              | out i => cases hb
              | toss x y => cases b with
                | out i => cases hb
                | toss x' y' =>
                  have n1 : nx2 m m' q'.1 false = some (x, x') := by unfold nx2 nx; rw [ea, eb]; rfl
                  have n2 : nx2 m m' q'.1 true = some (y, y') := by unfold nx2 nx; rw [ea, eb]; rfl
                  refine ⟨?_, pvisit_has n2⟩
                  rw [e2, List.map_append]
                  exact List.mem_append_left _ (pvisit_has n1)
      · rw [if_neg hb] at h
        by_cases hr : m.rows[q.1.1]? = m'.rows[q.1.2]?
        · rw [if_pos hr] at h
          refine parts_none ok ok' n (i + 1) st hI ?_ (by omega) (by omega) h0 h
          intro j hj q' hq'
          by_cases hji : j < i
          · exact hD j hji q' hq'
          · obtain rfl : j = i := by omega
            obtain rfl : q = q' := by rw [e] at hq'; exact Option.some.inj hq'
            obtain ⟨l1, l2⟩ := hI.lt q hq
            unfold bothT at hb
            rw [← hr] at hb ⊢
            rw [List.getElem?_eq_getElem l1] at hb ⊢
            cases ea : m.rows[q.1.1] with
            | toss x y => rw [ea] at hb; exact absurd rfl hb
            | out i => exact (rfl : i = i)
        · rw [if_neg hr] at h
          cases h
theorem parting_none {m m' : Mc} {z z' : Nat} (ok : m.Ok z) (ok' : m'.Ok z') (h : parting m m' = none) : Bis m m' 0 0 :=
  parts_none ok ok' _ 0 _ ⟨by simp, fun p hp => by rw [List.mem_singleton.mp hp]; exact ⟨ok.pos, ok'.pos⟩, fun p hp => by rw [List.mem_singleton.mp hp]; simp⟩
    (fun j hj => by omega) (by simp) (by omega) (by simp) h
theorem bis_parting {m m' : Mc} {z z' : Nat} (ok : m.Ok z) (ok' : m'.Ok z') (h : Bis m m' 0 0) : parting m m' = none := by
  cases e : parting m m' with
  | none => rfl
  | some w => exact absurd (bis_run w 0 0 0 h) (parting_some ok ok' e)
end Dr
set_option Elab.async false
set_option linter.all false
set_option maxRecDepth 100000
set_option maxHeartbeats 4000000
namespace Dr
/-! ### what is reached is closed -/
theorem visit_has {m : Mc} {here t : Nat} {b : Bool} {st : St} (h : nx m here b = some t) : t ∈ (visit m here b st).map (·.1) := by
  unfold visit
  rw [h]
  dsimp only
  split
  · rename_i hh; exact hs_mem.mp hh
  · simp
def WfD (m : Mc) (i : Nat) (st : St) : Prop := ∀ j, j < i → ∀ p, st[j]? = some p → ∀ x y, m.rows[p.1]? = some (.toss x y) → x ∈ st.map (·.1) ∧ y ∈ st.map (·.1)
theorem wf_end {m : Mc} {i : Nat} {st : St} (h : WfD m i st) (hi : st.length ≤ i) : ∀ s ∈ st.map (·.1), ∀ x y, m.rows[s]? = some (.toss x y) → x ∈ st.map (·.1) ∧ y ∈ st.map (·.1) := by
  intro s hs x y hr
  obtain ⟨p, hp, rfl⟩ := List.mem_map.mp hs
  obtain ⟨j, hj, e⟩ := List.getElem_of_mem hp
  exact h j (by omega) p (List.getElem?_eq_some_iff.mpr ⟨hj, e⟩) x y hr
theorem wf_closed {m : Mc} {z : Nat} (ok : m.Ok z) : ∀ (n i : Nat) (st : St), WfI m st → WfD m i st → n + i = m.rows.length → ∀ s ∈ (wfGo m n i st).map (·.1), ∀ x y, m.rows[s]? = some (.toss x y) → x ∈ (wfGo m n i st).map (·.1) ∧ y ∈ (wfGo m n i st).map (·.1)
  | 0, i, st, hI, hD, hn => by
    have := hI.len
    simp only [wfGo]
    exact wf_end hD (by omega)
  | n + 1, i, st, hI, hD, hn => by
    unfold wfGo
    cases e : st[i]? with
    | none => exact wf_end hD (List.getElem?_eq_none_iff.mp e)
    | some p =>
      dsimp only
      obtain ⟨i1, r1, e1⟩ := visit_i (here := p.1) (b := false) ok hI
      obtain ⟨i2, r2, e2⟩ := visit_i (here := p.1) (b := true) ok i1
      have hil := (List.getElem?_eq_some_iff.mp e).1
      refine wf_closed ok n (i + 1) _ i2 ?_ (by omega)
      intro j hj q hq x y hr
      show x ∈ List.map _ (visit m p.1 true (visit m p.1 false st)) ∧ y ∈ List.map _ (visit m p.1 true (visit m p.1 false st))
      have hq : (visit m p.1 true (visit m p.1 false st))[j]? = some q := hq
      by_cases hji : j < i
      · rw [e2, e1, List.getElem?_append_left (by simp; omega), List.getElem?_append_left (by omega)] at hq
        obtain ⟨h1, h2⟩ := hD j hji q hq x y hr
        rw [e2, e1, List.map_append, List.map_append]
        exact ⟨List.mem_append_left _ (List.mem_append_left _ h1), List.mem_append_left _ (List.mem_append_left _ h2)⟩
      · obtain rfl : j = i := by omega
        rw [e2, e1, List.getElem?_append_left (by simp; omega), List.getElem?_append_left (by omega), e] at hq
        obtain rfl := Option.some.inj hq
        have n1 : nx m p.1 false = some x := by unfold nx; rw [hr]; rfl
        have n2 : nx m p.1 true = some y := by unfold nx; rw [hr]; rfl
        refine ⟨?_, visit_has n2⟩
        rw [e2, List.map_append]
        exact List.mem_append_left _ (visit_has n1)
theorem ways_closed {m : Mc} {z : Nat} (ok : m.Ok z) : ∀ s ∈ (ways m 0).map (·.1), ∀ x y, m.rows[s]? = some (.toss x y) → x ∈ (ways m 0).map (·.1) ∧ y ∈ (ways m 0).map (·.1) :=
  wf_closed ok _ 0 _ ⟨by simp, by simpa using ok.pos, by simp⟩ (fun j hj => by omega) (by omega)
theorem closed_all {m : Mc} {z : Nat} (ok : m.Ok z) : Closed m := by
  intro s hs x y hr
  have p := reached_perm ok
  obtain ⟨h1, h2⟩ := ways_closed ok s (p.mem_iff.mpr hs) x y hr
  exact ⟨p.mem_iff.mp h1, p.mem_iff.mp h2⟩
/-! ### names that part the standings as their runs do -/
structure Lots (m : Mc) (L : List Nat) (f : Nat → Nat) : Prop where
  cl : LCl m L
  lt : ∀ s ∈ L, s < m.rows.length
  eq : ∀ s ∈ L, ∀ t ∈ L, (f s = f t ↔ Bis m m s t)
theorem base_bis {m : Mc} {s t : Nat} (h : Bis m m s t) : baseN m s = baseN m t := by
  unfold baseN
  rcases h.step.cases with ⟨i, e1, e2⟩ | ⟨x, y, x', y', e1, e2, _, _⟩ <;> rw [e1, e2]
theorem sgn_bis {m : Mc} {L : List Nat} {f : Nat → Nat} (cl : LCl m L) (h : ∀ s ∈ L, ∀ t ∈ L, Bis m m s t → f s = f t) {s t : Nat} (hs : s ∈ L) (ht : t ∈ L) (b : Bis m m s t) : sgn m f s = sgn m f t := by
  unfold sgn fols
  rcases b.step.cases with ⟨i, e1, e2⟩ | ⟨x, y, x', y', e1, e2, h1, h2⟩
  · rw [e1, e2, h s hs t ht b]
  · obtain ⟨c1, c2⟩ := cl s hs x y e1
    obtain ⟨c3, c4⟩ := cl t ht x' y' e2
    rw [e1, e2, h s hs t ht b]
    dsimp only
    rw [h x c1 x' c3 h1, h y c2 y' c4 h2]
theorem rnd_coarse {m : Mc} {L : List Nat} {f : Nat → Nat} (cl : LCl m L) (h : Rnd m L f) : ∀ s ∈ L, ∀ t ∈ L, Bis m m s t → f s = f t := by
  induction h with
  | init => exact fun s _ t _ b => base_bis b
  | @step f js h hj hm ih =>
    intro s hs t ht b
    show js.idxOf (sgn m f s) = js.idxOf (sgn m f t)
    rw [sgn_bis cl ih hs ht b]
theorem rnd_base {m : Mc} {L : List Nat} {f : Nat → Nat} (h : Rnd m L f) : ∀ s ∈ L, ∀ t ∈ L, f s = f t → baseN m s = baseN m t := by
  induction h with
  | init => exact fun s _ t _ b => b
  | @step f js h hj hm ih =>
    intro s hs t ht e
    have := idx_inj ((hm _).mpr (List.mem_map_of_mem hs)) e ((hm _).mpr (List.mem_map_of_mem ht))
    exact ih s hs t ht (congrArg Prod.fst this)
def Stable (m : Mc) (L : List Nat) (f : Nat → Nat) : Prop := ∀ s ∈ L, ∀ t ∈ L, f s = f t → sgn m f s = sgn m f t
theorem lots_of_stable {m : Mc} {L : List Nat} {f : Nat → Nat} (cl : LCl m L) (lt : ∀ s ∈ L, s < m.rows.length) (h : Rnd m L f) (st : Stable m L f) : Lots m L f := by
  refine ⟨cl, lt, fun s hs t ht => ⟨fun e => ⟨fun a b => a ∈ L ∧ b ∈ L ∧ f a = f b, ?_, hs, ht, e⟩, rnd_coarse cl h s hs t ht⟩⟩
  rintro a b ⟨ha, hb, e⟩
  have e1 := rnd_base h a ha b hb e
  have e2 := st a ha b hb e
  have la := lt a ha
  have lb := lt b hb
  have ea := List.getElem?_eq_getElem la
  have eb := List.getElem?_eq_getElem lb
  generalize m.rows[a] = ra at ea
  generalize m.rows[b] = rb at eb
  unfold baseN at e1
  have e3 := congrArg Prod.snd e2
  unfold sgn fols at e3
  rw [ea, eb] at e1 e3 ⊢
  cases ra with
  | out i => cases rb with
    | out j =>
      have : i = j := by simp only at e1; omega
      exact this
    | toss x y => simp only at e1; omega
  | toss x y => cases rb with
    | out j => simp only at e1; omega
    | toss x' y' =>
      obtain ⟨c1, c2⟩ := cl a ha x y ea
      obtain ⟨c3, c4⟩ := cl b hb x' y' eb
      simp only [List.cons.injEq, and_true] at e3
      exact ⟨⟨c1, c3, e3.1⟩, ⟨c2, c4, e3.2⟩⟩
theorem stable_of_cnt {m : Mc} {L : List Nat} {f : Nat → Nat} {js : List Kb} (hj : js.Nodup) (hm : ∀ b, b ∈ js ↔ b ∈ L.map (sgn m f)) (hc : js.length ≤ cntV L f) : Stable m L f := by
  intro s hs t ht e
  by_cases q : sgn m f s = sgn m f t
  · exact q
  · exfalso
    have b1 : sgn m f s ∈ js := (hm _).mpr (List.mem_map_of_mem hs)
    have b2 : sgn m f t ∈ js := (hm _).mpr (List.mem_map_of_mem ht)
    obtain ⟨n1, m1⟩ := ddp_props (L.map f)
    have := nodup_sub _ ((js.erase (sgn m f s)).map (·.1)) n1 (fun x hx => by
      obtain ⟨u, hu, rfl⟩ := List.mem_map.mp ((m1 x).mp hx)
      have b3 : sgn m f u ∈ js := (hm _).mpr (List.mem_map_of_mem hu)
      by_cases q2 : sgn m f u = sgn m f s
      · refine List.mem_map.mpr ⟨sgn m f t, (List.mem_erase_of_ne (Ne.symm q)).mpr b2, ?_⟩
        have : f u = f s := congrArg Prod.fst q2
        show f t = f u
        rw [this, e]
      · exact List.mem_map.mpr ⟨sgn m f u, (List.mem_erase_of_ne q2).mpr b3, rfl⟩)
    rw [List.length_map, List.length_map, List.length_erase_of_mem b1] at this
    have : 0 < js.length := List.length_pos_of_mem b1
    unfold cntV at hc
    omega
theorem stable_step {m : Mc} {L : List Nat} {f : Nat → Nat} {js : List Kb} (cl : LCl m L) (hm : ∀ b, b ∈ js ↔ b ∈ L.map (sgn m f)) (st : Stable m L f) : Stable m L (fun s => js.idxOf (sgn m f s)) := by
  have key : ∀ u ∈ L, ∀ v ∈ L, f u = f v → js.idxOf (sgn m f u) = js.idxOf (sgn m f v) := fun u hu v hv e => by rw [st u hu v hv e]
  intro s hs t ht e
  have e2 := idx_inj ((hm _).mpr (List.mem_map_of_mem hs)) e ((hm _).mpr (List.mem_map_of_mem ht))
  have e3 : fols m f s = fols m f t := congrArg Prod.snd e2
  unfold sgn
  refine Prod.ext e ?_
  have ft : ∀ (g : Nat → Nat) (u x y : Nat), m.rows[u]? = some (.toss x y) → fols m g u = [g x, g y] := fun g u x y e => by unfold fols; rw [e]
  have fn : ∀ (g : Nat → Nat) (u : Nat), (∀ x y, m.rows[u]? ≠ some (.toss x y)) → fols m g u = [] := fun g u e => by
    unfold fols
    split
    · rename_i x y q; exact absurd q (e x y)
    · rfl
  show fols m _ s = fols m _ t
  by_cases h1 : ∃ x y, m.rows[s]? = some (.toss x y)
  · obtain ⟨x, y, ea⟩ := h1
    rw [ft _ _ _ _ ea] at e3 ⊢
    by_cases h2 : ∃ x y, m.rows[t]? = some (.toss x y)
    · obtain ⟨x', y', eb⟩ := h2
      rw [ft _ _ _ _ eb] at e3 ⊢
      obtain ⟨c1, c2⟩ := cl s hs x y ea
      obtain ⟨c3, c4⟩ := cl t ht x' y' eb
      simp only [List.cons.injEq, and_true] at e3
      show [js.idxOf (sgn m f x), js.idxOf (sgn m f y)] = [js.idxOf (sgn m f x'), js.idxOf (sgn m f y')]
      rw [key x c1 x' c3 e3.1, key y c2 y' c4 e3.2]
    · rw [fn _ t fun x y q => h2 ⟨x, y, q⟩] at e3
      cases e3
  · rw [fn _ s fun x y q => h1 ⟨x, y, q⟩] at e3 ⊢
    by_cases h2 : ∃ x y, m.rows[t]? = some (.toss x y)
    · obtain ⟨x', y', eb⟩ := h2
      rw [ft _ _ _ _ eb] at e3
      cases e3
    · rw [fn _ t fun x y q => h2 ⟨x, y, q⟩]
theorem lots_of_LotsP {m : Mc} {z : Nat} (ok : m.Ok z) {f : Nat → Nat} (h : LotsP m f) : Lots m (reached m) f := by
  obtain ⟨g, js, hr, hj, hm, hc, rfl⟩ := h
  have cl : LCl m (reached m) := closed_all ok
  exact lots_of_stable cl (fun s hs => reached_lt hs) (.step hr hj hm) (stable_step cl hm (stable_of_cnt hj hm (Nat.le_of_eq hc)))
theorem RndN.rnd {m : Mc} {L : List Nat} {n : Nat} {f : Nat → Nat} (h : RndN m L n f) : Rnd m L f := by
  induction h with
  | init => exact .init
  | step h hj hm ih => exact .step ih hj hm
theorem rndN_stable {m : Mc} {L : List Nat} {n : Nat} {f : Nat → Nat} (cl : LCl m L) (ne : L ≠ []) (h : RndN m L n f) : Stable m L f ∨ n + 1 ≤ cntV L f := by
  induction h with
  | init =>
    right
    obtain ⟨n1, m1⟩ := ddp_props (L.map (baseN m))
    cases L with
    | nil => exact absurd rfl ne
    | cons a l =>
      have := (m1 (baseN m a)).mpr (by simp)
      have := List.length_pos_of_mem this
      unfold cntV
      rw [List.length_map] at this
      exact this
  | @step n f js h hj hm ih =>
    by_cases st : Stable m L f
    · exact .inl (stable_step cl hm st)
    · right
      rw [cnt_idx hj hm]
      rcases ih with ih | ih
      · exact absurd ih st
      · have : ¬ js.length ≤ cntV L f := fun q => st (stable_of_cnt hj hm q)
        omega
theorem lots_of_RndN {m : Mc} {L : List Nat} {f : Nat → Nat} (cl : LCl m L) (lt : ∀ s ∈ L, s < m.rows.length) (ne : L ≠ []) (h : RndN m L L.length f) : Lots m L f := by
  refine lots_of_stable cl lt h.rnd ?_
  rcases rndN_stable cl ne h with st | q
  · exact st
  · have := cnt_len L f
    omega
/-! ### folded machines: no two standings run the same, in the order in which they are first reached -/
def OrdOk (rows : List Rw) (c : Nat → Nat) : Prop := c 0 = 1 ∧ c rows.length = rows.length ∧ ∀ i r, rows[i]? = some r → i < c i ∧ match r with
  | .out _ => c (i + 1) = c i
  | .toss a b => a ≤ c i ∧ b ≤ max (c i) (a + 1) ∧ c (i + 1) = max (max (c i) (a + 1)) (b + 1)
structure Canon (m : Mc) : Prop where
  ord : ∃ c, OrdOk m.rows c
  red : ∀ s t, Bis m m s t → s = t
/-- the same standing at the same place -/
theorem same_place {F F' : Mc} (r : ∀ s t, Bis F F s t → s = t) (r' : ∀ s t, Bis F' F' s t → s = t) {c a a' : Nat} (h : ∀ k, k < c → Bis F F' k k) (ha : a ≤ c) (ha' : a' ≤ c) (b : Bis F F' a a') : a = a' := by
  by_cases q : a < c
  · exact r' a a' ((h a q).symm.trans b)
  · by_cases q' : a' < c
    · exact r a a' (b.trans (h a' q').symm)
    · omega
theorem canon_step {F F' : Mc} {c c' : Nat → Nat} (h : OrdOk F.rows c) (h' : OrdOk F'.rows c') (r : ∀ s t, Bis F F s t → s = t) (r' : ∀ s t, Bis F' F' s t → s = t) (b0 : Bis F F' 0 0) : ∀ i, i ≤ F.rows.length → i ≤ F'.rows.length → c i = c' i ∧ (∀ k, k < c i → Bis F F' k k) ∧ ∀ j, j < i → F.rows[j]? = F'.rows[j]?
  | 0, _, _ => ⟨by rw [h.1, h'.1], fun k hk => (by rw [h.1] at hk; (obtain rfl : k = 0 := by omega); exact b0), fun j hj => absurd hj (by omega)⟩
  | i + 1, hi, hi' => by
    obtain ⟨ec, hb, hr⟩ := canon_step h h' r r' b0 i (by omega) (by omega)
    have e1 := List.getElem?_eq_getElem (l := F.rows) (i := i) (by omega)
    have e2 := List.getElem?_eq_getElem (l := F'.rows) (i := i) (by omega)
    obtain ⟨l1, q1⟩ := h.2.2 i _ e1
    obtain ⟨l2, q2⟩ := h'.2.2 i _ e2
    have st := (hb i l1).step
    rw [e1, e2] at st
    have all : F.rows[i]? = F'.rows[i]? ∧ c (i + 1) = c' (i + 1) ∧ ∀ k, k < c (i + 1) → Bis F F' k k := by
      rcases st.cases with ⟨o, a1, a2⟩ | ⟨x, y, x', y', a1, a2, b1, b2⟩
      · rw [Option.some.inj a1] at q1
        rw [Option.some.inj a2] at q2
        dsimp only at q1 q2
        refine ⟨by rw [e1, e2, a1, a2], by omega, fun k hk => hb k (by omega)⟩
      · rw [Option.some.inj a1] at q1
        rw [Option.some.inj a2] at q2
        dsimp only at q1 q2
        obtain ⟨p1, p2, p3⟩ := q1
        obtain ⟨p4, p5, p6⟩ := q2
        obtain rfl : x = x' := same_place r r' hb p1 (by omega) b1
        have hb2 : ∀ k, k < max (c i) (x + 1) → Bis F F' k k := fun k hk => by
          by_cases q : k < c i
          · exact hb k q
          · obtain rfl : k = x := by omega
            exact b1
        obtain rfl : y = y' := same_place r r' hb2 p2 (by omega) b2
        refine ⟨by rw [e1, e2, a1, a2], by omega, fun k hk => ?_⟩
        rw [p3] at hk
        by_cases q : k < max (c i) (x + 1)
        · exact hb2 k q
        · obtain rfl : k = y := by omega
          exact b2
    refine ⟨all.2.1, all.2.2, fun j hj => ?_⟩
    by_cases q : j < i
    · exact hr j q
    · obtain rfl : j = i := by omega
      exact all.1
theorem canon_eq {F F' : Mc} (h : Canon F) (h' : Canon F') (hn : F.n = F'.n) (b0 : Bis F F' 0 0) : F = F' := by
  obtain ⟨c, hc⟩ := h.ord
  obtain ⟨c', hc'⟩ := h'.ord
  have st := canon_step hc hc' h.red h'.red b0
  have hl : F.rows.length = F'.rows.length := by
    rcases Nat.lt_trichotomy F.rows.length F'.rows.length with q | q | q
    · obtain ⟨ec, _, _⟩ := st F.rows.length (Nat.le_refl _) (by omega)
      obtain ⟨l2, _⟩ := hc'.2.2 F.rows.length _ (List.getElem?_eq_getElem q)
      have := hc.2.1
      omega
    · exact q
    · obtain ⟨ec, _, _⟩ := st F'.rows.length (by omega) (Nat.le_refl _)
      obtain ⟨l2, _⟩ := hc.2.2 F'.rows.length _ (List.getElem?_eq_getElem q)
      have := hc'.2.1
      omega
  have hr : F.rows = F'.rows := by
    apply List.ext_getElem?
    intro j
    by_cases q : j < F.rows.length
    · exact (st F.rows.length (Nat.le_refl _) (by omega)).2.2 j q
    · rw [List.getElem?_eq_none_iff.mpr (by omega), List.getElem?_eq_none_iff.mpr (by omega)]
  cases F
  cases F'
  simp only at hn hr
  rw [hn, hr]
end Dr
set_option Elab.async false
set_option linter.all false
set_option maxRecDepth 100000
set_option maxHeartbeats 4000000
namespace Dr
/-! ### the folded machine -/
def gGo (m : Mc) (f : Nat → Nat) : Nat → List Nat
  | 0 => [0]
  | i + 1 => match (gGo m f i)[i]? with
    | none => gGo m f i
    | some s => fstep m f s (gGo m f i)
section
variable {m : Mc} {f : Nat → Nat} {L : List Nat}
theorem fstep_ex (m : Mc) (f : Nat → Nat) (s : Nat) (O : List Nat) : ∃ r, fstep m f s O = O ++ r := by
  unfold fstep
  split
  · rename_i x y e
    obtain ⟨r1, e1⟩ := fvisit_ex f x O
    obtain ⟨r2, e2⟩ := fvisit_ex f y (fvisit f x O)
    exact ⟨r1 ++ r2, by rw [e2, e1, List.append_assoc]⟩
  · exact ⟨[], by simp⟩
theorem gGo_ex (m : Mc) (f : Nat → Nat) (i : Nat) : ∃ r, gGo m f (i + 1) = gGo m f i ++ r := by
  show ∃ r, (match (gGo m f i)[i]? with
    | none => gGo m f i
    | some s => fstep m f s (gGo m f i)) = _
  cases (gGo m f i)[i]? with
  | none => exact ⟨[], by simp⟩
  | some s => exact fstep_ex m f s _
theorem gGo_pre (m : Mc) (f : Nat → Nat) (i : Nat) : ∀ n, ∃ r, gGo m f (i + n) = gGo m f i ++ r
  | 0 => ⟨[], by simp⟩
  | n + 1 => by
    obtain ⟨r, e⟩ := gGo_pre m f i n
    obtain ⟨r2, e2⟩ := gGo_ex m f (i + n)
    exact ⟨r ++ r2, by rw [show i + (n + 1) = i + n + 1 by omega, e2, e, List.append_assoc]⟩
theorem gGo_stop {i : Nat} (h : (gGo m f i)[i]? = none) : ∀ n, gGo m f (i + n) = gGo m f i
  | 0 => rfl
  | n + 1 => by
    have ih := gGo_stop h n
    show (match (gGo m f (i + n))[i + n]? with
      | none => gGo m f (i + n)
      | some s => fstep m f s (gGo m f (i + n))) = _
    rw [ih]
    have hl := List.getElem?_eq_none_iff.mp h
    rw [List.getElem?_eq_none_iff.mpr (by omega)]
theorem ff_gGo (m : Mc) (f : Nat → Nat) : ∀ n i, ffGo m f n i (gGo m f i) = gGo m f (i + n)
  | 0, i => rfl
  | n + 1, i => by
    unfold ffGo
    cases e : (gGo m f i)[i]? with
    | none => rw [gGo_stop e]
    | some s =>
      have : fstep m f s (gGo m f i) = gGo m f (i + 1) := by
        show _ = (match (gGo m f i)[i]? with
          | none => gGo m f i
          | some s => fstep m f s (gGo m f i))
        rw [e]
      dsimp only
      rw [this, ff_gGo m f n (i + 1)]
      congr 1
      omega
theorem foldO_gGo (m : Mc) (f : Nat → Nat) : foldO m f = gGo m f m.rows.length := by
  have := ff_gGo m f m.rows.length 0
  rw [Nat.zero_add] at this
  exact this
/-- what holds of the order -/
structure GoI (m : Mc) (L : List Nat) (f : Nat → Nat) (O : List Nat) : Prop where
  nd : (O.map f).Nodup
  re : ∀ s ∈ O, s ∈ L
theorem GoI.len {O : List Nat} (lt : ∀ s ∈ L, s < m.rows.length) (h : GoI m L f O) : O.length ≤ m.rows.length := by
  have nd : O.Nodup := by
    have := h.nd
    rw [List.Nodup, List.pairwise_map] at this
    exact this.imp fun h e => h (by rw [e])
  exact nodup_len nd fun x hx => lt x (h.re x hx)
theorem GoI.visit {O : List Nat} {t : Nat} (h : GoI m L f O) (ht : t ∈ L) : GoI m L f (fvisit f t O) := by
  unfold fvisit
  split
  · exact h
  · rename_i hh
    refine ⟨?_, fun s hs => ?_⟩
    · rw [List.map_append, List.nodup_append]
      refine ⟨h.nd, by simp, fun a ha c hc => ?_⟩
      simp at hc
      subst hc
      rintro rfl
      exact hh (by simpa using ha)
    · rcases List.mem_append.mp hs with hs | hs
      · exact h.re s hs
      · rw [List.mem_singleton.mp hs]; exact ht
theorem gGo_i (cl : LCl m L) (h0 : 0 ∈ L) : ∀ i, GoI m L f (gGo m f i)
  | 0 => ⟨by simp [gGo], fun s hs => by rw [List.mem_singleton.mp hs]; exact h0⟩
  | i + 1 => by
    have ih := gGo_i cl h0 i
    show GoI m L f (match (gGo m f i)[i]? with
      | none => gGo m f i
      | some s => fstep m f s (gGo m f i))
    cases e : (gGo m f i)[i]? with
    | none => exact ih
    | some s =>
      dsimp only
      unfold fstep
      split
      · rename_i x y e2
        obtain ⟨hx, hy⟩ := cl s (ih.re s (List.mem_of_getElem? e)) x y e2
        exact (ih.visit hx).visit hy
      · exact ih
theorem gGo_0 (i : Nat) : (gGo m f i)[0]? = some 0 := by
  obtain ⟨r, e⟩ := gGo_pre m f 0 i
  rw [Nat.zero_add] at e
  rw [e]; rfl
/-- i standings are looked at: the end -/
theorem gGo_len (cl : LCl m L) (lt : ∀ s ∈ L, s < m.rows.length) (h0 : 0 ∈ L) {i : Nat} (h : (gGo m f i).length ≤ i) (hi : i ≤ m.rows.length) : gGo m f i = foldO m f := by
  have := gGo_stop (List.getElem?_eq_none_iff.mpr h) (m.rows.length - i)
  rw [foldO_gGo, ← this]
  congr 1
  omega
theorem foldO_pre (i : Nat) (hi : i ≤ m.rows.length) : ∃ r, foldO m f = gGo m f i ++ r := by
  obtain ⟨r, e⟩ := gGo_pre m f i (m.rows.length - i)
  rw [foldO_gGo]
  exact ⟨r, by rw [← e]; congr 1; omega⟩
theorem idx_bound {O G r : List Nat} {x : Nat} (e : O = fvisit f x G ++ r) : (O.map f).idxOf (f x) ≤ G.length ∧ (fvisit f x G).length = max G.length ((O.map f).idxOf (f x) + 1) := by
  unfold fvisit at e ⊢
  by_cases h : (G.map f).contains (f x) = true
  · rw [if_pos h] at e ⊢
    have hm : f x ∈ G.map f := by simpa using h
    rw [e, List.map_append, List.idxOf_append, if_pos hm]
    have := List.idxOf_lt_length_of_mem hm
    rw [List.length_map] at this
    omega
  · rw [if_neg h] at e ⊢
    have hm : f x ∉ G.map f := by simpa using h
    rw [e, List.map_append, List.map_append, List.append_assoc, List.idxOf_append, if_neg hm]
    simp
/-- whose followers are looked at have followers in the order -/
theorem fold_has {s x y : Nat} {i : Nat} (hi : i < m.rows.length) (e : (foldO m f)[i]? = some s) (cl : LCl m L) (lt : ∀ s ∈ L, s < m.rows.length) (h0 : 0 ∈ L) (hr : m.rows[s]? = some (.toss x y)) :
    ∃ r, foldO m f = fvisit f y (fvisit f x (gGo m f i)) ++ r ∧ gGo m f (i + 1) = fvisit f y (fvisit f x (gGo m f i)) ∧ i < (gGo m f i).length := by
  have hil := (List.getElem?_eq_some_iff.mp e).1
  have hlt : i < (gGo m f i).length := by
    apply Nat.lt_of_not_le
    intro q
    have := gGo_len cl lt h0 q (by omega)
    rw [this] at q
    omega
  obtain ⟨r, er⟩ := foldO_pre (m := m) (f := f) i (by omega)
  have e2 : (gGo m f i)[i]? = some s := by
    rw [er, List.getElem?_append_left hlt] at e
    exact e
  have e3 : gGo m f (i + 1) = fvisit f y (fvisit f x (gGo m f i)) := by
    show (match (gGo m f i)[i]? with
      | none => gGo m f i
      | some s => fstep m f s (gGo m f i)) = _
    rw [e2]
    dsimp only
    unfold fstep
    rw [hr]
  obtain ⟨r2, er2⟩ := foldO_pre (m := m) (f := f) (i + 1) (by omega)
  exact ⟨r2, by rw [er2, e3], e3, hlt⟩
theorem frow_out {O : List Nat} {s i : Nat} (h : m.rows[s]? = some (.out i)) : frow m f O s = .out i := by unfold frow; rw [h]
theorem frow_toss {O : List Nat} {s x y : Nat} (h : m.rows[s]? = some (.toss x y)) : frow m f O s = .toss ((O.map f).idxOf (f x)) ((O.map f).idxOf (f y)) := by unfold frow; rw [h]
theorem foldM_row {p : Nat} : (foldM m f).rows[p]? = ((foldO m f)[p]?).map (frow m f (foldO m f)) := by
  unfold foldM
  rw [List.getElem?_map]
theorem fold_ord (h : Lots m L f) (h0 : 0 ∈ L) : ∃ c, OrdOk (foldM m f).rows c := by
  have hl : (foldM m f).rows.length = (foldO m f).length := by simp [foldM]
  have hN : (foldO m f).length ≤ m.rows.length := by
    rw [foldO_gGo]
    exact (gGo_i h.cl h0 _).len h.lt
  refine ⟨fun i => (gGo m f i).length, rfl, ?_, fun i r hr => ?_⟩
  · rw [hl]
    obtain ⟨r, e⟩ := foldO_pre (m := m) (f := f) _ hN
    have : (gGo m f (foldO m f).length).length ≤ (foldO m f).length := by
      conv => rhs; rw [e]
      simp
    show (gGo m f (foldO m f).length).length = (foldO m f).length
    rw [gGo_len h.cl h.lt h0 this hN]
  · rw [foldM_row] at hr
    cases e : (foldO m f)[i]? with
    | none => rw [e] at hr; cases hr
    | some s =>
      rw [e] at hr
      obtain rfl := Option.some.inj hr
      have hil := (List.getElem?_eq_some_iff.mp e).1
      have hs : s ∈ L := (gGo_i h.cl h0 m.rows.length).re s (by rw [← foldO_gGo (f := f)]; exact List.mem_of_getElem? e)
      have hlt : i < (gGo m f i).length := by
        apply Nat.lt_of_not_le
        intro q
        have := gGo_len h.cl h.lt h0 q (by omega)
        rw [this] at q
        omega
      refine ⟨hlt, ?_⟩
      obtain ⟨r1, e1⟩ := foldO_pre (m := m) (f := f) i (by omega)
      obtain ⟨row, es⟩ : ∃ row, m.rows[s]? = some row := ⟨_, List.getElem?_eq_getElem (h.lt s hs)⟩
      cases row with
      | out o =>
        rw [frow_out es]
        have e2 : (gGo m f i)[i]? = some s := by
          rw [e1, List.getElem?_append_left hlt] at e
          exact e
        have e3 : gGo m f (i + 1) = gGo m f i := by
          show (match (gGo m f i)[i]? with
            | none => gGo m f i
            | some s => fstep m f s (gGo m f i)) = _
          rw [e2]
          dsimp only
          unfold fstep
          rw [es]
        dsimp only
        rw [e3]
      | toss x y =>
        rw [frow_toss es]
        obtain ⟨r, er, e3, _⟩ := fold_has (by omega) e h.cl h.lt h0 es
        dsimp only
        rw [e3]
        obtain ⟨b1, b2⟩ := idx_bound er
        obtain ⟨r3, e4⟩ := fvisit_ex f y (fvisit f x (gGo m f i))
        obtain ⟨a1, a2⟩ := idx_bound (f := f) (O := foldO m f) (G := gGo m f i) (x := x) (r := r3 ++ r) (by rw [er, e4, List.append_assoc])
        rw [a2] at b1 b2
        exact ⟨a1, b1, b2⟩
/-- the standing runs as its place in the folded machine -/
theorem fold_bis (h : Lots m L f) (h0 : 0 ∈ L) {s p o : Nat} (hs : s ∈ L) (ho : (foldO m f)[p]? = some o) (e : f s = f o) : Bis m (foldM m f) s p := by
  have hN : (foldO m f).length ≤ m.rows.length := by
    rw [foldO_gGo]
    exact (gGo_i h.cl h0 _).len h.lt
  have hO : ∀ o ∈ foldO m f, o ∈ L := by rw [foldO_gGo]; exact (gGo_i h.cl h0 _).re
  refine ⟨fun s p => s ∈ L ∧ ∃ o, (foldO m f)[p]? = some o ∧ f s = f o, ?_, hs, o, ho, e⟩
  rintro s p ⟨hs, o, ho, e⟩
  have hoL := hO o (List.mem_of_getElem? ho)
  have b := (h.eq s hs o hoL).mp e
  have hpl := (List.getElem?_eq_some_iff.mp ho).1
  rw [foldM_row, ho, Option.map_some]
  have look : ∀ z, f z ∈ (foldO m f).map f → ∃ o', (foldO m f)[((foldO m f).map f).idxOf (f z)]? = some o' ∧ f o' = f z := fun z hz => by
    have l1 := List.idxOf_lt_length_of_mem hz
    have l2 := List.getElem_idxOf l1
    rw [List.getElem_map] at l2
    exact ⟨_, List.getElem?_eq_getElem (by simpa using l1), l2⟩
  rcases b.step.cases with ⟨i, e1, e2⟩ | ⟨x, y, x', y', e1, e2, b1, b2⟩
  · rw [e1, frow_out e2]
    exact (rfl : i = i)
  · rw [e1, frow_toss e2]
    obtain ⟨c1, c2⟩ := h.cl s hs x y e1
    obtain ⟨c3, c4⟩ := h.cl o hoL x' y' e2
    obtain ⟨r, er, _, _⟩ := fold_has (by omega) ho h.cl h.lt h0 e2
    have my : f y' ∈ (foldO m f).map f := by
      rw [er, List.map_append]
      exact List.mem_append_left _ (fvisit_mem f y' _)
    have mx : f x' ∈ (foldO m f).map f := by
      obtain ⟨r3, e4⟩ := fvisit_ex f y' (fvisit f x' (gGo m f p))
      rw [er, e4, List.map_append, List.map_append]
      exact List.mem_append_left _ (List.mem_append_left _ (fvisit_mem f x' _))
    obtain ⟨ox, q1, q2⟩ := look x' mx
    obtain ⟨oy, q3, q4⟩ := look y' my
    exact ⟨⟨c1, ox, q1, by rw [q2]; exact (h.eq x c1 x' c3).mpr b1⟩, ⟨c2, oy, q3, by rw [q4]; exact (h.eq y c2 y' c4).mpr b2⟩⟩
theorem fold_red (h : Lots m L f) (h0 : 0 ∈ L) : ∀ p q, Bis (foldM m f) (foldM m f) p q → p = q := by
  intro p q b
  have hI : GoI m L f (foldO m f) := by rw [foldO_gGo]; exact gGo_i h.cl h0 _
  have row : ∀ (p : Nat) (r : Rw), (foldM m f).rows[p]? = some r → ∃ o, (foldO m f)[p]? = some o := by
    intro p r hr
    rw [foldM_row] at hr
    cases e : (foldO m f)[p]? with
    | none => rw [e] at hr; cases hr
    | some o => exact ⟨o, rfl⟩
  have both : (∃ r, (foldM m f).rows[p]? = some r) ∧ ∃ r, (foldM m f).rows[q]? = some r := by
    rcases b.step.cases with ⟨i, e1, e2⟩ | ⟨x, y, x', y', e1, e2, _, _⟩
    · exact ⟨⟨_, e1⟩, ⟨_, e2⟩⟩
    · exact ⟨⟨_, e1⟩, ⟨_, e2⟩⟩
  obtain ⟨⟨r1, hr1⟩, r2, hr2⟩ := both
  obtain ⟨o, ho⟩ := row p r1 hr1
  obtain ⟨o', ho'⟩ := row q r2 hr2
  have m1 := hI.re o (List.mem_of_getElem? ho)
  have m2 := hI.re o' (List.mem_of_getElem? ho')
  have b1 := fold_bis h h0 m1 ho rfl
  have b2 := fold_bis h h0 m2 ho' rfl
  have e : f o = f o' := (h.eq o m1 o' m2).mpr ((b1.trans b).trans b2.symm)
  have l1 := (List.getElem?_eq_some_iff.mp ho).1
  have l2 := (List.getElem?_eq_some_iff.mp ho').1
  have nd := List.pairwise_iff_getElem.mp hI.nd
  have v1 : ((foldO m f).map f)[p]'(by simpa using l1) = f o := by rw [List.getElem_map, (List.getElem?_eq_some_iff.mp ho).2]
  have v2 : ((foldO m f).map f)[q]'(by simpa using l2) = f o' := by rw [List.getElem_map, (List.getElem?_eq_some_iff.mp ho').2]
  rcases Nat.lt_trichotomy p q with lt | eq | lt
  · exact absurd (by rw [v1, v2, e]) (nd p q (by simpa using l1) (by simpa using l2) lt)
  · exact eq
  · exact absurd (by rw [v1, v2, e]) (nd q p (by simpa using l2) (by simpa using l1) lt)
theorem fold_canon (h : Lots m L f) (h0 : 0 ∈ L) : Canon (foldM m f) ∧ Bis m (foldM m f) 0 0 :=
  ⟨⟨fold_ord h h0, fold_red h h0⟩, fold_bis h h0 h0 (by rw [foldO_gGo]; exact gGo_0 _) rfl⟩
theorem fold_len (h : Lots m L f) (h0 : 0 ∈ L) : (foldM m f).rows.length ≤ m.rows.length := by
  have : (foldO m f).length ≤ m.rows.length := by
    rw [foldO_gGo]
    exact (gGo_i h.cl h0 _).len h.lt
  simpa [foldM] using this
theorem fold_okL {z : Nat} (ok : m.Ok z) (h : Lots m L f) (h0 : 0 ∈ L) : (foldM m f).Ok z := by
  have hl : (foldM m f).rows.length = (foldO m f).length := by simp [foldM]
  have g0 : (foldO m f)[0]? = some 0 := by rw [foldO_gGo]; exact gGo_0 _
  refine ⟨ok.n1, ok.n8, ?_, Nat.le_trans (fold_len h h0) ok.le, fun r hr => ?_⟩
  · rw [hl]; exact (List.getElem?_eq_some_iff.mp g0).1
  · obtain ⟨p, hp⟩ := List.mem_iff_getElem?.mp hr
    rw [foldM_row] at hp
    cases e : (foldO m f)[p]? with
    | none => rw [e] at hp; cases hp
    | some o =>
      rw [e] at hp
      obtain rfl := Option.some.inj hp
      have hI : GoI m L f (foldO m f) := by rw [foldO_gGo]; exact gGo_i h.cl h0 _
      have ho := hI.re o (List.mem_of_getElem? e)
      have hpl := (List.getElem?_eq_some_iff.mp e).1
      have hN := hI.len h.lt
      obtain ⟨row, es⟩ : ∃ row, m.rows[o]? = some row := ⟨_, List.getElem?_eq_getElem (h.lt o ho)⟩
      have okr := ok.row _ (List.mem_of_getElem? es)
      cases row with
      | out i => rw [frow_out es]; exact okr
      | toss x y =>
        rw [frow_toss es]
        obtain ⟨r, er, _, _⟩ := fold_has (by omega) e h.cl h.lt h0 es
        have my : f y ∈ (foldO m f).map f := by
          rw [er, List.map_append]
          exact List.mem_append_left _ (fvisit_mem f y _)
        have mx : f x ∈ (foldO m f).map f := by
          obtain ⟨r3, e4⟩ := fvisit_ex f y (fvisit f x (gGo m f p))
          rw [er, e4, List.map_append, List.map_append]
          exact List.mem_append_left _ (List.mem_append_left _ (fvisit_mem f x _))
        have l1 := List.idxOf_lt_length_of_mem mx
        have l2 := List.idxOf_lt_length_of_mem my
        rw [List.length_map] at l1 l2
        rw [hl]
        exact ⟨l1, l2⟩
end
/-! ### the law's order is the program's -/
def lrK (m : Mc) (j : Nat) : List Nat := (List.range j).foldl (lrStep m) [0]
theorem lrK_succ (m : Mc) (j : Nat) : lrK m (j + 1) = lrStep m (lrK m j) j := by
  unfold lrK
  rw [List.range_succ, List.foldl_append]; rfl
section
variable {m : Mc} {f : Nat → Nat}
theorem lfirst_snoc (l : List Nat) (s : Nat) : lfirst f (l ++ [s]) = fvisit f s (lfirst f l) := by
  unfold lfirst fvisit
  rw [List.foldl_append]; rfl
theorem lfirst_has (f : Nat → Nat) : ∀ (l : List Nat), (∀ s ∈ l, f s ∈ (lfirst f l).map f) ∧ (∀ s ∈ lfirst f l, s ∈ l) := by
  intro l
  suffices h : ∀ n, n ≤ l.length → (∀ s ∈ l.take n, f s ∈ (lfirst f (l.take n)).map f) ∧ (∀ s ∈ lfirst f (l.take n), s ∈ l.take n) by
    have := h l.length (Nat.le_refl _)
    rwa [List.take_length] at this
  intro n
  induction n with
  | zero => intro _; simp [lfirst]
  | succ n ih =>
    intro hn
    obtain ⟨h1, h2⟩ := ih (by omega)
    have e : l.take (n + 1) = l.take n ++ [l[n]] := by rw [List.take_succ, List.getElem?_eq_getElem (by omega)]; rfl
    rw [e, lfirst_snoc]
    obtain ⟨r, er⟩ := fvisit_ex f l[n] (lfirst f (l.take n))
    refine ⟨fun s hs => ?_, fun s hs => ?_⟩
    · rcases List.mem_append.mp hs with hs | hs
      · rw [er, List.map_append]
        exact List.mem_append_left _ (h1 s hs)
      · rw [List.mem_singleton.mp hs]
        exact fvisit_mem f _ _
    · unfold fvisit at hs
      split at hs
      · exact List.mem_append_left _ (h2 s hs)
      · rcases List.mem_append.mp hs with hs | hs
        · exact List.mem_append_left _ (h2 s hs)
        · exact List.mem_append_right _ hs
theorem fvisit_id {t : Nat} {O : List Nat} (h : f t ∈ O.map f) : fvisit f t O = O := by
  unfold fvisit
  rw [if_pos (by simpa using h)]
theorem lfirst_visit (t : Nat) (l : List Nat) : lfirst f (lVisit t l) = fvisit f t (lfirst f l) := by
  unfold lVisit
  split
  · rename_i h
    rw [fvisit_id ((lfirst_has f l).1 t (by simpa using h))]
  · exact lfirst_snoc l t
theorem lfirst_pre (l r : List Nat) : ∃ r', lfirst f (l ++ r) = lfirst f l ++ r' := by
  induction r generalizing l with
  | nil => exact ⟨[], by simp⟩
  | cons a r ih =>
    obtain ⟨r1, e1⟩ := ih (l ++ [a])
    obtain ⟨r2, e2⟩ := fvisit_ex f a (lfirst f l)
    refine ⟨r2 ++ r1, ?_⟩
    rw [show l ++ a :: r = l ++ [a] ++ r by simp, e1, lfirst_snoc, e2, List.append_assoc]
theorem lfirst_step (l : List Nat) {j s : Nat} (h : l[j]? = some s) : lfirst f (lrStep m l j) = fstep m f s (lfirst f l) := by
  unfold lrStep fstep
  rw [h]
  dsimp only
  cases e : m.rows[s]? with
  | none => rfl
  | some r => cases r with
    | out i => rfl
    | toss x y =>
      dsimp only
      rw [lfirst_visit, lfirst_visit]
theorem lrK_pre (m : Mc) (j : Nat) : ∀ n, ∃ r, lrK m (j + n) = lrK m j ++ r
  | 0 => ⟨[], by simp⟩
  | n + 1 => by
    obtain ⟨r, e⟩ := lrK_pre m j n
    obtain ⟨r2, e2⟩ := lrStep_ex m (lrK m (j + n)) (j + n)
    exact ⟨r ++ r2, by rw [show j + (n + 1) = j + n + 1 by omega, lrK_succ, e2, e, List.append_assoc]⟩
theorem lr_order {z : Nat} (ok : m.Ok z) (h : Lots m (lReached m) f) : ∀ j, j ≤ m.rows.length → lfirst f (lrK m j) = gGo m f (lfirst f ((lrK m j).take j)).length
  | 0, _ => by simp [lrK, lfirst, gGo]
  | j + 1, hj => by
    have ih := lr_order ok h j (by omega)
    rw [lrK_succ]
    cases e : (lrK m j)[j]? with
    | none =>
      have hl := List.getElem?_eq_none_iff.mp e
      have e2 : lrStep m (lrK m j) j = lrK m j := by unfold lrStep; rw [e]
      rw [e2, List.take_of_length_le (by omega)]
      rw [List.take_of_length_le hl] at ih
      exact ih
    | some s =>
      have hl := (List.getElem?_eq_some_iff.mp e).1
      obtain ⟨r, er⟩ := lrStep_ex m (lrK m j) j
      have et : (lrStep m (lrK m j) j).take (j + 1) = (lrK m j).take j ++ [s] := by
        rw [er, List.take_append_of_le_length (by omega), List.take_succ, e]; rfl
      rw [lfirst_step _ e, et, lfirst_snoc]
      generalize hA : (lrK m j).take j = T at *
      have esp : lrK m j = T ++ [s] ++ (lrK m j).drop (j + 1) := by
        have : lrK m j = (lrK m j).take (j + 1) ++ (lrK m j).drop (j + 1) := (List.take_append_drop _ _).symm
        rw [List.take_succ, e, hA] at this
        exact this
      obtain ⟨r1, e1⟩ := lfirst_pre (f := f) (T ++ [s]) ((lrK m j).drop (j + 1))
      rw [← esp, lfirst_snoc] at e1
      by_cases hc : f s ∈ (lfirst f T).map f
      · rw [fvisit_id hc, ← ih]
        obtain ⟨q, hq, eq⟩ := List.mem_map.mp hc
        have hqT := (lfirst_has f T).2 q hq
        obtain ⟨i, hi, ei⟩ := List.getElem_of_mem hqT
        have hiT : i < j := by
          rw [← hA] at hi
          have := List.length_take_le j (lrK m j)
          omega
        have eqi : (lrK m j)[i]? = some q := by
          rw [esp, List.append_assoc, List.getElem?_append_left hi, List.getElem?_eq_getElem hi, ei]
        obtain ⟨rf, ef⟩ := lrK_pre m j (m.rows.length - j)
        have inL : ∀ t ∈ lrK m j, t ∈ lReached m := fun t ht => by
          show t ∈ lrK m m.rows.length
          rw [show m.rows.length = j + (m.rows.length - j) by omega, ef]
          exact List.mem_append_left _ ht
        have sL := inL s (List.mem_of_getElem? e)
        have qL := inL q (List.mem_of_getElem? eqi)
        have b := (h.eq q qL s sL).mp eq
        unfold fstep
        rcases b.step.cases with ⟨o, a1, a2⟩ | ⟨x, y, x', y', a1, a2, b1, b2⟩
        · rw [a2]
        · rw [a2]
          dsimp only
          obtain ⟨c1, c2⟩ := (lr_closed_aux j).2 i hiT q eqi x y a1
          obtain ⟨c3, c4⟩ := h.cl s sL x' y' a2
          have fx : f x' ∈ (lfirst f (lrK m j)).map f := by
            rw [← (h.eq x (inL x c1) x' c3).mpr b1]
            exact (lfirst_has f _).1 x c1
          have fy : f y' ∈ (lfirst f (lrK m j)).map f := by
            rw [← (h.eq y (inL y c2) y' c4).mpr b2]
            exact (lfirst_has f _).1 y c2
          rw [fvisit_id fx, fvisit_id fy]
      · have ev : fvisit f s (lfirst f T) = lfirst f T ++ [s] := by
          unfold fvisit
          rw [if_neg (by simpa using hc)]
        rw [ev, List.length_append, List.length_singleton]
        rw [ev] at e1
        have eg : (gGo m f (lfirst f T).length)[(lfirst f T).length]? = some s := by
          rw [← ih, e1, List.append_assoc, List.getElem?_append_right (Nat.le_refl _)]
          simp
        show _ = (match (gGo m f (lfirst f T).length)[(lfirst f T).length]? with
          | none => gGo m f (lfirst f T).length
          | some s => fstep m f s (gGo m f (lfirst f T).length))
        rw [eg, ← ih]
theorem lfirst_foldO {z : Nat} (ok : m.Ok z) (h : Lots m (lReached m) f) : lfirst f (lReached m) = foldO m f := by
  have e := lr_order ok h m.rows.length (Nat.le_refl _)
  obtain ⟨lt, nd⟩ := lr_ok ok m.rows.length
  have hl := nd_len lt nd
  have hz : 0 ∈ lReached m := by
    obtain ⟨r, e⟩ := lr_zero (m := m)
    rw [e]; simp
  have e2 : (lrK m m.rows.length).take m.rows.length = lReached m := List.take_of_length_le hl
  rw [e2] at e
  have e3 : lfirst f (lReached m) = gGo m f (lfirst f (lReached m)).length := e
  have hle : (lfirst f (lReached m)).length ≤ m.rows.length := by
    rw [e3]
    exact (gGo_i h.cl hz _).len h.lt
  rw [e3]
  refine gGo_len h.cl h.lt hz ?_ hle
  rw [← e3]
  exact Nat.le_refl _
theorem lfold_fold {z : Nat} (ok : m.Ok z) (h : Lots m (lReached m) f) : lfoldM m f (lReached m) = foldM m f := by
  unfold lfoldM foldM
  rw [lfirst_foldO ok h]
end
theorem rndN_ex (m : Mc) (L : List Nat) : ∀ n, ∃ f, RndN m L n f
  | 0 => ⟨_, .init⟩
  | n + 1 => by
    obtain ⟨f, h⟩ := rndN_ex m L n
    exact ⟨_, .step h (kys_nd _) (kys_mem (L.map (sgn m f)))⟩
/-! ### what both make of a machine -/
structure IsFold (m F : Mc) : Prop where
  can : Canon F
  bis : Bis m F 0 0
  n : F.n = m.n
  ok : ∀ z, m.Ok z → F.Ok z
theorem fold_is {m : Mc} {z : Nat} {f : Nat → Nat} (ok : m.Ok z) (h : LotsP m f) : IsFold m (foldM m f) := by
  have l := lots_of_LotsP ok h
  have h0 := reached_zero ok
  exact ⟨(fold_canon l h0).1, (fold_canon l h0).2, rfl, fun z ok => fold_okL ok l h0⟩
theorem lfold_is {m : Mc} {z : Nat} {f : Nat → Nat} (ok : m.Ok z) (h : RndN m (lReached m) (lReached m).length f) : IsFold m (lfoldM m f (lReached m)) := by
  have hz : 0 ∈ lReached m := by
    obtain ⟨r, e⟩ := lr_zero (m := m)
    rw [e]; simp
  have l : Lots m (lReached m) f := lots_of_RndN (lr_closed ok) (lr_ok ok m.rows.length).1 (List.ne_nil_of_mem hz) h
  rw [lfold_fold ok l]
  exact ⟨(fold_canon l hz).1, (fold_canon l hz).2, rfl, fun z ok => fold_okL ok l hz⟩
theorem IsFold.eq {m m' F F' : Mc} (h : IsFold m F) (h' : IsFold m' F') (hn : m.n = m'.n) (b : Bis m m' 0 0) : F = F' :=
  canon_eq h.can h'.can (by rw [h.n, h'.n, hn]) ((h.bis.symm.trans b).trans h'.bis)
theorem IsFold.bisim {m m' F : Mc} (h : IsFold m F) (h' : IsFold m' F) : Bis m m' 0 0 := h.bis.trans h'.bis.symm
end Dr
set_option Elab.async false
set_option linter.all false
set_option maxRecDepth 100000
set_option maxHeartbeats 4000000
namespace Dr
/-! ### sums -/
def ss (L : List Nat) (g : Nat → Rat) : Rat := (L.map g).sum
theorem ss_nil (g : Nat → Rat) : ss [] g = 0 := rfl
theorem ss_cons (a : Nat) (L : List Nat) (g : Nat → Rat) : ss (a :: L) g = g a + ss L g := by simp [ss]
theorem ss_congr {L : List Nat} {g k : Nat → Rat} (h : ∀ t ∈ L, g t = k t) : ss L g = ss L k := by
  unfold ss
  rw [List.map_congr_left h]
theorem ss_add (L : List Nat) (g k : Nat → Rat) : ss L (fun t => g t + k t) = ss L g + ss L k := by
  induction L with
  | nil => simp [ss_nil]; grind
  | cons a L ih => rw [ss_cons, ss_cons, ss_cons, ih]; grind
theorem ss_mul (L : List Nat) (c : Rat) (g : Nat → Rat) : ss L (fun t => c * g t) = c * ss L g := by
  induction L with
  | nil => simp [ss_nil]
  | cons a L ih => rw [ss_cons, ss_cons, ih]; grind
theorem ss_zero (L : List Nat) : ss L (fun _ => 0) = 0 := by
  induction L with
  | nil => rfl
  | cons a L ih => rw [ss_cons, ih]; grind
theorem ss_nonneg {L : List Nat} {g : Nat → Rat} (h : ∀ t ∈ L, 0 ≤ g t) : 0 ≤ ss L g := by
  induction L with
  | nil => simp [ss_nil]
  | cons a L ih =>
    rw [ss_cons]
    have h1 := h a (List.mem_cons_self ..)
    have h2 := ih fun t ht => h t (List.mem_cons_of_mem _ ht)
    grind
theorem ss_ge {L : List Nat} {g : Nat → Rat} (h : ∀ t ∈ L, 0 ≤ g t) {s : Nat} (hs : s ∈ L) : g s ≤ ss L g := by
  induction L with
  | nil => cases hs
  | cons a L ih =>
    rw [ss_cons]
    have h1 := h a (List.mem_cons_self ..)
    have h2 := ss_nonneg fun t ht => h t (List.mem_cons_of_mem _ ht)
    rcases List.mem_cons.mp hs with rfl | hs
    · grind
    · have := ih (fun t ht => h t (List.mem_cons_of_mem _ ht)) hs
      grind
theorem ss_off {L : List Nat} {s : Nat} (hs : s ∉ L) (g : Nat → Rat) : ss L (fun t => if t = s then 0 else g t) = ss L g :=
  ss_congr fun t ht => if_neg fun (e : t = s) => hs (e ▸ ht)
theorem ss_drop {L : List Nat} (nd : L.Nodup) {s : Nat} (hs : s ∈ L) (g : Nat → Rat) : ss L (fun t => if t = s then 0 else g t) = ss L g - g s := by
  induction L with
  | nil => cases hs
  | cons a L ih =>
    obtain ⟨n1, n2⟩ := List.nodup_cons.mp nd
    rw [ss_cons, ss_cons]
    rcases List.mem_cons.mp hs with rfl | hs
    · rw [if_pos rfl, ss_off n1]
      grind
    · have ne : a ≠ s := fun e => n1 (e ▸ hs)
      rw [if_neg ne, ih n2 hs]
      grind
theorem ss_only {L : List Nat} (nd : L.Nodup) (s : Nat) (g : Nat → Rat) : ss L (fun t => if t = s then g t else 0) = if s ∈ L then g s else 0 := by
  induction L with
  | nil => simp [ss_nil]
  | cons a L ih =>
    obtain ⟨n1, n2⟩ := List.nodup_cons.mp nd
    rw [ss_cons, ih n2]
    by_cases e : a = s
    · subst e
      simp [n1]
      grind
    · have : s ≠ a := Ne.symm e
      simp [e, this]
      grind
/-! ### rows as functions -/
def fac (r : RowQ) (t : Nat) : Rat := (lk r.1 t).getD 0
theorem lk_none {α : Type} {l : List (Nat × α)} {k : Nat} (h : k ∉ l.map (·.1)) : lk l k = none := by
  cases e : lk l k with
  | none => rfl
  | some v => exact absurd (List.mem_map_of_mem (f := (·.1)) (lk_mem e)) h
theorem lk_keys {α : Type} {l : List (Nat × α)} {k : Nat} (h : lk l k = none) : k ∉ l.map (·.1) := by
  intro q
  have := hs_mem.mpr q
  rw [lk_hs, h] at this
  cases this
theorem lk_consN {α : Type} (p : Nat × α) (l : List (Nat × α)) (k : Nat) : lk (p :: l) k = if p.1 = k then some p.2 else lk l k := by
  unfold lk
  by_cases h : p.1 = k <;> simp [h]
theorem lk_appN {α : Type} (l l2 : List (Nat × α)) (k : Nat) : lk (l ++ l2) k = (lk l k).or (lk l2 k) := by
  induction l with
  | nil => simp [lk]
  | cons p l ih =>
    rw [List.cons_append, lk_consN, lk_consN, ih]
    split <;> simp
theorem lk_mapN {α : Type} (l : List (Nat × α)) (k : Nat) (v : α) (t : Nat) : lk (l.map fun p => if p.1 = k then (p.1, v) else p) t = if t = k then (lk l t).map fun _ => v else lk l t := by
  induction l with
  | nil => simp [lk]
  | cons p l ih =>
    rw [List.map_cons, lk_consN, lk_consN, ih]
    by_cases h : p.1 = k
    · rw [if_pos h]
      dsimp only
      by_cases h2 : p.1 = t
      · have : t = k := by omega
        simp [h2, this]
      · rw [if_neg h2, if_neg h2]
    · rw [if_neg h]
      by_cases h2 : p.1 = t
      · have : ¬ t = k := by omega
        simp [h2, this]
      · simp [h2]
theorem lk_ptN {α : Type} (l : List (Nat × α)) (k : Nat) (v : α) (t : Nat) : lk (pt l k v) t = if t = k then some v else lk l t := by
  unfold pt
  split
  · rename_i h
    rw [lk_mapN]
    split
    · rename_i e
      rw [e]
      rw [lk_hs] at h
      cases q : lk l k with
      | none => rw [q] at h; cases h
      | some u => rfl
    · rfl
  · rename_i h
    rw [lk_appN, lk_consN]
    by_cases e : t = k
    · subst e
      have : lk l t = none := lk_none fun q => h (hs_mem.mpr q)
      rw [this, if_pos rfl, if_pos rfl]; rfl
    · rw [if_neg e, if_neg (Ne.symm e)]
      cases lk l t <;> rfl
theorem lk_filN {α : Type} (l : List (Nat × α)) (s t : Nat) : lk (l.filter fun p => !decide (p.1 = s)) t = if t = s then none else lk l t := by
  induction l with
  | nil => simp [lk]
  | cons p l ih =>
    rw [List.filter_cons, lk_consN]
    by_cases h : p.1 = s
    · simp only [h, decide_true, Bool.not_true, Bool.false_eq_true, if_false]
      rw [ih]
      by_cases h2 : t = s
      · simp [h2]
      · have : ¬ s = t := Ne.symm h2
        simp [h2, this]
    · simp only [h, decide_false, Bool.not_false, if_true]
      rw [lk_consN, ih]
      by_cases h2 : p.1 = t
      · have : ¬ t = s := by omega
        simp [h2, this]
      · simp [h2]
theorem fac_wi (s : Nat) (r : RowQ) (t : Nat) : fac (wiQ s r) t = if t = s then 0 else fac r t / (1 - fac r s) := by
  unfold wiQ fac
  cases e : lk r.1 s with
  | none =>
    dsimp only
    by_cases h : t = s
    · rw [h, if_pos rfl, e]; rfl
    · rw [if_neg h]
      have : (1 : Rat) - 0 = 1 := by grind
      rw [Option.getD_none, this]
      grind
  | some f =>
    dsimp only
    rw [mv_lk, lk_filN]
    by_cases h : t = s
    · rw [if_pos h, if_pos h]; rfl
    · rw [if_neg h, if_neg h]
      cases lk r.1 t with
      | none => simp; grind
      | some v => rfl
theorem num_wi (s : Nat) (r : RowQ) : (wiQ s r).2 = r.2.map fun x => x / (1 - fac r s) := by
  unfold wiQ fac
  cases e : lk r.1 s with
  | none =>
    dsimp only
    have : (fun x : Rat => x / (1 - (none : Option Rat).getD 0)) = id := by
      funext x
      have : (1 : Rat) - 0 = 1 := by grind
      rw [Option.getD_none, this]
      show x / 1 = x
      grind
    rw [this, List.map_id]
  | some f => rfl
theorem ks_wi {s : Nat} {r : RowQ} : ∀ p ∈ (wiQ s r).1, p.1 ∈ r.1.map (·.1) ∧ p.1 ≠ s := by
  intro p hp
  unfold wiQ at hp
  cases e : lk r.1 s with
  | none =>
    rw [e] at hp
    exact ⟨List.mem_map_of_mem hp, fun q => lk_keys e (q ▸ List.mem_map_of_mem hp)⟩
  | some f =>
    rw [e] at hp
    dsimp only at hp
    obtain ⟨q, hq, rfl⟩ := List.mem_map.mp hp
    obtain ⟨h1, h2⟩ := List.mem_filter.mp hq
    exact ⟨List.mem_map.mpr ⟨q, h1, rfl⟩, by simpa using h2⟩
theorem nd_fil {α : Type} {l : List (Nat × α)} {s : Nat} (h : (l.map (·.1)).Nodup) : ((l.filter fun p => !decide (p.1 = s)).map (·.1)).Nodup := h.sublist (List.filter_sublist.map _)
theorem nd_wi {s : Nat} {r : RowQ} (h : (r.1.map (·.1)).Nodup) : ((wiQ s r).1.map (·.1)).Nodup := by
  unfold wiQ
  cases e : lk r.1 s with
  | none => exact h
  | some f =>
    dsimp only
    have : ((mv (fun x => x / (1 - f)) (r.1.filter fun p => !decide (p.1 = s))).map (·.1)) = (r.1.filter fun p => !decide (p.1 = s)).map (·.1) := by simp [mv, Function.comp_def]
    rw [this]
    exact nd_fil h
theorem lk_putF (sh : Rat) (t : Nat) : ∀ (o acc : List (Nat × Rat)), (o.map (·.1)).Nodup → (lk (putF sh o acc) t).getD 0 = (lk acc t).getD 0 + sh * (lk o t).getD 0
  | [], acc, _ => by
    show (lk acc t).getD 0 = (lk acc t).getD 0 + sh * (0 : Rat)
    grind
  | p :: o, acc, nd => by
    rw [List.map_cons, List.nodup_cons] at nd
    have ih := lk_putF sh t o (pt acc p.1 ((lk acc p.1).getD 0 + sh * p.2)) nd.2
    show (lk (putF sh o (pt acc p.1 ((lk acc p.1).getD 0 + sh * p.2))) t).getD 0 = _
    rw [ih, lk_ptN, lk_consN]
    by_cases h : t = p.1
    · subst h
      rw [if_pos rfl, if_pos rfl, lk_none nd.1]
      simp
      grind
    · rw [if_neg h, if_neg (Ne.symm h)]
theorem fac_put {s : Nat} {o r : RowQ} (nd : (o.1.map (·.1)).Nodup) (t : Nat) : fac (putQ s o r) t = (if t = s then 0 else fac r t) + fac r s * fac o t := by
  unfold putQ fac share
  dsimp only
  rw [lk_putF _ _ _ _ nd, lk_filN]
  by_cases h : t = s
  · rw [if_pos h, if_pos h]; rfl
  · rw [if_neg h, if_neg h]
theorem ks_putF {sh : Rat} : ∀ (o acc : List (Nat × Rat)) {k : Nat}, k ∈ (putF sh o acc).map (·.1) → k ∈ acc.map (·.1) ∨ k ∈ o.map (·.1)
  | [], acc, k, h => .inl h
  | p :: o, acc, k, h => by
    rcases ks_putF o (pt acc p.1 ((lk acc p.1).getD 0 + sh * p.2)) h with h | h
    · rcases ptG_mem.mp h with h | h
      · exact .inl h
      · exact .inr (by rw [h]; simp)
    · exact .inr (by rw [List.map_cons]; exact List.mem_cons_of_mem _ h)
theorem nd_putF {sh : Rat} : ∀ (o acc : List (Nat × Rat)), (acc.map (·.1)).Nodup → ((putF sh o acc).map (·.1)).Nodup
  | [], acc, h => h
  | p :: o, acc, h => nd_putF o _ (ptG_nd h _ _)
theorem sum_zip (sh : Rat) : ∀ (l l' : List Rat), l.length = l'.length → (List.zipWith (fun a b => a + sh * b) l l').sum = l.sum + sh * l'.sum
  | [], [], _ => by simp; grind
  | a :: l, b :: l', h => by
    have ih := sum_zip sh l l' (by simpa using h)
    rw [List.zipWith_cons_cons, List.sum_cons, List.sum_cons, List.sum_cons, ih]
    grind
theorem sum_div (c : Rat) : ∀ l : List Rat, (l.map fun x => x / c).sum = l.sum / c
  | [] => by simp; grind
  | a :: l => by
    rw [List.map_cons, List.sum_cons, List.sum_cons, sum_div c l]
    grind
/-! ### what holds of a row -/
def CB (B D : Nat) (q : Rat) : Prop := ∃ a : Nat, a < 2 ^ B ∧ q = (a : Rat) / (D : Rat)
theorem cast_pos {D : Nat} (h : 0 < D) : (0 : Rat) < (D : Rat) := by exact_mod_cast h
theorem CB.nn {B D : Nat} {q : Rat} (h : CB B D q) (hD : 0 < D) : 0 ≤ q := by
  obtain ⟨a, _, rfl⟩ := h
  have h1 := cast_pos hD
  have h2 : (0 : Rat) ≤ (a : Rat) := by exact_mod_cast Nat.zero_le a
  rw [Rat.div_def]
  exact Rat.mul_nonneg h2 (Rat.le_of_lt (Rat.inv_pos.mpr h1))
theorem CB.sm {B D : Nat} {q : Rat} (h : CB B D q) (hD : 0 < D) (hB : D < 2 ^ B) : Sm B q := by
  obtain ⟨a, ha, rfl⟩ := h
  have e : (a : Rat) / (D : Rat) = mkRat (a : Int) D := by
    rw [Rat.mkRat_eq_div]
    rfl
  rw [e]
  exact sm_mk ha hB hD
theorem CB.up {B B' D : Nat} {q : Rat} (h : CB B D q) (hb : B ≤ B') : CB B' D q := by
  obtain ⟨a, ha, e⟩ := h
  exact ⟨a, Nat.lt_of_lt_of_le ha (two_le hb), e⟩
structure RI (K : List Nat) (wd B : Nat) (L : List Nat) (h : Nat → Rat) (s : Nat) (r : RowQ) : Prop where
  nd : (r.1.map (·.1)).Nodup
  ks : ∀ p ∈ r.1, p.1 ∈ K
  ln : r.2.length = wd
  rb : ∃ D : Nat, 0 < D ∧ D < 2 ^ B ∧ (∀ t, CB B D (fac r t)) ∧ ∀ q ∈ r.2, CB B D q
  pot : ss L (fun t => fac r t * h t) + r.2.sum ≤ h s
  one : 1 ≤ r.2.sum
section
variable {K K' K0 : List Nat} {wd B B' : Nat} {L : List Nat} {h : Nat → Rat} {s t : Nat} {r o : RowQ}
theorem RI.mono (i : RI K wd B L h s r) (hb : B ≤ B') (hk : ∀ p ∈ r.1, p.1 ∈ K') : RI K' wd B' L h s r := by
  obtain ⟨D, d1, d2, d3, d4⟩ := i.rb
  exact ⟨i.nd, hk, i.ln, ⟨D, d1, Nat.lt_of_lt_of_le d2 (two_le hb), fun t => (d3 t).up hb, fun q hq => (d4 q hq).up hb⟩, i.pot, i.one⟩
theorem RI.fn (i : RI K wd B L h s r) (t : Nat) : 0 ≤ fac r t := by
  obtain ⟨D, d1, _, d3, _⟩ := i.rb
  exact (d3 t).nn d1
theorem RI.lt1 (i : RI K wd B L h s r) (hs : s ∈ L) (hn : ∀ t, 0 ≤ h t) : fac r s < 1 := by
  have h1 : fac r s * h s ≤ ss L (fun t => fac r t * h t) := ss_ge (g := fun t => fac r t * h t) (fun t _ => Rat.mul_nonneg (i.fn t) (hn t)) hs
  have h2 := i.pot
  have h3 := i.one
  have h4 := hn s
  apply Rat.not_le.mp
  intro q
  have h5 : 1 * h s ≤ fac r s * h s := Rat.mul_le_mul_of_nonneg_right q h4
  grind
theorem wi_RI (i : RI K wd B L h s r) (nd : L.Nodup) (hs : s ∈ L) (hn : ∀ t, 0 ≤ h t) (hK : ∀ k ∈ K, k ≠ s → k ∈ K') : RI K' wd B L h s (wiQ s r) := by
  have f1 := i.lt1 hs hn
  have f0 := i.fn s
  have c1 : 0 < 1 - fac r s := by grind
  have ci : 0 < (1 - fac r s)⁻¹ := Rat.inv_pos.mpr c1
  have cm : (1 - fac r s) * (1 - fac r s)⁻¹ = 1 := Rat.mul_inv_cancel _ (by grind)
  refine ⟨nd_wi i.nd, fun p hp => ?_, ?_, ?_, ?_, ?_⟩
  · obtain ⟨h1, h2⟩ := ks_wi p hp
    obtain ⟨q, hq, e⟩ := List.mem_map.mp h1
    exact hK _ (e ▸ i.ks q hq) h2
  · rw [num_wi, List.length_map]; exact i.ln
  · obtain ⟨D, d1, d2, d3, d4⟩ := i.rb
    obtain ⟨c, hc, ec⟩ := d3 s
    have dp := cast_pos d1
    have hcD : c < D := by
      apply Nat.lt_of_not_le
      intro q
      have q' : (D : Rat) ≤ (c : Rat) := by exact_mod_cast q
      have : (1 : Rat) ≤ (c : Rat) / (D : Rat) := by
        have e1 : (D : Rat) * (D : Rat)⁻¹ = 1 := Rat.mul_inv_cancel _ (by grind)
        have e2 : (D : Rat) * (D : Rat)⁻¹ ≤ (c : Rat) * (D : Rat)⁻¹ := Rat.mul_le_mul_of_nonneg_right q' (Rat.le_of_lt (Rat.inv_pos.mpr dp))
        rw [Rat.div_def]
        grind
      grind
    have eD : ((D - c : Nat) : Rat) = (D : Rat) - (c : Rat) := by
      have e : ((D - c + c : Nat) : Rat) = (D : Rat) := by rw [Nat.sub_add_cancel (Nat.le_of_lt hcD)]
      have e2 : ((D - c + c : Nat) : Rat) = ((D - c : Nat) : Rat) + (c : Rat) := by simp
      grind
    have dcp : (0 : Rat) < (D : Rat) - (c : Rat) := by rw [← eD]; exact cast_pos (by omega)
    have key : ∀ q, CB B D q → CB B (D - c) (q / (1 - fac r s)) := by
      rintro q ⟨a, ha, rfl⟩
      refine ⟨a, ha, ?_⟩
      rw [eD, ec]
      grind
    refine ⟨D - c, by omega, by omega, fun t => ?_, fun q hq => ?_⟩
    · rw [fac_wi]
      split
      · exact ⟨0, Nat.pow_pos (by decide), by simp; grind⟩
      · exact key _ (d3 t)
    · rw [num_wi] at hq
      obtain ⟨x, hx, rfl⟩ := List.mem_map.mp hq
      exact key _ (d4 x hx)
  · have e1 : ss L (fun t => fac (wiQ s r) t * h t) = (ss L (fun t => fac r t * h t) - fac r s * h s) * (1 - fac r s)⁻¹ := by
      rw [← ss_drop nd hs (fun t => fac r t * h t), Rat.mul_comm, ← ss_mul]
      refine ss_congr fun t _ => ?_
      rw [fac_wi]
      by_cases q : t = s
      · rw [if_pos q, if_pos q]; grind
      · rw [if_neg q, if_neg q, Rat.div_def]; grind
    rw [e1, num_wi, sum_div, Rat.div_def]
    have h2 : (ss L (fun t => fac r t * h t) - fac r s * h s + r.2.sum) * (1 - fac r s)⁻¹ ≤ (h s - fac r s * h s) * (1 - fac r s)⁻¹ := Rat.mul_le_mul_of_nonneg_right (by have := i.pot; grind) (Rat.le_of_lt ci)
    have h3 : (h s - fac r s * h s) * (1 - fac r s)⁻¹ = h s := by
      have : (h s - fac r s * h s) * (1 - fac r s)⁻¹ = h s * ((1 - fac r s) * (1 - fac r s)⁻¹) := by grind
      rw [this, cm]; grind
    grind
  · rw [num_wi, sum_div, Rat.div_def]
    have h1 : 1 * (1 - fac r s)⁻¹ ≤ r.2.sum * (1 - fac r s)⁻¹ := Rat.mul_le_mul_of_nonneg_right i.one (Rat.le_of_lt ci)
    have h2 : 0 ≤ fac r s * (1 - fac r s)⁻¹ := Rat.mul_nonneg f0 (Rat.le_of_lt ci)
    grind
theorem put_RI (i : RI K wd B L h t r) (j : RI K0 wd B L h s o) (nd : L.Nodup) (hs : s ∈ L) (hK : ∀ k ∈ K, k ≠ s → k ∈ K') (hK0 : ∀ k ∈ K0, k ∈ K') : RI K' wd (2 * B + 1) L h t (putQ s o r) := by
  have f0 := i.fn s
  refine ⟨nd_putF _ _ (nd_fil i.nd), fun p hp => ?_, ?_, ?_, ?_, ?_⟩
  · rcases ks_putF _ _ (List.mem_map_of_mem (f := (·.1)) hp) with q | q
    · obtain ⟨u, hu, e⟩ := List.mem_map.mp q
      obtain ⟨h1, h2⟩ := List.mem_filter.mp hu
      rw [← e]
      exact hK _ (i.ks u h1) (by simpa using h2)
    · obtain ⟨u, hu, e⟩ := List.mem_map.mp q
      rw [← e]
      exact hK0 _ (j.ks u hu)
  · show (List.zipWith _ _ _).length = wd
    rw [List.length_zipWith, i.ln, j.ln, Nat.min_self]
  · obtain ⟨D, d1, d2, d3, d4⟩ := i.rb
    obtain ⟨E, e1, e2, e3, e4⟩ := j.rb
    obtain ⟨c, hc, ec⟩ := d3 s
    have dp := cast_pos d1
    have ep := cast_pos e1
    have two : 2 ^ (2 * B + 1) = 2 ^ B * 2 ^ B + 2 ^ B * 2 ^ B := by
      rw [show 2 * B + 1 = B + B + 1 by omega, Nat.pow_succ, Nat.pow_add]; omega
    have key : ∀ p q, CB B D p → CB B E q → CB (2 * B + 1) (D * E) (p + fac r s * q) := by
      rintro p q ⟨a, ha, rfl⟩ ⟨b, hb, rfl⟩
      refine ⟨a * E + c * b, ?_, ?_⟩
      · have m1 := Nat.mul_lt_mul'' ha e2
        have m2 := Nat.mul_lt_mul'' hc hb
        omega
      · rw [ec]
        have c1 : ((a * E + c * b : Nat) : Rat) = (a : Rat) * (E : Rat) + (c : Rat) * (b : Rat) := by simp
        have c2 : ((D * E : Nat) : Rat) = (D : Rat) * (E : Rat) := by simp
        rw [c1, c2]
        grind
    refine ⟨D * E, Nat.mul_pos d1 e1, ?_, fun u => ?_, fun q hq => ?_⟩
    · have := Nat.mul_lt_mul'' d2 e2
      omega
    · rw [fac_put j.nd]
      refine key _ _ ?_ (e3 u)
      split
      · exact ⟨0, Nat.pow_pos (by decide), by simp; grind⟩
      · exact d3 u
    · obtain ⟨n, hn⟩ := List.mem_iff_getElem?.mp hq
      have hn : (List.zipWith (fun a b => a + fac r s * b) r.2 o.2)[n]? = some q := hn
      rw [List.getElem?_zipWith] at hn
      cases q1 : r.2[n]? with
      | none => rw [q1] at hn; cases hn
      | some x =>
        cases q2 : o.2[n]? with
        | none => rw [q1, q2] at hn; cases hn
        | some y =>
          rw [q1, q2] at hn
          obtain rfl := Option.some.inj hn
          exact key _ _ (d4 x (List.mem_of_getElem? q1)) (e4 y (List.mem_of_getElem? q2))
  · have e1 : ss L (fun u => fac (putQ s o r) u * h u) = ss L (fun u => fac r u * h u) - fac r s * h s + fac r s * ss L (fun u => fac o u * h u) := by
      rw [← ss_drop nd hs (fun u => fac r u * h u), ← ss_mul, ← ss_add]
      refine ss_congr fun u _ => ?_
      rw [fac_put j.nd]
      by_cases q : u = s
      · rw [if_pos q, if_pos q]; grind
      · rw [if_neg q, if_neg q]; grind
    have e2 : (putQ s o r).2.sum = r.2.sum + fac r s * o.2.sum := sum_zip _ _ _ (by rw [i.ln, j.ln])
    rw [e1, e2]
    have h1 := Rat.mul_le_mul_of_nonneg_left j.pot f0
    have h2 := i.pot
    grind
  · have e2 : (putQ s o r).2.sum = r.2.sum + fac r s * o.2.sum := sum_zip _ _ _ (by rw [i.ln, j.ln])
    rw [e2]
    have h0 : (0 : Rat) ≤ 1 := by decide
    have h1 : 0 ≤ fac r s * o.2.sum := Rat.mul_nonneg f0 (by have := j.one; grind)
    have h2 := i.one
    grind
end
end Dr
set_option Elab.async false
set_option linter.all false
set_option maxRecDepth 100000
set_option maxHeartbeats 4000000
namespace Dr
/-! ### the elimination, step by step -/
theorem rowAt_pt (rows : Rows) (k : Nat) (v : RowQ) (t : Nat) : rowAt (pt rows k v) t = if t = k then v else rowAt rows t := by
  unfold rowAt
  rw [lk_ptN]
  split <;> rfl
theorem rowAt_near (s : Nat) (o : RowQ) (rows : Rows) (near t : Nat) : rowAt (nearStep s o rows near) t = if t = near ∧ hs (rowAt rows near).1 s = true then putQ s o (rowAt rows near) else rowAt rows t := by
  unfold nearStep
  by_cases h : hs (rowAt rows near).1 s = true
  · rw [if_pos h, rowAt_pt]
    simp only [h, and_true]
  · rw [if_neg h, if_neg fun q => h q.2]
theorem at_inj {L : List Nat} (nd : L.Nodup) {k k' s : Nat} (h : L[k]? = some s) (h' : L[k']? = some s) : k = k' := by
  obtain ⟨l1, e1⟩ := List.getElem?_eq_some_iff.mp h
  obtain ⟨l2, e2⟩ := List.getElem?_eq_some_iff.mp h'
  have p := List.pairwise_iff_getElem.mp nd
  rcases Nat.lt_trichotomy k k' with lt | eq | lt
  · exact absurd (by rw [e1, e2]) (p k k' l1 l2 lt)
  · exact eq
  · exact absurd (by rw [e1, e2]) (p k' k l2 l1 lt)
theorem nears_row {L : List Nat} (nd : L.Nodup) {rows : Rows} {s c : Nat} (hs0 : L[c]? = some s) : ∀ j, j ≤ c → ∀ k t, L[k]? = some t → rowAt (nears L rows s j) t = if k = c then wiQ s (rowAt rows s) else if k < j ∧ hs (rowAt rows t).1 s = true then putQ s (wiQ s (rowAt rows s)) (rowAt rows t) else rowAt rows t
  | 0, _, k, t, ht => by
    show rowAt (spotA rows s) t = _
    unfold spotA
    rw [rowAt_pt]
    by_cases e : k = c
    · subst e
      have : t = s := by rw [ht] at hs0; exact Option.some.inj hs0
      rw [if_pos this, if_pos rfl]
    · have : t ≠ s := fun q => e (at_inj nd ht (by rw [q]; exact hs0))
      rw [if_neg this, if_neg e, if_neg (by omega)]
  | j + 1, hj, k, t, ht => by
    have hcl := (List.getElem?_eq_some_iff.mp hs0).1
    have ej : L[j]? = some L[j] := List.getElem?_eq_getElem (by omega)
    have e : nears L rows s (j + 1) = nearStep s (wiQ s (rowAt rows s)) (nears L rows s j) L[j] := by
      unfold nears
      rw [List.take_succ, ej, List.foldl_append]; rfl
    rw [e, rowAt_near]
    have ih1 := nears_row nd (rows := rows) hs0 j (by omega) j L[j] ej
    rw [if_neg (by omega), if_neg (by omega)] at ih1
    have ih2 := nears_row nd (rows := rows) hs0 j (by omega) k t ht
    rw [ih1, ih2]
    by_cases q : k = j
    · subst q
      have : t = L[k] := by rw [ht] at ej; exact Option.some.inj ej
      subst this
      rw [if_neg (show ¬ k = c by omega)]
      by_cases q2 : hs (rowAt rows L[k]).1 s = true
      · rw [if_pos ⟨rfl, q2⟩, if_neg (show ¬ k = c by omega), if_pos ⟨by omega, q2⟩]
      · rw [if_neg (fun z => q2 z.2), if_neg (fun z => q2 z.2), if_neg (show ¬ k = c by omega), if_neg (fun z => q2 z.2)]
    · have : t ≠ L[j] := fun z => q (at_inj nd ht (by rw [z]; exact ej))
      rw [if_neg (fun z => this z.1)]
      by_cases q3 : k = c
      · rw [if_pos q3, if_pos q3]
      · rw [if_neg q3, if_neg q3]
        by_cases q2 : hs (rowAt rows t).1 s = true
        · by_cases q4 : k < j
          · rw [if_pos ⟨q4, q2⟩, if_pos ⟨by omega, q2⟩]
          · rw [if_neg (fun z => q4 z.1), if_neg (fun z => by have := z.1; omega)]
        · rw [if_neg (fun z => q2 z.2), if_neg (fun z => q2 z.2)]
/-! ### the first rows -/
structure Pot (m : Mc) (L : List Nat) (h : Nat → Rat) : Prop where
  nn : ∀ t, 0 ≤ h t
  out : ∀ s ∈ L, ∀ i, m.rows[s]? = some (.out i) → 1 ≤ h s
  toss : ∀ s ∈ L, ∀ x y, m.rows[s]? = some (.toss x y) → (if x ∈ L then h x else 0) / 2 + (if y ∈ L then h y else 0) / 2 + 1 ≤ h s
theorem fac_add (L : List Nat) (t : Nat) (fs : List (Nat × Rat)) (u : Nat) : (lk (addF L t fs) u).getD 0 = (lk fs u).getD 0 + if u = t ∧ t ∈ L then 1 / 2 else 0 := by
  unfold addF
  by_cases h : t ∈ L
  · rw [if_pos (by simpa using h), lk_ptN]
    by_cases e : u = t
    · subst e
      rw [if_pos rfl, if_pos ⟨rfl, h⟩]; rfl
    · rw [if_neg e, if_neg (fun z => e z.1)]; grind
  · rw [if_neg (by simpa using h), if_neg (fun z => h z.2)]; grind
theorem nd_add {L : List Nat} {t : Nat} {fs : List (Nat × Rat)} (h : (fs.map (·.1)).Nodup) : ((addF L t fs).map (·.1)).Nodup := by
  unfold addF
  split
  · exact ptG_nd h _ _
  · exact h
theorem ks_add {L : List Nat} {t : Nat} {fs : List (Nat × Rat)} (h : ∀ p ∈ fs, p.1 ∈ L) : ∀ p ∈ addF L t fs, p.1 ∈ L := by
  unfold addF
  split
  · rename_i q
    intro p hp
    rcases ptG_mem.mp (List.mem_map_of_mem (f := (·.1)) hp) with h1 | h1
    · obtain ⟨u, hu, e⟩ := List.mem_map.mp h1
      rw [← e]; exact h u hu
    · rw [h1]; simpa using q
  · exact h
theorem cb0 (B D : Nat) : CB B D 0 := ⟨0, Nat.pow_pos (by decide), by simp; grind⟩
theorem cb1 : CB 2 2 1 := ⟨2, by decide, by grind⟩
theorem cbh : CB 2 2 (1 / 2) := ⟨1, by decide, by grind⟩
/-- a toss's factors, summed with weights -/
theorem ss_toss {L : List Nat} (nd : L.Nodup) (x y : Nat) (ns : List Rat) (g : Nat → Rat) : ss L (fun t => fac (addF L y (addF L x []), ns) t * g t) = (if x ∈ L then g x else 0) / 2 + (if y ∈ L then g y else 0) / 2 := by
  have e : ss L (fun t => fac (addF L y (addF L x []), ns) t * g t) = ss L (fun t => (1 / 2) * (if t = x then g t else 0) + (1 / 2) * (if t = y then g t else 0)) := by
    refine ss_congr fun t ht => ?_
    unfold fac
    rw [fac_add, fac_add]
    have z : (lk ([] : List (Nat × Rat)) t).getD 0 = 0 := rfl
    rw [z]
    by_cases h1 : t = x
    · have hx : x ∈ L := h1 ▸ ht
      by_cases h2 : t = y
      · have hy : y ∈ L := h2 ▸ ht
        rw [if_pos ⟨h1, hx⟩, if_pos ⟨h2, hy⟩, if_pos h1, if_pos h2]; grind
      · rw [if_pos ⟨h1, hx⟩, if_neg (fun z => h2 z.1), if_pos h1, if_neg h2]; grind
    · by_cases h2 : t = y
      · have hy : y ∈ L := h2 ▸ ht
        rw [if_neg (fun z => h1 z.1), if_pos ⟨h2, hy⟩, if_neg h1, if_pos h2]; grind
      · rw [if_neg (fun z => h1 z.1), if_neg (fun z => h2 z.1), if_neg h1, if_neg h2]; grind
  rw [e, ss_add, ss_mul, ss_mul, ss_only nd, ss_only nd]
  grind
theorem ss_none (L : List Nat) (ns : List Rat) (g : Nat → Rat) : ss L (fun t => fac ([], ns) t * g t) = 0 := by
  rw [← ss_zero L]
  refine ss_congr fun t _ => ?_
  show (0 : Rat) * g t = 0
  grind
theorem sum_rep0 (n : Nat) : ((List.replicate n (0 : Rat)) ++ [1]).sum = 1 := by
  induction n with
  | zero => simp; try grind
  | succ n ih => rw [List.replicate_succ, List.cons_append, List.sum_cons, ih]; grind
theorem sum_unit {n i : Nat} (h : i < n) : (unitQ n i).sum = 1 := by
  unfold unitQ
  rw [List.sum_append]
  have e : ((List.range n).map fun j => if j = i then (1 : Rat) else 0).sum = 1 := by
    have := ss_only (L := List.range n) List.nodup_range i (fun _ => (1 : Rat))
    rw [if_pos (List.mem_range.mpr h)] at this
    exact this
  rw [e]
  simp
  grind
theorem eq_RI {m : Mc} {z : Nat} {L : List Nat} {h : Nat → Rat} (ok : m.Ok z) (P : Pot m L h) (nd : L.Nodup) {s : Nat} (hs : s ∈ L) (hl : s < m.rows.length) : RI L (m.n + 1) 2 L h s (eqOf m L s) := by
  obtain ⟨r, er⟩ : ∃ r, m.rows[s]? = some r := ⟨_, List.getElem?_eq_getElem hl⟩
  have okr := ok.row r (List.mem_of_getElem? er)
  unfold eqOf
  rw [er]
  cases r with
  | out i =>
    dsimp only
    refine ⟨by simp, (fun p hp => nomatch hp), by simp [unitQ], ⟨2, by decide, by decide, fun t => cb0 _ _, fun q hq => ?_⟩, ?_, ?_⟩
    · unfold unitQ at hq
      rcases List.mem_append.mp hq with hq | hq
      · obtain ⟨j, _, rfl⟩ := List.mem_map.mp hq
        split
        · exact cb1
        · exact cb0 _ _
      · rw [List.mem_singleton.mp hq]; exact cb0 _ _
    · show ss L (fun t => fac ([], unitQ m.n i) t * h t) + (unitQ m.n i).sum ≤ h s
      rw [ss_none, sum_unit okr]
      have := P.out s hs i er
      grind
    · show 1 ≤ (unitQ m.n i).sum
      rw [sum_unit okr]
      exact Rat.le_refl
  | toss x y =>
    dsimp only
    refine ⟨nd_add (nd_add (by simp)), ks_add (ks_add (fun p hp => nomatch hp)), by simp, ⟨2, by decide, by decide, fun t => ?_, fun q hq => ?_⟩, ?_, ?_⟩
    · show CB 2 2 ((lk (addF L y (addF L x [])) t).getD 0)
      rw [fac_add, fac_add]
      have z : (lk ([] : List (Nat × Rat)) t).getD 0 = 0 := rfl
      rw [z]
      by_cases h1 : t = x ∧ x ∈ L
      · by_cases h2 : t = y ∧ y ∈ L
        · rw [if_pos h1, if_pos h2]
          exact ⟨2, by decide, by grind⟩
        · rw [if_pos h1, if_neg h2]
          exact ⟨1, by decide, by grind⟩
      · by_cases h2 : t = y ∧ y ∈ L
        · rw [if_neg h1, if_pos h2]
          exact ⟨1, by decide, by grind⟩
        · rw [if_neg h1, if_neg h2]
          exact ⟨0, by decide, by grind⟩
    · rcases List.mem_append.mp hq with hq | hq
      · rw [List.eq_of_mem_replicate hq]; exact cb0 _ _
      · rw [List.mem_singleton.mp hq]; exact cb1
    · rw [ss_toss nd, sum_rep0]
      exact P.toss s hs x y er
    · show 1 ≤ (List.replicate m.n (0 : Rat) ++ [1]).sum
      rw [sum_rep0]
      exact Rat.le_refl
/-! ### all stages -/
def Bw : Nat → Nat
  | 0 => 2
  | i + 1 => 2 * Bw i + 1
theorem Bw_le : ∀ {i j : Nat}, i ≤ j → Bw i ≤ Bw j
  | i, 0, h => by obtain rfl : i = 0 := by omega
                  exact Nat.le_refl _
  | i, j + 1, h => by
    by_cases e : i = j + 1
    · rw [e]; exact Nat.le_refl _
    · have := Bw_le (i := i) (j := j) (by omega)
      show _ ≤ 2 * Bw j + 1
      omega
def KA (L : List Nat) (i k : Nat) : List Nat := L.take (if k < L.length - i then L.length - i else k)
theorem take_ne {L : List Nat} {c s x : Nat} (h : L[c]? = some s) (hx : x ∈ L.take (c + 1)) (ne : x ≠ s) : x ∈ L.take c := by
  rw [List.take_succ, h] at hx
  rcases List.mem_append.mp hx with hx | hx
  · exact hx
  · exact absurd (List.mem_singleton.mp hx) ne
theorem take_mono {L : List Nat} {a b x : Nat} (h : a ≤ b) (hx : x ∈ L.take a) : x ∈ L.take b := by
  have : L.take a = (L.take b).take a := by rw [List.take_take, Nat.min_eq_left h]
  rw [this] at hx
  exact List.mem_of_mem_take hx
section
variable {m : Mc} {z : Nat} {L : List Nat} {h : Nat → Rat}
def StI (m : Mc) (L : List Nat) (h : Nat → Rat) (i : Nat) : Prop := ∀ k s, L[k]? = some s → RI (KA L i k) (m.n + 1) (Bw i) L h s (rowAt (elimAt m L i) s)
theorem spot_at {i : Nat} (hi : i < L.length) : L[L.length - 1 - i]? = some (L.getD (L.length - 1 - i) 0) := by
  rw [List.getD_eq_getElem?_getD, List.getElem?_eq_getElem (by omega)]; rfl
theorem near_stage (P : Pot m L h) (nd : L.Nodup) {i : Nat} (st : StI m L h i) (hi : i < L.length) : ∀ j, j ≤ L.length - 1 - i → ∀ k t, L[k]? = some t → RI (if k < j ∨ L.length - 1 - i ≤ k then KA L (i + 1) k else KA L i k) (m.n + 1) (Bw (i + 1)) L h t (rowAt (nears L (elimAt m L i) (L.getD (L.length - 1 - i) 0) j) t) := by
  intro j hj k t ht
  have hs0 := spot_at hi
  generalize hc : L.length - 1 - i = c at *
  generalize L.getD c 0 = s at *
  have hkl := (List.getElem?_eq_some_iff.mp ht).1
  have bw : Bw i ≤ Bw (i + 1) := Bw_le (by omega)
  have sL := List.mem_of_getElem? hs0
  have hci : L.length - i = c + 1 := by omega
  have hci' : L.length - (i + 1) = c := by omega
  have rs := st c s hs0
  have ks : KA L i c = L.take (c + 1) := by unfold KA; rw [hci, if_pos (by omega)]
  have ks' : KA L (i + 1) c = L.take c := by unfold KA; rw [hci', if_neg (by omega)]
  rw [ks] at rs
  have ro : RI (L.take c) (m.n + 1) (Bw i) L h s (wiQ s (rowAt (elimAt m L i) s)) := wi_RI rs nd sL P.nn fun x hx ne => take_ne hs0 hx ne
  rw [nears_row nd hs0 j hj k t ht]
  by_cases q : k = c
  · subst q
    have : t = s := by rw [ht] at hs0; exact Option.some.inj hs0
    subst this
    rw [if_pos rfl, if_pos (by omega), ks']
    exact ro.mono bw ro.ks
  · rw [if_neg q]
    have rt := st k t ht
    by_cases q2 : k < j ∧ hs (rowAt (elimAt m L i) t).1 s = true
    · rw [if_pos q2, if_pos (.inl q2.1)]
      have e1 : KA L i k = L.take (c + 1) := by unfold KA; rw [hci, if_pos (by omega)]
      have e2 : KA L (i + 1) k = L.take c := by unfold KA; rw [hci', if_pos (by omega)]
      rw [e1] at rt
      rw [e2]
      exact put_RI rt ro nd sL (fun x hx ne => take_ne hs0 hx ne) fun x hx => hx
    · rw [if_neg q2]
      refine rt.mono bw fun p hp => ?_
      have hp1 := rt.ks p hp
      by_cases q3 : k < j ∨ c ≤ k
      · rw [if_pos q3]
        by_cases q4 : k < c
        · have e1 : KA L i k = L.take (c + 1) := by unfold KA; rw [hci, if_pos (by omega)]
          have e2 : KA L (i + 1) k = L.take c := by unfold KA; rw [hci', if_pos (by omega)]
          rw [e1] at hp1
          rw [e2]
          refine take_ne hs0 hp1 fun e => q2 ⟨by omega, hs_mem.mpr ?_⟩
          rw [← e]
          exact List.mem_map_of_mem hp
        · have e1 : KA L i k = L.take k := by unfold KA; rw [hci, if_neg (by omega)]
          have e2 : KA L (i + 1) k = L.take k := by unfold KA; rw [hci', if_neg (by omega)]
          rw [e1] at hp1
          rw [e2]; exact hp1
      · rw [if_neg q3]; exact hp1
theorem stage (ok : m.Ok z) (P : Pot m L h) (nd : L.Nodup) (hl : ∀ s ∈ L, s < m.rows.length) : ∀ i, i ≤ L.length → StI m L h i
  | 0, _ => by
    intro k s hks
    have hs := List.mem_of_getElem? hks
    have hk := (List.getElem?_eq_some_iff.mp hks).1
    have e1 : rowAt (elimAt m L 0) s = eqOf m L s := by
      show (lk (eqsOf m L) s).getD ([], []) = _
      unfold eqsOf
      rw [lk_tab L _ hs]; rfl
    have e2 : KA L 0 k = L := by unfold KA; rw [if_pos (by omega), Nat.sub_zero, List.take_length]
    rw [e1, e2]
    exact eq_RI ok P nd hs (hl s hs)
  | i + 1, hi => by
    intro k s hks
    have := near_stage P nd (stage ok P nd hl i (by omega)) (by omega) (L.length - 1 - i) (Nat.le_refl _) k s hks
    rw [if_pos (by omega)] at this
    exact this
theorem KA_mem {i k x : Nat} (h : x ∈ KA L i k) : x ∈ L := List.mem_of_mem_take h
theorem RI.ok {K : List Nat} {wd B s : Nat} {r : RowQ} (i : RI K wd B L h s r) (hK : ∀ k ∈ K, k < m.rows.length) (hB : B ≤ BW) : RowOk m.rows.length wd r := by
  obtain ⟨D, d1, d2, d3, d4⟩ := i.rb
  refine ⟨⟨fun p hp => hK _ (i.ks p hp), i.nd⟩, i.ln, fun p hp => ?_, fun q hq => ((d4 q hq).sm d1 d2).up hB⟩
  have e : fac r p.1 = p.2 := by
    unfold fac
    rw [lk_of i.nd hp]; rfl
  rw [← e]
  exact ((d3 p.1).sm d1 d2).up hB
end
end Dr
set_option Elab.async false
set_option linter.all false
set_option maxRecDepth 100000
set_option maxHeartbeats 4000000
namespace Dr
/-! ### which standings can end -/
def RkI (m : Mc) (f : St) : Prop := ∀ (k : Nat) (p : Nat × List Bool), f[k]? = some p → (∃ i, m.rows[p.1]? = some (.out i)) ∨ ∃ x y, m.rows[p.1]? = some (.toss x y) ∧ ∃ (k' : Nat) (q : Nat × List Bool), k' < k ∧ f[k']? = some q ∧ (q.1 = x ∨ q.1 = y)
theorem newOf_row {m : Mc} {f : St} {s : Nat} {p : Nat × List Bool} (h : newOf m f s = some p) : ∃ x y, m.rows[s]? = some (.toss x y) ∧ (hs f x = true ∨ hs f y = true) := by
  unfold newOf at h
  split at h
  · cases h
  · split at h
    · rename_i x y e
      split at h
      · rename_i q
        exact ⟨x, y, e, .inl q⟩
      · split at h
        · rename_i q
          exact ⟨x, y, e, .inr q⟩
        · cases h
    · cases h
theorem hs_at {f : St} {x : Nat} (h : hs f x = true) : ∃ (k : Nat) (q : Nat × List Bool), k < f.length ∧ f[k]? = some q ∧ q.1 = x := by
  obtain ⟨q, hq, e⟩ := List.mem_map.mp (hs_mem.mp h)
  obtain ⟨k, hk⟩ := List.mem_iff_getElem?.mp hq
  exact ⟨k, q, (List.getElem?_eq_some_iff.mp hk).1, hk, e⟩
theorem RkI.new {m : Mc} {f : St} (h : RkI m f) (n : Nat) : RkI m (f ++ woNew m f n) := by
  intro k p hp
  by_cases hk : k < f.length
  · rw [List.getElem?_append_left hk] at hp
    rcases h k p hp with h | ⟨x, y, e, k', q, hk', hq, hx⟩
    · exact .inl h
    · exact .inr ⟨x, y, e, k', q, hk', by rw [List.getElem?_append_left (by omega)]; exact hq, hx⟩
  · rw [List.getElem?_append_right (by omega)] at hp
    obtain ⟨s, _, h2⟩ := List.mem_filterMap.mp (show p ∈ (List.range n).filterMap (newOf m f) from List.mem_of_getElem? hp)
    obtain ⟨x, y, e, hxy⟩ := newOf_row h2
    rw [(newOf_key h2).1]
    right
    refine ⟨x, y, e, ?_⟩
    rcases hxy with hx | hy
    · obtain ⟨k', q, h1, h2, h3⟩ := hs_at hx
      exact ⟨k', q, by omega, by rw [List.getElem?_append_left h1]; exact h2, .inl h3⟩
    · obtain ⟨k', q, h1, h2, h3⟩ := hs_at hy
      exact ⟨k', q, by omega, by rw [List.getElem?_append_left h1]; exact h2, .inr h3⟩
theorem woGo_inv {m : Mc} : ∀ (n : Nat) (f : St), TabOk m.rows.length f → RkI m f → m.rows.length + 1 ≤ f.length + n → TabOk m.rows.length (woGo m n f) ∧ RkI m (woGo m n f) ∧ woNew m (woGo m n f) m.rows.length = [] ∧ ∃ r, woGo m n f = f ++ r
  | 0, f, ht, hr, hn => by
    have := ht.len
    omega
  | n + 1, f, ht, hr, hn => by
    unfold woGo
    by_cases h : woNew m f m.rows.length = []
    · rw [if_pos h]
      exact ⟨ht, hr, h, [], by simp⟩
    · rw [if_neg h]
      have hl := List.length_pos_iff.mpr h
      obtain ⟨a, b, c, r, e⟩ := woGo_inv n (f ++ woNew m f m.rows.length) (ht.app (woNew_ok m f _) fun p hp => (woNew_mem hp).2) (hr.new _) (by rw [List.length_append]; omega)
      exact ⟨a, b, c, woNew m f m.rows.length ++ r, by rw [e, List.append_assoc]⟩
theorem woOut_rk (m : Mc) (j : Nat) : RkI m (woOut m j) := by
  intro k p hp
  left
  obtain ⟨s, hs, rfl⟩ := List.mem_map.mp (show p ∈ ((List.range j).filter (isOut m)).map fun s => (s, ([] : List Bool)) from List.mem_of_getElem? hp)
  have := (List.mem_filter.mp hs).2
  unfold isOut at this
  cases e : m.rows[s]? with
  | none => rw [e] at this; cases this
  | some r => cases r with
    | out i => exact ⟨i, rfl⟩
    | toss x y => rw [e] at this; cases this
theorem ends_inv (m : Mc) : TabOk m.rows.length (ends m) ∧ RkI m (ends m) ∧ woNew m (ends m) m.rows.length = [] ∧ ∃ r, ends m = woOut m m.rows.length ++ r :=
  woGo_inv _ _ (woOut_ok m _) (woOut_rk m _) (by omega)
theorem ends_out {m : Mc} {s i : Nat} (h : m.rows[s]? = some (.out i)) : hs (ends m) s = true := by
  obtain ⟨_, _, _, r, e⟩ := ends_inv m
  have hl := (List.getElem?_eq_some_iff.mp h).1
  rw [e, hs_app, Bool.or_eq_true]
  left
  rw [hs_mem]
  refine List.mem_map.mpr ⟨(s, []), List.mem_map.mpr ⟨s, List.mem_filter.mpr ⟨List.mem_range.mpr hl, ?_⟩, rfl⟩, rfl⟩
  unfold isOut
  rw [h]
theorem ends_toss {m : Mc} {s x y : Nat} (h : m.rows[s]? = some (.toss x y)) (hxy : hs (ends m) x = true ∨ hs (ends m) y = true) : hs (ends m) s = true := by
  obtain ⟨_, _, hn, _⟩ := ends_inv m
  have hl := (List.getElem?_eq_some_iff.mp h).1
  cases q : hs (ends m) s with
  | true => rfl
  | false =>
    exfalso
    have : newOf m (ends m) s = none := by
      cases e : newOf m (ends m) s with
      | none => rfl
      | some p =>
        have : p ∈ woNew m (ends m) m.rows.length := List.mem_filterMap.mpr ⟨s, List.mem_range.mpr hl, e⟩
        rw [hn] at this; cases this
    unfold newOf at this
    rw [q, h] at this
    dsimp only at this
    rw [if_neg (by decide)] at this
    rcases hxy with hx | hy
    · rw [if_pos hx] at this; cases this
    · by_cases hx : hs (ends m) x = true
      · rw [if_pos hx] at this; cases this
      · rw [if_neg hx, if_pos hy] at this; cases this
inductive CanEnd (m : Mc) : Nat → Prop
  | out {s i : Nat} (h : m.rows[s]? = some (.out i)) : CanEnd m s
  | left {s x y : Nat} (h : m.rows[s]? = some (.toss x y)) (c : CanEnd m x) : CanEnd m s
  | right {s x y : Nat} (h : m.rows[s]? = some (.toss x y)) (c : CanEnd m y) : CanEnd m s
theorem ends_can {m : Mc} : ∀ (k : Nat) (p : Nat × List Bool), (ends m)[k]? = some p → CanEnd m p.1 := by
  intro k
  induction k using Nat.strongRecOn with
  | _ k ih =>
    intro p hp
    rcases (ends_inv m).2.1 k p hp with ⟨i, h⟩ | ⟨x, y, e, k', q, hk', hq, hx⟩
    · exact .out h
    · have := ih k' hk' q hq
      rcases hx with hx | hx
      · exact .left e (hx ▸ this)
      · exact .right e (hx ▸ this)
theorem ends_iff {m : Mc} {s : Nat} : hs (ends m) s = true ↔ CanEnd m s := by
  constructor
  · intro h
    obtain ⟨k, q, _, hq, e⟩ := hs_at h
    exact e ▸ ends_can k q hq
  · intro c
    induction c with
    | out h => exact ends_out h
    | left h c ih => exact ends_toss h (.inl ih)
    | right h c ih => exact ends_toss h (.inr ih)
theorem live_iff {m : Mc} {s : Nat} : s ∈ liveL m ↔ s ∈ (ways m 0).map (·.1) ∧ CanEnd m s := by
  unfold liveL
  rw [List.mem_filter, ends_iff]
theorem bis_end {m m' : Mc} {s : Nat} (c : CanEnd m s) : ∀ s', Bis m m' s s' → CanEnd m' s' := by
  induction c with
  | out h =>
    intro s' b
    rcases b.step.cases with ⟨i, e1, e2⟩ | ⟨x, y, x', y', e1, e2, _, _⟩
    · exact .out e2
    · rw [h] at e1; cases e1
  | left h c ih =>
    intro s' b
    rcases b.step.cases with ⟨i, e1, e2⟩ | ⟨x, y, x', y', e1, e2, b1, b2⟩
    · rw [h] at e1; cases e1
    · rw [h] at e1
      cases e1
      exact .left e2 (ih _ b1)
  | right h c ih =>
    intro s' b
    rcases b.step.cases with ⟨i, e1, e2⟩ | ⟨x, y, x', y', e1, e2, b1, b2⟩
    · rw [h] at e1; cases e1
    · rw [h] at e1
      cases e1
      exact .right e2 (ih _ b2)
/-! ### a height that falls -/
def dst (m : Mc) (s : Nat) : Nat := ((ends m).map (·.1)).idxOf s
def hgt (m : Mc) (s : Nat) : Nat := 2 * 3 ^ (ends m).length - 3 ^ ((ends m).length - dst m s)
theorem pot_live {m : Mc} : Pot m (liveL m) (fun s => ((hgt m s : Nat) : Rat)) := by
  have e1 : ∀ s, 1 ≤ 3 ^ ((ends m).length - dst m s) ∧ 3 ^ ((ends m).length - dst m s) ≤ 3 ^ (ends m).length := fun s => ⟨Nat.pow_pos (by decide), Nat.pow_le_pow_right (by decide) (by omega)⟩
  have nn : ∀ t, (0 : Rat) ≤ ((hgt m t : Nat) : Rat) := fun t => by exact_mod_cast Nat.zero_le _
  refine ⟨nn, fun s hs i hr => ?_, fun s hs x y hr => ?_⟩
  · have : 1 ≤ hgt m s := by
      have := e1 s
      unfold hgt
      omega
    show (1 : Rat) ≤ ((hgt m s : Nat) : Rat)
    exact_mod_cast this
  · have hsk : s ∈ (ends m).map (·.1) := hs_mem.mp (List.mem_filter.mp hs).2
    have hlt := List.idxOf_lt_length_of_mem hsk
    have hget := List.getElem_idxOf hlt
    have hdl : dst m s < (ends m).length := by
      rw [List.length_map] at hlt
      exact hlt
    have hk : (ends m)[dst m s]? = some (ends m)[dst m s] := List.getElem?_eq_getElem hdl
    have hps : ((ends m)[dst m s]).1 = s := by
      rw [List.getElem_map] at hget
      exact hget
    generalize (ends m)[dst m s] = p at hk hps
    rcases (ends_inv m).2.1 _ p hk with ⟨i, h⟩ | ⟨x', y', e, k', q, hk', hq, hx⟩
    · rw [hps, hr] at h; cases h
    · rw [hps, hr] at e
      obtain ⟨rfl, rfl⟩ : x = x' ∧ y = y' := by
        simp only [Option.some.injEq, Rw.toss.injEq] at e
        exact e
      have dq : dst m q.1 ≤ k' := by
        have hq1 : ((ends m).map (·.1))[k']? = some q.1 := by rw [List.getElem?_map, hq]; rfl
        have nd := (ends_inv m).1.nd
        have hqm := List.idxOf_lt_length_of_mem (List.mem_of_getElem? hq1)
        have hq2 : ((ends m).map (·.1))[((ends m).map (·.1)).idxOf q.1]? = some q.1 := by
          rw [List.getElem?_eq_getElem hqm, List.getElem_idxOf hqm]
        exact Nat.le_of_eq (at_inj nd hq2 hq1)
      have key : hgt m q.1 + 3 * 3 ^ ((ends m).length - dst m s) ≤ 2 * 3 ^ (ends m).length := by
        have h1 : 3 ^ ((ends m).length - dst m s + 1) ≤ 3 ^ ((ends m).length - dst m q.1) := Nat.pow_le_pow_right (by decide) (by omega)
        rw [Nat.pow_succ] at h1
        have := e1 q.1
        unfold hgt
        omega
      have other : ∀ t, hgt m t + 1 ≤ 2 * 3 ^ (ends m).length := fun t => by
        have := e1 t
        unfold hgt
        omega
      have hs2 : hgt m s + 3 ^ ((ends m).length - dst m s) = 2 * 3 ^ (ends m).length := by
        have := e1 s
        unfold hgt
        omega
      have fin : hgt m x + hgt m y + 2 ≤ 2 * hgt m s := by
        have := e1 s
        rcases hx with hx | hx
        · rw [hx] at key
          have := other y
          omega
        · rw [hx] at key
          have := other x
          omega
      have finR : ((hgt m x : Nat) : Rat) + ((hgt m y : Nat) : Rat) + 2 ≤ 2 * ((hgt m s : Nat) : Rat) := by exact_mod_cast fin
      have hx0 := nn x
      have hy0 := nn y
      split <;> split <;> grind
/-! ### the values told backwards -/
theorem foldNum_cb {found : List (Nat × List Rat)} {B w D W : Nat} (hD : 0 < D) (hW : 0 < W) (hf : ∀ p ∈ found, ∀ q ∈ p.2, CB w W q) : ∀ (M : List (Nat × Rat)) (num : List Rat) (c : Nat), (∀ p ∈ M, CB B D p.2) → (∀ q ∈ num, ∃ a : Nat, a ≤ c * (2 ^ B * 2 ^ w) ∧ q = (a : Rat) / ((D * W : Nat) : Rat)) →
    ∀ q ∈ M.foldl (numStep found) num, ∃ a : Nat, a ≤ (c + M.length) * (2 ^ B * 2 ^ w) ∧ q = (a : Rat) / ((D * W : Nat) : Rat)
  | [], num, c, _, hn => fun q hq => by
    obtain ⟨a, h1, h2⟩ := hn q hq
    exact ⟨a, by simpa using h1, h2⟩
  | p :: M, num, c, hM, hn => fun q hq => by
    have := foldNum_cb hD hW hf M (numStep found num p) (c + 1) (fun p' hp' => hM p' (List.mem_cons_of_mem _ hp')) (fun q' hq' => ?_) q hq
    · obtain ⟨a, h1, h2⟩ := this
      exact ⟨a, by rw [List.length_cons, show c + (M.length + 1) = c + 1 + M.length by omega]; exact h1, h2⟩
    · obtain ⟨n, hn'⟩ := List.mem_iff_getElem?.mp hq'
      unfold numStep at hn'
      rw [List.getElem?_zipWith] at hn'
      cases q1 : num[n]? with
      | none => rw [q1] at hn'; cases hn'
      | some x =>
        cases q2 : ((lk found p.1).getD [])[n]? with
        | none => rw [q1, q2] at hn'; cases hn'
        | some y =>
          rw [q1, q2] at hn'
          obtain rfl := Option.some.inj hn'
          have hy : CB w W y := by
            cases e : lk found p.1 with
            | none => rw [e] at q2; simp at q2
            | some v =>
              rw [e] at q2
              exact hf _ (lk_mem e) y (List.mem_of_getElem? q2)
          obtain ⟨a, ha, ea⟩ := hn x (List.mem_of_getElem? q1)
          obtain ⟨b, hb, eb⟩ := hM p (List.mem_cons_self ..)
          obtain ⟨d, hd, ed⟩ := hy
          have dp := cast_pos hD
          have wp := cast_pos hW
          refine ⟨a + b * d, ?_, ?_⟩
          · have := Nat.mul_le_mul (Nat.le_of_lt hb) (Nat.le_of_lt hd)
            rw [Nat.add_mul, Nat.one_mul]
            omega
          · have c1 : ((a + b * d : Nat) : Rat) = (a : Rat) + (b : Rat) * (d : Rat) := by simp
            have c2 : ((D * W : Nat) : Rat) = (D : Rat) * (W : Rat) := by simp
            rw [ea, eb, ed, c1, c2]
            grind
def BkI (found : List (Nat × List Rat)) (w : Nat) : Prop := ∃ W : Nat, 0 < W ∧ W < 2 ^ w ∧ ∀ p ∈ found, ∀ q ∈ p.2, CB w W q
theorem backNum_cb {found : List (Nat × List Rat)} {w B D W : Nat} {rows : Rows} {s : Nat} (hD : 0 < D) (hD2 : D < 2 ^ B) (hW : 0 < W) (hW2 : W < 2 ^ w) (hf : ∀ p ∈ found, ∀ q ∈ p.2, CB w W q) (h1 : ∀ p ∈ (rowAt rows s).1, CB B D p.2) (h2 : ∀ q ∈ (rowAt rows s).2, CB B D q) (hl : (rowAt rows s).1.length ≤ 15) (j : Nat) :
    ∀ q ∈ backNum rows found s j, CB (B + w + 5) (D * W) q := by
  intro q hq
  have T : 0 < 2 ^ B * 2 ^ w := Nat.mul_pos (Nat.pow_pos (by decide)) (Nat.pow_pos (by decide))
  have hnum : ∀ q ∈ (rowAt rows s).2, ∃ a : Nat, a ≤ 1 * (2 ^ B * 2 ^ w) ∧ q = (a : Rat) / ((D * W : Nat) : Rat) := fun q hq => by
    obtain ⟨a, ha, e⟩ := h2 q hq
    have dp := cast_pos hD
    have wp := cast_pos hW
    refine ⟨a * W, ?_, ?_⟩
    · rw [Nat.one_mul]
      exact Nat.mul_le_mul (Nat.le_of_lt ha) (Nat.le_of_lt hW2)
    · have c1 : ((a * W : Nat) : Rat) = (a : Rat) * (W : Rat) := by simp
      have c2 : ((D * W : Nat) : Rat) = (D : Rat) * (W : Rat) := by simp
      rw [e, c1, c2]
      grind
  obtain ⟨a, ha, e⟩ := foldNum_cb (B := B) hD hW hf ((rowAt rows s).1.take j) (rowAt rows s).2 1 (fun p hp => h1 p (List.mem_of_mem_take hp)) hnum q hq
  refine ⟨a, ?_, e⟩
  have hlen : ((rowAt rows s).1.take j).length ≤ 15 := Nat.le_trans (List.length_take_le' ..) hl
  have h3 : (1 + ((rowAt rows s).1.take j).length) * (2 ^ B * 2 ^ w) ≤ 16 * (2 ^ B * 2 ^ w) := Nat.mul_le_mul_right _ (by omega)
  have h4 : 2 ^ (B + w + 5) = 32 * (2 ^ B * 2 ^ w) := by
    rw [Nat.pow_add, Nat.pow_add, Nat.mul_comm]
  omega
theorem BkI.step {found : List (Nat × List Rat)} {w B : Nat} {rows : Rows} {s : Nat} (h : BkI found w) (hr : ∃ D : Nat, 0 < D ∧ D < 2 ^ B ∧ (∀ p ∈ (rowAt rows s).1, CB B D p.2) ∧ ∀ q ∈ (rowAt rows s).2, CB B D q) (hl : (rowAt rows s).1.length ≤ 15) :
    BkI (backStep rows found s) (B + w + 5) ∧ ∀ j, SmL (B + w + 5) (backNum rows found s j) := by
  obtain ⟨W, w1, w2, w3⟩ := h
  obtain ⟨D, d1, d2, d3, d4⟩ := hr
  have hb := backNum_cb d1 d2 w1 w2 w3 d3 d4 hl
  have dw : D * W < 2 ^ (B + w + 5) := by
    have h1 := Nat.mul_lt_mul'' d2 w2
    have h4 : 2 ^ (B + w + 5) = 32 * (2 ^ B * 2 ^ w) := by
      rw [Nat.pow_add, Nat.pow_add, Nat.mul_comm]
    omega
  refine ⟨⟨D * W, Nat.mul_pos d1 w1, dw, ?_⟩, fun j q hq => (hb j q hq).sm (Nat.mul_pos d1 w1) dw⟩
  refine pt_all (P := fun v => ∀ q ∈ v, CB (B + w + 5) (D * W) q) (fun p hp q hq => ?_) (hb _)
  obtain ⟨a, ha, e⟩ := w3 p hp q hq
  have dp := cast_pos d1
  have wp := cast_pos w1
  refine ⟨a * D, ?_, ?_⟩
  · have h1 := Nat.mul_lt_mul'' ha d2
    have h4 : 2 ^ (B + w + 5) = 32 * (2 ^ w * 2 ^ B) := by
      rw [Nat.add_comm B w, Nat.pow_add, Nat.pow_add, Nat.mul_comm]
    omega
  · have c1 : ((a * D : Nat) : Rat) = (a : Rat) * (D : Rat) := by simp
    have c2 : ((D * W : Nat) : Rat) = (D : Rat) * (W : Rat) := by simp
    rw [e, c1, c2]
    grind
theorem back_bk {m : Mc} {rows : Rows} {L : List Nat} {B : Nat} (hr : ∀ s ∈ L, (∃ D : Nat, 0 < D ∧ D < 2 ^ B ∧ (∀ p ∈ (rowAt rows s).1, CB B D p.2) ∧ ∀ q ∈ (rowAt rows s).2, CB B D q) ∧ (rowAt rows s).1.length ≤ 15) : ∀ i, i ≤ L.length → BkI (backAt m rows L i) (1 + i * (B + 5))
  | 0, _ => ⟨1, by decide, by rw [Nat.zero_mul]; decide, fun p hp q hq => by
      obtain ⟨u, _, rfl⟩ := List.mem_map.mp (show p ∈ (ways m 0).map fun p => (p.1, List.replicate (m.n + 1) (0 : Rat)) from hp)
      rw [List.eq_of_mem_replicate hq]
      exact cb0 _ _⟩
  | i + 1, hi => by
    have ih := back_bk (m := m) hr i (by omega)
    have ei : L[i]? = some L[i] := List.getElem?_eq_getElem (by omega)
    have e : backAt m rows L (i + 1) = backStep rows (backAt m rows L i) L[i] := by
      unfold backAt
      rw [List.take_succ, ei, List.foldl_append]; rfl
    obtain ⟨h1, h2⟩ := hr L[i] (List.getElem_mem _)
    rw [e]
    have := (ih.step h1 h2).1
    rw [show 1 + (i + 1) * (B + 5) = B + (1 + i * (B + 5)) + 5 by rw [Nat.add_mul]; omega]
    exact this
theorem Bw15 : Bw 15 = 98303 := by decide
theorem solve_ok {m : Mc} (ok : m.Ok 15) : SolveOk m := by
  have P := pot_live (m := m)
  have nd := live_nodup ok
  have hl := live_lt ok
  have hBW := BW_eq
  have hll : (liveL m).length ≤ 15 := Nat.le_trans (nodup_len nd hl) ok.le
  have st := stage ok P nd hl
  have hB : ∀ i, i ≤ 15 → Bw i ≤ BW := fun i hi => by
    have := Bw_le hi
    rw [Bw15] at this
    omega
  have hlast := st (liveL m).length (Nat.le_refl _)
  have at_ : ∀ t ∈ liveL m, ∃ k, (liveL m)[k]? = some t := fun t ht => List.mem_iff_getElem?.mp ht
  have hrows : ∀ s ∈ liveL m, (∃ D : Nat, 0 < D ∧ D < 2 ^ Bw 15 ∧ (∀ p ∈ (rowAt (elimAt m (liveL m) (liveL m).length) s).1, CB (Bw 15) D p.2) ∧ ∀ q ∈ (rowAt (elimAt m (liveL m) (liveL m).length) s).2, CB (Bw 15) D q) ∧ (rowAt (elimAt m (liveL m) (liveL m).length) s).1.length ≤ 15 := fun s hs => by
    obtain ⟨k, hk⟩ := at_ s hs
    have r := hlast k s hk
    have r2 := r.ok (fun x hx => hl x (KA_mem hx)) (hB _ hll)
    obtain ⟨D, d1, d2, d3, d4⟩ := r.rb
    have hb := Bw_le hll
    refine ⟨⟨D, d1, Nat.lt_of_lt_of_le d2 (two_le hb), fun p hp => ?_, fun q hq => (d4 q hq).up hb⟩, Nat.le_trans r2.tab.len ok.le⟩
    have e : fac (rowAt (elimAt m (liveL m) (liveL m).length) s) p.1 = p.2 := by
      unfold fac
      rw [lk_of r.nd hp]; rfl
    rw [← e]
    exact (d3 p.1).up hb
  have bk := back_bk (m := m) hrows
  refine ⟨fun i hi t ht => ?_, fun i hi f hf => ?_, fun i hi j hj t ht => ?_, fun t ht p hp => ?_, fun i hi p hp q hq => ?_, fun i hi j => ?_⟩
  · obtain ⟨k, hk⟩ := at_ t ht
    exact (st i hi k t hk).ok (fun x hx => hl x (KA_mem hx)) (hB i (by omega))
  · have h0 := spot_at hi
    have r := st i (by omega) _ _ h0
    have := r.lt1 (List.mem_of_getElem? h0) P.nn
    unfold fac at this
    rw [hf] at this
    exact this
  · obtain ⟨k, hk⟩ := at_ t ht
    have r := near_stage P nd (st i (by omega)) hi j hj k t hk
    refine r.ok (fun x hx => hl x ?_) (hB (i + 1) (by omega))
    split at hx
    · exact KA_mem hx
    · exact KA_mem hx
  · obtain ⟨k, hk⟩ := at_ t ht
    exact KA_mem ((hlast k t hk).ks p hp)
  · obtain ⟨W, w1, w2, w3⟩ := bk i hi
    refine ((w3 p hp q hq).sm w1 w2).up ?_
    rw [Bw15, hBW]
    have : i * (98303 + 5) ≤ 15 * (98303 + 5) := Nat.mul_le_mul_right _ (by omega)
    omega
  · have hm : (liveL m).getD i 0 ∈ liveL m := getD_mem hi
    obtain ⟨h1, h2⟩ := hrows _ hm
    have := ((bk i (by omega)).step h1 h2).2 j
    intro q hq
    refine (this q hq).up ?_
    rw [Bw15, hBW]
    have : i * (98303 + 5) ≤ 15 * (98303 + 5) := Nat.mul_le_mul_right _ (by omega)
    omega
end Dr
set_option Elab.async false
set_option linter.all false
set_option maxRecDepth 100000
set_option maxHeartbeats 4000000
namespace Dr
/-! ### what the elimination finds -/
def Hold (L : List Nat) (wd : Nat) (x : Nat → Nat → Rat) (s : Nat) (r : RowQ) : Prop := ∀ c, c < wd → x s c = r.2.getD c 0 + ss L (fun t => fac r t * x t c)
section
variable {L : List Nat} {wd : Nat} {x : Nat → Nat → Rat} {s t : Nat} {r o : RowQ}
theorem getD_div (l : List Rat) (d : Rat) (c : Nat) : (l.map fun x => x / d).getD c 0 = l.getD c 0 / d := by
  rw [List.getD_eq_getElem?_getD, List.getD_eq_getElem?_getD, List.getElem?_map]
  cases l[c]? with
  | none => simp; grind
  | some v => rfl
theorem hold_wi (nd : L.Nodup) (hs : s ∈ L) (f1 : fac r s < 1) : Hold L wd x s (wiQ s r) ↔ Hold L wd x s r := by
  have key : ∀ c, (wiQ s r).2.getD c 0 + ss L (fun t => fac (wiQ s r) t * x t c) = (r.2.getD c 0 + ss L (fun t => fac r t * x t c) - fac r s * x s c) / (1 - fac r s) := fun c => by
    have e1 : ss L (fun t => fac (wiQ s r) t * x t c) = (1 - fac r s)⁻¹ * (ss L (fun t => fac r t * x t c) - fac r s * x s c) := by
      rw [← ss_drop nd hs (fun t => fac r t * x t c), ← ss_mul]
      refine ss_congr fun t _ => ?_
      rw [fac_wi]
      by_cases q : t = s
      · rw [if_pos q, if_pos q]; grind
      · rw [if_neg q, if_neg q, Rat.div_def]; grind
    rw [num_wi, getD_div, e1]
    grind
  unfold Hold
  constructor
  · intro h c hc
    have := h c hc
    rw [key] at this
    grind
  · intro h c hc
    have := h c hc
    rw [key]
    grind
theorem getD_zip (sh : Rat) : ∀ (l l' : List Rat) (c : Nat), l.length = l'.length → (List.zipWith (fun a b => a + sh * b) l l').getD c 0 = l.getD c 0 + sh * l'.getD c 0
  | [], [], c, _ => by simp; grind
  | a :: l, b :: l', 0, _ => by simp
  | a :: l, b :: l', c + 1, h => by
    have := getD_zip sh l l' c (by simpa using h)
    simpa using this
theorem hold_put (nd : L.Nodup) (hs : s ∈ L) (no : (o.1.map (·.1)).Nodup) (hl : r.2.length = o.2.length) (ho : Hold L wd x s o) : Hold L wd x t (putQ s o r) ↔ Hold L wd x t r := by
  have key : ∀ c, c < wd → (putQ s o r).2.getD c 0 + ss L (fun t => fac (putQ s o r) t * x t c) = r.2.getD c 0 + ss L (fun t => fac r t * x t c) := fun c hc => by
    have e1 : ss L (fun u => fac (putQ s o r) u * x u c) = ss L (fun u => fac r u * x u c) - fac r s * x s c + fac r s * ss L (fun u => fac o u * x u c) := by
      rw [← ss_drop nd hs (fun u => fac r u * x u c), ← ss_mul, ← ss_add]
      refine ss_congr fun u _ => ?_
      rw [fac_put no]
      by_cases q : u = s
      · rw [if_pos q, if_pos q]; grind
      · rw [if_neg q, if_neg q]; grind
    have e2 : (putQ s o r).2.getD c 0 = r.2.getD c 0 + fac r s * o.2.getD c 0 := getD_zip _ _ _ c hl
    have e3 := ho c hc
    rw [e1, e2]
    grind
  unfold Hold
  constructor
  · intro h c hc
    rw [← key c hc]; exact h c hc
  · intro h c hc
    rw [key c hc]; exact h c hc
end
def AllH (m : Mc) (L : List Nat) (x : Nat → Nat → Rat) (rows : Rows) : Prop := ∀ s ∈ L, Hold L (m.n + 1) x s (rowAt rows s)
section
variable {m : Mc} {L : List Nat} {h : Nat → Rat} {x : Nat → Nat → Rat}
theorem stage_hold (P : Pot m L h) (nd : L.Nodup) {i : Nat} (st : StI m L h i) (hi : i < L.length) : AllH m L x (elimAt m L (i + 1)) ↔ AllH m L x (elimAt m L i) := by
  have hs0 := spot_at hi
  generalize hc : L.length - 1 - i = c at hs0
  have sL := List.mem_of_getElem? hs0
  have rs := st c _ hs0
  have f1 := rs.lt1 sL P.nn
  have no := nd_wi (s := L.getD c 0) rs.nd
  have lo : ∀ k t, L[k]? = some t → (rowAt (elimAt m L i) t).2.length = (wiQ (L.getD c 0) (rowAt (elimAt m L i) (L.getD c 0))).2.length := fun k t ht => by
    rw [num_wi, List.length_map, (st k t ht).ln, rs.ln]
  have row : ∀ k t, L[k]? = some t → rowAt (elimAt m L (i + 1)) t = if k = c then wiQ (L.getD c 0) (rowAt (elimAt m L i) (L.getD c 0)) else if k < c ∧ hs (rowAt (elimAt m L i) t).1 (L.getD c 0) = true then putQ (L.getD c 0) (wiQ (L.getD c 0) (rowAt (elimAt m L i) (L.getD c 0))) (rowAt (elimAt m L i) t) else rowAt (elimAt m L i) t := fun k t ht => by
    show rowAt (nears L (elimAt m L i) (L.getD (L.length - 1 - i) 0) (L.length - 1 - i)) t = _
    rw [hc]
    exact nears_row nd hs0 c (Nat.le_refl _) k t ht
  generalize L.getD c 0 = s at *
  constructor
  · intro A t ht
    obtain ⟨k, hk⟩ := List.mem_iff_getElem?.mp ht
    have ho := A s sL
    rw [row c s hs0, if_pos rfl] at ho
    have at' := A t ht
    rw [row k t hk] at at'
    by_cases q : k = c
    · subst q
      have : t = s := by rw [hk] at hs0; exact Option.some.inj hs0
      subst this
      exact (hold_wi nd sL f1).mp ho
    · rw [if_neg q] at at'
      by_cases q2 : k < c ∧ hs (rowAt (elimAt m L i) t).1 s = true
      · rw [if_pos q2] at at'
        exact (hold_put nd sL no (lo k t hk) ho).mp at'
      · rw [if_neg q2] at at'
        exact at'
  · intro A t ht
    obtain ⟨k, hk⟩ := List.mem_iff_getElem?.mp ht
    have ho := (hold_wi nd sL f1).mpr (A s sL)
    rw [row k t hk]
    by_cases q : k = c
    · subst q
      have : t = s := by rw [hk] at hs0; exact Option.some.inj hs0
      subst this
      rw [if_pos rfl]
      exact ho
    · rw [if_neg q]
      by_cases q2 : k < c ∧ hs (rowAt (elimAt m L i) t).1 s = true
      · rw [if_pos q2]
        exact (hold_put nd sL no (lo k t hk) ho).mpr (A t ht)
      · rw [if_neg q2]
        exact A t ht
theorem all_hold {z : Nat} (ok : m.Ok z) (P : Pot m L h) (nd : L.Nodup) (hl : ∀ s ∈ L, s < m.rows.length) : ∀ i, i ≤ L.length → (AllH m L x (elimAt m L i) ↔ AllH m L x (eqsOf m L))
  | 0, _ => Iff.rfl
  | i + 1, hi => (stage_hold P nd (stage ok P nd hl i (by omega)) (by omega)).trans (all_hold ok P nd hl i (by omega))
/-! the values told backwards -/
theorem foldNum_val {found : List (Nat × List Rat)} {wd : Nat} : ∀ (M : List (Nat × Rat)) (num : List Rat), num.length = wd → (∀ p ∈ M, ∃ v, lk found p.1 = some v ∧ v.length = wd) → ∀ c, (M.foldl (numStep found) num).getD c 0 = num.getD c 0 + (M.map fun p => p.2 * ((lk found p.1).getD []).getD c 0).sum
  | [], num, _, _, c => by simp; grind
  | p :: M, num, hn, hM, c => by
    obtain ⟨v, e, hv⟩ := hM p (List.mem_cons_self ..)
    have hl : (numStep found num p).length = wd := by
      unfold numStep
      rw [e, List.length_zipWith, hn, Option.getD_some, hv, Nat.min_self]
    have ih := foldNum_val M (numStep found num p) hl (fun p' hp' => hM p' (List.mem_cons_of_mem _ hp')) c
    rw [List.foldl_cons, ih, List.map_cons, List.sum_cons]
    have e2 : (numStep found num p).getD c 0 = num.getD c 0 + p.2 * ((lk found p.1).getD []).getD c 0 := by
      unfold numStep
      rw [e, Option.getD_some]
      exact getD_zip p.2 num v c (by rw [hn, hv])
    rw [e2]
    grind
theorem ss_keys (nd : L.Nodup) (ns : List Rat) (g : Nat → Rat) : ∀ l : List (Nat × Rat), (l.map (·.1)).Nodup → (∀ p ∈ l, p.1 ∈ L) → (l.map fun p => p.2 * g p.1).sum = ss L (fun t => fac (l, ns) t * g t)
  | [], _, _ => by
    rw [ss_none]; rfl
  | p :: l, hn, hk => by
    rw [List.map_cons, List.nodup_cons] at hn
    have ih := ss_keys nd ns g l hn.2 fun q hq => hk q (List.mem_cons_of_mem _ hq)
    rw [List.map_cons, List.sum_cons, ih]
    have e : ss L (fun t => fac (p :: l, ns) t * g t) = ss L (fun t => (if t = p.1 then p.2 * g t else 0) + fac (l, ns) t * g t) := by
      refine ss_congr fun t _ => ?_
      unfold fac
      rw [lk_consN]
      by_cases q : t = p.1
      · subst q
        rw [if_pos rfl, if_pos rfl, lk_none hn.1]
        simp
        grind
      · rw [if_neg (Ne.symm q), if_neg q]
        grind
    rw [e, ss_add, ss_only nd, if_pos (hk p (List.mem_cons_self ..))]
theorem back_succ {rows : Rows} {i : Nat} (hi : i < L.length) : backAt m rows L (i + 1) = pt (backAt m rows L i) L[i] (backNum rows (backAt m rows L i) L[i] (rowAt rows L[i]).1.length) := by
  have ei : L[i]? = some L[i] := List.getElem?_eq_getElem hi
  unfold backAt
  rw [List.take_succ, ei, List.foldl_append]; rfl
theorem back_at (nd : L.Nodup) {rows : Rows} : ∀ i, i ≤ L.length → ∀ k s, L[k]? = some s → k < i → lk (backAt m rows L i) s = some (backNum rows (backAt m rows L k) s (rowAt rows s).1.length)
  | 0, _, k, s, _, hk => by omega
  | i + 1, hi, k, s, hks, hk => by
    rw [back_succ (by omega), lk_ptN]
    have ei : L[i]? = some L[i] := List.getElem?_eq_getElem (by omega)
    by_cases q : s = L[i]
    · have : k = i := at_inj nd hks (by rw [q]; exact ei)
      subst this
      rw [if_pos q, ← q]
    · rw [if_neg q]
      have : k ≠ i := fun e => q (by subst e; rw [hks] at ei; exact Option.some.inj ei)
      exact back_at nd i (by omega) k s hks (by omega)
theorem back_out {rows : Rows} {s : Nat} (hs : s ∉ L) (hw : s ∈ (ways m 0).map (·.1)) : ∀ i, i ≤ L.length → lk (backAt m rows L i) s = some (List.replicate (m.n + 1) 0)
  | 0, _ => by
    show lk (found0 m) s = _
    have e : found0 m = ((ways m 0).map (·.1)).map fun s => (s, List.replicate (m.n + 1) (0 : Rat)) := by
      unfold found0
      rw [List.map_map]; rfl
    rw [e]
    exact lk_tab _ (fun _ => List.replicate (m.n + 1) (0 : Rat)) hw
  | i + 1, hi => by
    rw [back_succ (by omega), lk_ptN, if_neg fun (q : s = L[i]) => hs (by rw [q]; exact List.getElem_mem _)]
    exact back_out hs hw i (by omega)
end
def vf (m : Mc) (s c : Nat) : Rat := (valsAt m s).getD c 0
structure Fin (m : Mc) : Prop where
  len : ∀ s ∈ (ways m 0).map (·.1), (valsAt m s).length = m.n + 1
  out : ∀ s ∈ (ways m 0).map (·.1), s ∉ liveL m → valsAt m s = List.replicate (m.n + 1) 0
  all : AllH m (liveL m) (vf m) (eqsOf m (liveL m))
  one : ∀ x, AllH m (liveL m) x (eqsOf m (liveL m)) → ∀ s ∈ liveL m, ∀ c, c < m.n + 1 → x s c = vf m s c
theorem fin_of {m : Mc} (ok : m.Ok 15) : Fin m := by
  have P := pot_live (m := m)
  have nd := live_nodup ok
  have hl := live_lt ok
  have hw := live_ways (m := m)
  have st := stage ok P nd hl
  have hlast : ∀ k s, (liveL m)[k]? = some s → RI (KA (liveL m) (liveL m).length k) (m.n + 1) (Bw (liveL m).length) (liveL m) (fun s => ((hgt m s : Nat) : Rat)) s (rowAt (elimAt m (liveL m) (liveL m).length) s) := st (liveL m).length (Nat.le_refl _)
  have hall := fun x => all_hold (x := x) ok P nd hl (liveL m).length (Nat.le_refl _)
  have vdef : ∀ s, valsAt m s = (lk (backAt m (elimAt m (liveL m) (liveL m).length) (liveL m) (liveL m).length) s).getD [] := fun s => rfl
  generalize hL : liveL m = L at *
  generalize elimAt m L L.length = E at *
  have at_ : ∀ t ∈ L, ∃ k, L[k]? = some t := fun t ht => List.mem_iff_getElem?.mp ht
  have kal : ∀ k, k < L.length → KA L L.length k = L.take k := fun k hk => by unfold KA; rw [if_neg (by omega)]
  have rln : ∀ t ∈ L, (rowAt E t).2.length = m.n + 1 := fun t ht => by
    obtain ⟨k, hk⟩ := at_ t ht
    exact (hlast k t hk).ln
  have rks : ∀ t ∈ L, ∀ p ∈ (rowAt E t).1, p.1 ∈ L := fun t ht p hp => by
    obtain ⟨k, hk⟩ := at_ t ht
    exact KA_mem ((hlast k t hk).ks p hp)
  have bkeys := fun i => back_keys (m := m) (rows := E) (L := L) hw i
  have blen := back_len (m := m) (rows := E) (L := L) rfl hw rln rks
  have look : ∀ i, ∀ s ∈ (ways m 0).map (·.1), ∃ v, lk (backAt m E L i) s = some v ∧ v.length = m.n + 1 := fun i s hs => by
    rw [← bkeys i] at hs
    have := hs_mem.mpr hs
    rw [lk_hs] at this
    cases e : lk (backAt m E L i) s with
    | none => rw [e] at this; cases this
    | some v => exact ⟨v, rfl, blen i _ (lk_mem e)⟩
  -- a value by its row
  have val : ∀ k s, L[k]? = some s → ∀ c, (valsAt m s).getD c 0 = (rowAt E s).2.getD c 0 + ss L (fun t => fac (rowAt E s) t * (valsAt m t).getD c 0) := fun k s hk c => by
    have hkl := (List.getElem?_eq_some_iff.mp hk).1
    have sL := List.mem_of_getElem? hk
    have r := hlast k s hk
    rw [vdef, back_at nd L.length (Nat.le_refl _) k s hk hkl, Option.getD_some]
    unfold backNum
    rw [List.take_length, foldNum_val (wd := m.n + 1) _ _ r.ln (fun p hp => look k p.1 (hw _ (rks s sL p hp))) c]
    congr 1
    have e1 := ss_keys nd (rowAt E s).2 (fun t => ((lk (backAt m E L k) t).getD []).getD c 0) (rowAt E s).1 r.nd (rks s sL)
    rw [e1]
    refine ss_congr fun t ht => ?_
    show fac (rowAt E s) t * _ = _
    by_cases q : t ∈ (rowAt E s).1.map (·.1)
    · obtain ⟨p, hp, rfl⟩ := List.mem_map.mp q
      have hpk := r.ks p hp
      rw [kal k hkl] at hpk
      obtain ⟨k', hk'⟩ := List.mem_iff_getElem?.mp hpk
      have hk'l := (List.getElem?_eq_some_iff.mp hk').1
      rw [List.length_take] at hk'l
      rw [List.getElem?_take_of_lt (by omega)] at hk'
      rw [vdef, back_at nd k (by omega) k' p.1 hk' (by omega), back_at nd L.length (Nat.le_refl _) k' p.1 hk' (by omega)]
    · have : fac (rowAt E s) t = 0 := by
        unfold fac
        rw [lk_none q]; rfl
      rw [this]
      grind
  refine ⟨fun s hs => ?_, fun s hs hn => ?_, ?_, fun x hx s hs c hc => ?_⟩
  · obtain ⟨v, e, hv⟩ := look L.length s hs
    rw [vdef, e]
    exact hv
  · rw [hL] at hn
    rw [vdef, back_out hn hs _ (Nat.le_refl _)]; rfl
  · rw [hL]
    refine (hall _).mp fun s hs c hc => ?_
    obtain ⟨k, hk⟩ := at_ s hs
    exact val k s hk c
  · rw [hL] at hx hs
    have hx := (hall x).mpr hx
    obtain ⟨k, hk⟩ := at_ s hs
    clear hs
    show x s c = (valsAt m s).getD c 0
    induction k using Nat.strongRecOn generalizing s with
    | _ k ih =>
      have hkl := (List.getElem?_eq_some_iff.mp hk).1
      rw [hx s (List.mem_of_getElem? hk) c hc, val k s hk c]
      congr 1
      refine ss_congr fun t ht => ?_
      by_cases q : t ∈ (rowAt E s).1.map (·.1)
      · obtain ⟨p, hp, rfl⟩ := List.mem_map.mp q
        have hpk := (hlast k s hk).ks p hp
        rw [kal k hkl] at hpk
        obtain ⟨k', hk'⟩ := List.mem_iff_getElem?.mp hpk
        have hk'l := (List.getElem?_eq_some_iff.mp hk').1
        rw [List.length_take] at hk'l
        rw [List.getElem?_take_of_lt (by omega)] at hk'
        rw [ih k' (by omega) p.1 hk']
      · have : fac (rowAt E s) t = 0 := by
          unfold fac
          rw [lk_none q]; rfl
        rw [this]
        grind
/-! ### a machine and its folded machine -/
inductive Rch (m : Mc) : Nat → Prop
  | zero : Rch m 0
  | left {s x y : Nat} (h : m.rows[s]? = some (.toss x y)) (c : Rch m s) : Rch m x
  | right {s x y : Nat} (h : m.rows[s]? = some (.toss x y)) (c : Rch m s) : Rch m y
theorem visit_rch {m : Mc} {here : Nat} {b : Bool} {st : St} (h : ∀ p ∈ st, Rch m p.1) (hh : Rch m here) : ∀ p ∈ visit m here b st, Rch m p.1 := by
  unfold visit
  cases e : nx m here b with
  | none => exact h
  | some t =>
    dsimp only
    split
    · exact h
    · intro p hp
      rcases List.mem_append.mp hp with hp | hp
      · exact h p hp
      · rw [List.mem_singleton.mp hp]
        unfold nx at e
        cases e2 : m.rows[here]? with
        | none => rw [e2] at e; cases e
        | some r => cases r with
          | out i => rw [e2] at e; cases e
          | toss x y =>
            rw [e2] at e
            obtain rfl := Option.some.inj e
            show Rch m (if b = true then y else x)
            split
            · exact .right e2 hh
            · exact .left e2 hh
theorem wfGo_rch {m : Mc} : ∀ (n i : Nat) (st : St), (∀ p ∈ st, Rch m p.1) → ∀ p ∈ wfGo m n i st, Rch m p.1
  | 0, _, _, h => h
  | n + 1, i, st, h => by
    unfold wfGo
    cases e : st[i]? with
    | none => exact h
    | some q =>
      have hq := h q (List.mem_of_getElem? e)
      exact wfGo_rch n _ _ (visit_rch (visit_rch h hq) hq)
theorem ways_rch {m : Mc} {s : Nat} (h : s ∈ (ways m 0).map (·.1)) : Rch m s := by
  obtain ⟨p, hp, rfl⟩ := List.mem_map.mp h
  exact wfGo_rch _ _ _ (fun q hq => by rw [List.mem_singleton.mp hq]; exact .zero) p hp
theorem rch_bis {m F : Mc} {z z' : Nat} (okF : F.Ok z') (b0 : Bis m F 0 0) {s : Nat} (h : Rch m s) : ∃ p, p ∈ (ways F 0).map (·.1) ∧ Bis m F s p := by
  induction h with
  | zero => exact ⟨0, ways_zero okF, b0⟩
  | left h c ih =>
    obtain ⟨p, hp, b⟩ := ih
    rcases b.step.cases with ⟨i, e1, e2⟩ | ⟨x, y, x', y', e1, e2, b1, b2⟩
    · rw [h] at e1; cases e1
    · rw [h] at e1
      cases e1
      exact ⟨x', (ways_closed okF p hp x' y' e2).1, b1⟩
  | right h c ih =>
    obtain ⟨p, hp, b⟩ := ih
    rcases b.step.cases with ⟨i, e1, e2⟩ | ⟨x, y, x', y', e1, e2, b1, b2⟩
    · rw [h] at e1; cases e1
    · rw [h] at e1
      cases e1
      exact ⟨y', (ways_closed okF p hp x' y' e2).2, b2⟩
open Classical in
theorem vals_fold {m F : Mc} (ok : m.Ok 15) (okF : F.Ok 15) (hn : F.n = m.n) (red : ∀ s t, Bis F F s t → s = t) (b0 : Bis m F 0 0) : valsAt m 0 = valsAt F 0 := by
  have fm := fin_of ok
  have fF := fin_of okF
  have ex : ∀ s, s ∈ (ways m 0).map (·.1) → ∃ p, p ∈ (ways F 0).map (·.1) ∧ Bis m F s p := fun s hs => rch_bis (z := 15) okF b0 (ways_rch hs)
  let φ : Nat → Nat := fun s => if h : ∃ p, p ∈ (ways F 0).map (·.1) ∧ Bis m F s p then Classical.choose h else 0
  have hφ : ∀ s, s ∈ (ways m 0).map (·.1) → φ s ∈ (ways F 0).map (·.1) ∧ Bis m F s (φ s) := fun s hs => by
    have h := ex s hs
    show (if h : ∃ p, p ∈ (ways F 0).map (·.1) ∧ Bis m F s p then Classical.choose h else 0) ∈ _ ∧ Bis m F s (if h : ∃ p, p ∈ (ways F 0).map (·.1) ∧ Bis m F s p then Classical.choose h else 0)
    rw [dif_pos h]
    exact Classical.choose_spec h
  have uni : ∀ s p, s ∈ (ways m 0).map (·.1) → Bis m F s p → φ s = p := fun s p hs b => red _ _ ((hφ s hs).2.symm.trans b)
  have live : ∀ s p, s ∈ (ways m 0).map (·.1) → p ∈ (ways F 0).map (·.1) → Bis m F s p → (s ∈ liveL m ↔ p ∈ liveL F) := fun s p hs hp b => by
    rw [live_iff, live_iff]
    exact ⟨fun h => ⟨hp, bis_end h.2 _ b⟩, fun h => ⟨hs, bis_end h.2 _ b.symm⟩⟩
  have w0 : 0 ∈ (ways m 0).map (·.1) := ways_zero ok
  have wF0 : 0 ∈ (ways F 0).map (·.1) := ways_zero okF
  have ndm := live_nodup ok
  have ndF := live_nodup okF
  have sol : AllH m (liveL m) (fun s c => vf F (φ s) c) (eqsOf m (liveL m)) := by
    intro s hs c hc
    have hsw := live_ways s hs
    obtain ⟨hp, b⟩ := hφ s hsw
    have hpF := (live s (φ s) hsw hp b).mp hs
    have eqF := fF.all (φ s) hpF c (by rw [hn]; exact hc)
    have r1 : rowAt (eqsOf m (liveL m)) s = eqOf m (liveL m) s := by
      unfold rowAt eqsOf
      rw [lk_tab _ (eqOf m (liveL m)) hs]; rfl
    have r2 : rowAt (eqsOf F (liveL F)) (φ s) = eqOf F (liveL F) (φ s) := by
      unfold rowAt eqsOf
      rw [lk_tab _ (eqOf F (liveL F)) hpF]; rfl
    rw [r2] at eqF
    rw [r1]
    show vf F (φ s) c = _
    rw [eqF]
    unfold eqOf
    rcases b.step.cases with ⟨i, e1, e2⟩ | ⟨x, y, x', y', e1, e2, b1, b2⟩
    · rw [e1, e2]
      dsimp only
      rw [ss_none, ss_none, hn]
    · rw [e1, e2]
      dsimp only
      obtain ⟨cx, cy⟩ := ways_closed ok s hsw x y e1
      obtain ⟨cx', cy'⟩ := ways_closed okF (φ s) hp x' y' e2
      rw [ss_toss ndF, ss_toss ndm, hn]
      have ex : (if x' ∈ liveL F then vf F x' c else 0) = if x ∈ liveL m then vf F (φ x) c else 0 := by
        rw [uni x x' cx b1]
        by_cases q : x ∈ liveL m
        · rw [if_pos q, if_pos ((live x x' cx cx' b1).mp q)]
        · rw [if_neg q, if_neg fun z => q ((live x x' cx cx' b1).mpr z)]
      have ey : (if y' ∈ liveL F then vf F y' c else 0) = if y ∈ liveL m then vf F (φ y) c else 0 := by
        rw [uni y y' cy b2]
        by_cases q : y ∈ liveL m
        · rw [if_pos q, if_pos ((live y y' cy cy' b2).mp q)]
        · rw [if_neg q, if_neg fun z => q ((live y y' cy cy' b2).mpr z)]
      rw [ex, ey]
  by_cases q : 0 ∈ liveL m
  · have l1 := fm.len 0 w0
    have l2 := fF.len 0 wF0
    apply List.ext_getElem?
    intro c
    by_cases hc : c < m.n + 1
    · have := fm.one _ sol 0 q c hc
      rw [uni 0 0 w0 b0] at this
      unfold vf at this
      rw [List.getD_eq_getElem?_getD, List.getD_eq_getElem?_getD, List.getElem?_eq_getElem (by omega), List.getElem?_eq_getElem (by omega)] at this
      rw [List.getElem?_eq_getElem (by omega), List.getElem?_eq_getElem (by omega)]
      simpa using this.symm
    · rw [List.getElem?_eq_none_iff.mpr (by omega), List.getElem?_eq_none_iff.mpr (by omega)]
  · have q2 : 0 ∉ liveL F := fun h => q ((live 0 0 w0 wF0 b0).mpr h)
    rw [fm.out 0 w0 q, fF.out 0 wF0 q2, hn]
/-- machines that run the same have the same chances -/
theorem bis_ch {m m' : Mc} (ok : m.Ok 15) (ok' : m'.Ok 15) (hn : m.n = m'.n) (b : Bis m m' 0 0) : chD m = chD m' := by
  obtain ⟨f, hf⟩ := rndN_ex m (lReached m) (lReached m).length
  have i := lfold_is ok hf
  have okF := i.ok 15 ok
  have e1 := vals_fold ok okF i.n i.can.red i.bis
  have e2 := vals_fold ok' okF (by rw [i.n, hn]) i.can.red (b.symm.trans i.bis)
  unfold chD chQ
  rw [e1, e2]
end Dr
set_option Elab.async false
set_option linter.all false
set_option maxRecDepth 100000
set_option maxHeartbeats 4000000
set_option pp.deepTerms false
set_option pp.maxSteps 400
namespace Dr
open PySem PySem.Spec PyProof.Rows L2
section
variable {X : Cx} {σ : L2.St} {H H' : Hp} {e : Expr} {ds : List D}
/-- a list of an earlier heap that stays -/
theorem wk_lstS {H0 : Hp} {v : V} {tg : Expr} (h : EvV X e σ H v) (hv : Im X.K H0 v (.lst ds)) (s0 : Same H0 H) : Wk X tg e σ H ds (fun _ H2 => Same H0 H2) := fun H1 s R r =>
  ⟨_, pi_list pe_W, h H1 s _ fun H2 s2 => by
    obtain ⟨a, xs, rfl, h1, h2⟩ := hv.lstI
    have s02 := (s0.trans s).trans s2
    refine ⟨a, rfl, ⟨xs, .inl (Same.rd s02 h1)⟩, r _ H2 (fun H' => Same H0 H') s2 ⟨fun i H' hi t => ?_, fun H' t => ⟨xs, .inl (Same.rd t h1), by rw [h2.len]; exact Nat.le_refl _⟩, fun i H' x H3 hi t y => ?_⟩ fun H' n => n⟩
    · have : i < xs.length := by rw [h2.len]; exact hi
      exact ⟨xs, xs[i], .inl (Same.rd t h1), by simp [this]⟩
    · obtain ⟨rfl, y⟩ := y
      have yy := y xs (.inl (Same.rd t h1))
      obtain ⟨d, hd1, hd2⟩ := h2.atV yy
      exact ⟨Same.refl _, d, hd1, hd2.ex t⟩⟩
end
theorem lfirst_len (f : Nat → Nat) (l : List Nat) : (lfirst f l).length ≤ l.length := by
  suffices h : ∀ n, n ≤ l.length → (lfirst f (l.take n)).length ≤ n by
    have := h l.length (Nat.le_refl _)
    rwa [List.take_length] at this
  intro n
  induction n with
  | zero => intro _; simp [lfirst]
  | succ n ih =>
    intro hn
    have ih := ih (by omega)
    have e : l.take (n + 1) = l.take n ++ [l[n]] := by rw [List.take_succ, List.getElem?_eq_getElem (by omega)]; rfl
    rw [e, lfirst_snoc]
    unfold fvisit
    split
    · omega
    · rw [List.length_append, List.length_singleton]
      omega
section
variable {P : Program} {w : World} {K : PySem.W.Frag} {mg : Str → Option Value} {base : Heap}
theorem sc65 : FnScope ["_law_machine_here", "_law_n", "_law_standings", "_law_found", "_law_lots", "_law_at", "_law_turn", "_law_keys", "_law_now", "_law_key", "_law_first", "_law_order", "_law_rows", "_law_row", "_law_to"] ["_law_machine_here"] (defScope (top 65)) := ⟨rfl, rfl, rfl, by decide +kernel, rfl, by decide +kernel, by decide +kernel⟩
theorem pr_lfold (T : Txt K mg) (R : Pr P w K mg base "_law_reached" 1 ["_law_machine_here"] (spD K preLReach)) : Pr P w K mg base "_law_folded" 2 ["_law_machine_here"] (spN K preLFold postLFold) := by
  have fl := T.free "len" (by decide)
  have ft := T.free "tuple" (by decide)
  refine mk_pr T 47 rfl sc65 (fun _ _ _ _ _ _ us hl => match us, hl with | [_], _ => rfl) (fun vs H Q E h => ?_) (fun cdv A outer s H vs Q E hr h => ?_)
  · obtain ⟨ds, ⟨m, rfl, _⟩, hI, _⟩ := h
    exact hI.len
  · obtain ⟨ds, ⟨m, rfl, ok⟩, hI, k0⟩ := h
    have k : ∀ d v H', (∃ f, RndN m (lReached m) (lReached m).length f ∧ d = mD (lfoldM m f (lReached m))) → Same H H' → Im K H' v d → Q v H' := fun d v H' hd => k0 d v H' fun m' e => by
      have em : m = m' := mD_inj (by simpa using e)
      subst em
      exact hd
    cases hI with
    | @cons vm _ _ _ h1 hI =>
    cases hI
    have okl := ok.le
    have n1 := ok.n1
    have n8 := ok.n8
    have hr1 := hr
    have plr : (D.tup (m.rows.map rowD)).pl = true := pls_map rowD_pl _
    refine w_cons (s_asg (we_ev (ev_var 0 rfl h1) fun v H1 s1 hv => g_pair (d1 := nI m.n) (d2 := .tup (m.rows.map rowD)) sc65.nd 1 2 hv fun vn vst hvn hst => ?_))
    have en := hvn.intI
    subst en
    refine w_cons (s_set sc65.nd 3 (ev_call R hr1 (ea_one (ev_var 0 rfl (h1.ex s1))) ⟨m, rfl, ok.up (by omega), rfl⟩) fun vf H2 s2 hvf => ?_)
    have hst2 := hst.ex s2
    obtain ⟨lt, nd⟩ := lr_ok ok m.rows.length
    have cl := lr_closed ok
    have lz := lr_zero (m := m)
    have ll := nd_len lt nd
    have hlt : ∀ s ∈ lReached m, s < m.rows.length := lt
    replace nd : (lReached m).Nodup := nd
    replace ll : (lReached m).length ≤ m.rows.length := ll
    clear lt
    generalize lReached m = L at *
    have order : ∀ {i : Nat} {d : D}, (L.map nI)[i]? = some d → ∃ t, L[i]? = some t ∧ d = nI t ∧ t ∈ L := fun {i d} h => by
      rw [List.getElem?_map] at h
      cases e : L[i]? with
      | none => rw [e] at h; cases h
      | some t => rw [e] at h; exact ⟨t, rfl, (Option.some.inj h).symm, List.mem_of_getElem? e⟩
    have s02 := s1.trans s2
    refine w_cons (s_setW sc65.nd 4 (we_dnew fun p hp => ?_))
    have tk : ∀ {i t : Nat}, L[i]? = some t → L.take (i + 1) = L.take i ++ [t] := fun {i t} e => by rw [List.take_succ, e]; rfl
    have fresh : ∀ {i t : Nat} (g : Nat → D), L[i]? = some t → hs ((L.take i).map fun s => (s, g s)) t = false := fun {i t} g e => by
      cases q : hs ((L.take i).map fun s => (s, g s)) t with
      | false => rfl
      | true =>
        exfalso
        have := hs_mem.mp q
        rw [List.map_map] at this
        have hm : t ∈ L.take i := by simpa [Function.comp_def] using this
        have nd2 : (L.take (i + 1)).Nodup := nd.sublist (List.take_sublist _ _)
        rw [tk e, List.nodup_append] at nd2
        exact nd2.2.2 t hm t (by simp) rfl
    -- the first names
    refine w_cons (s_for (wk_lstD (ds := L.map nI) (ev_var 3 rfl (hvf.ex (Same.new hp))) (pls_map nI_pl _)) fun H3 s3 => ⟨fun i σ' H' => ∃ (x5 : Option V), σ' = [some vm, some (.int (m.n : Nat)), some vst, some vf, some (.ref p), x5, none, none, none, none, none, none, none, none, none] ∧ Same H2 H' ∧ Tx K H3 H' ∧ LsX H3 H' ∧ Dk K H' p ((L.take i).map fun s => (s, nI (baseN m s))),
      ⟨none, rfl, (Same.new hp).trans s3, .refl, .refl, [], s3 _ _ upd_same, .nil⟩, ?_, ?_, ?_⟩)
    · rintro i σ' H' ⟨_, _, _, tx, ls, _⟩
      exact ⟨tx, ls⟩
    · rintro i d v σ' H4 H5 hd ⟨x5, rfl, s24, tx, ls, hDk⟩ s5 hv
      obtain ⟨t, e, rfl, ht⟩ := order hd
      have ev := hv.intI
      subst ev
      obtain ⟨r, hr0, hrok⟩ := ok.at (hlt t ht)
      refine g_name sc65.nd 5 ?_
      have hst5 := hst2.ex (s24.trans s5)
      have hrow : atI (m.rows.map rowD) ((t : Nat) : Int) = some (rowD r) := atI_nat (j := t) (by rw [List.getElem?_map, hr0]; rfl)
      refine w_one (s_dput hr (n := t) (d := nI (baseN m t)) (ev_if (t := r.isT) (et_tossC (ev_ixT (ev_var 2 rfl hst5) (ev_var 5 rfl (.int _)) hrow)) (fun q => ?_) fun q => ?_) (vv_var 4 rfl) (hDk.ex s5) (ev_var 5 rfl (.int _)) rfl (fun q hq => by
          obtain ⟨s, _, rfl⟩ := List.mem_map.mp hq
          rfl) (by rw [List.length_map, List.length_take]; omega) fun H6 m6 tx6 hD6 => ?_)
      · cases r with
        | out j => cases q
        | toss x y => exact Ev.cast ev_int (by simp [nI, baseN, hr0])
      · cases r with
        | toss x y => cases q
        | out j => exact Ev.cast (ev_add (i := 1) (j := (j : Int)) ev_int (ev_ixT (d := .int (j : Int)) (ev_ixT (d := rowD (.out j)) (ev_var 2 rfl hst5) (ev_var 5 rfl (.int _)) hrow) ev_int rfl)) (by simp [nI, baseN, hr0])
      · rw [pt_new (fresh _ e)] at hD6
        refine ⟨_, rfl, m6.same (s24.trans s5) hp, (tx.trans (Same.tx s5)).trans tx6, (ls.trans (Same.ls s5)).trans ?_, ?_⟩
        · obtain ⟨kv, z, _⟩ := hDk.ex s5
          exact m6.ls z
        · rw [tk e, List.map_append]
          exact hD6
    rintro σ' H4 ⟨x5, rfl, s24, tx, ls, hDk⟩
    rw [List.length_map, List.take_length] at hDk
    have hLt : Im K H4 (.ref p) (tabD L (baseN m)) := by rw [tabD_eq]; exact hDk.im
    clear hDk tx ls s3
    -- the rounds
    refine w_cons (s_for (wk_lstD (ds := L.map nI) (ev_var 3 rfl (hvf.ex s24)) (pls_map nI_pl _)) fun H5 s5 => ⟨fun i σ' H' => ∃ (f : Nat → Nat) (vl : V) (x5 x6 x7 x8 x9 : Option V), σ' = [some vm, some (.int (m.n : Nat)), some vst, some vf, some vl, x5, x6, x7, x8, x9, none, none, none, none, none] ∧ Same H5 H' ∧ Im K H' vl (tabD L f) ∧ RndN m L i f,
      ⟨_, _, _, _, _, _, _, rfl, Same.refl _, hLt.ex s5, .init⟩, fun _ _ _ q => ?_, ?_, ?_⟩)
    · obtain ⟨_, _, _, _, _, _, _, _, q, _⟩ := q
      exact ⟨Same.tx q, Same.ls q⟩
    · rintro i d v σ' H6 H7 hd ⟨f, vl, x5, x6, x7, x8, x9, rfl, s56, hvl, hR⟩ s7 hv
      refine g_name sc65.nd 6 ?_
      have hvl7 := hvl.ex s7
      refine w_cons (s_par2W sc65.nd 7 8 (wa_cons (we_tnew fun kk hkk => wa_cons (we_dnew fun nw hnw => wa_nil ⟨_, _, rfl, ?_⟩))))
      have s78 : Same H7 (upd H7 kk (.dT [])) := Same.new hkk
      have s8 : Same (upd H7 kk (.dT [])) (upd (upd H7 kk (.dT [])) nw (.dK [])) := Same.new hnw
      have hkN : kk ≠ nw := by
        rintro rfl
        rw [upd_same] at hnw; cases hnw
      have hD0 : Dt K (upd (upd H7 kk (.dT [])) nw (.dK [])) kk (KT (kys [])) := ⟨[], by rw [upd_ne hkN, upd_same], .nil⟩
      have hN0 : Dk K (upd (upd H7 kk (.dT [])) nw (.dK [])) nw [] := ⟨[], upd_same, .nil⟩
      have hnw7 : H7 nw = none := s78.free hnw
      have s9 := s78.trans s8
      generalize upd (upd H7 kk (.dT [])) nw (.dK []) = H9 at s9 hD0 hN0
      have s29 := ((s24.trans s5).trans s56).trans (s7.trans s9)
      refine w_cons (s_for (wk_lstD (ds := L.map nI) (ev_var 3 rfl (hvf.ex s29)) (pls_map nI_pl _)) fun H10 s10 => ⟨fun j σ' H' => ∃ (y5 y9 : Option V), σ' = [some vm, some (.int (m.n : Nat)), some vst, some vf, some vl, y5, some v, some (.ref kk), some (.ref nw), y9, none, none, none, none, none] ∧ Same H7 H' ∧ Tx K H10 H' ∧ LsX H10 H' ∧ Dt K H' kk (KT (kys ((L.take j).map (sgn m f)))) ∧ Dk K H' nw ((L.take j).map fun s => (s, nI ((kys (L.map (sgn m f))).idxOf (sgn m f s)))),
        ⟨x5, x9, rfl, s9.trans s10, .refl, .refl, hD0.ex s10, hN0.ex s10⟩, ?_, ?_, ?_⟩)
      · rintro i σ' H' ⟨_, _, _, _, tx, ls, _⟩
        exact ⟨tx, ls⟩
      · rintro j d v' σ' H11 H12 hd ⟨y5, y9, rfl, s711, tx, ls, hDt, hDn⟩ s12 hv'
        obtain ⟨t, e, rfl, ht⟩ := order hd
        have ev := hv'.intI
        subst ev
        obtain ⟨r, hr0, hrok⟩ := ok.at (hlt t ht)
        refine g_name sc65.nd 5 ?_
        have s712 := s711.trans s12
        have hst12 := hst2.ex (((s24.trans s5).trans s56).trans (s7.trans s712))
        have hvl12 := hvl7.ex s712
        have hrow : atI (m.rows.map rowD) ((t : Nat) : Int) = some (rowD r) := atI_nat (j := t) (by rw [List.getElem?_map, hr0]; rfl)
        have fl3 : (fols m f t).length ≤ 2 := by
          unfold fols
          rw [hr0]
          cases r <;> simp
        refine w_cons (s_set sc65.nd 9 (d := .key (consK (sgn m f t))) (Ev.cast (ev_catK (ks := [f t]) (js := fols m f t) (ev_key (ks := [f t]) (ea_one (ev_fol hr (ev_var 4 rfl hvl12) (ev_var 5 rfl (.int _)) ht))) (ev_keyL ft (el_ifE (t := r.isT) (et_tossC (ev_ixT (ev_var 2 rfl hst12) (ev_var 5 rfl (.int _)) hrow)) (fun q => ?_) fun q => ?_)) (by rw [sizeLine_eq]; simp; omega)) rfl) fun v9 H13 s13 hv9 => ?_)
        · cases r with
          | out j => cases q
          | toss x y =>
          obtain ⟨hx, hy⟩ := cl t ht x y hr0
          have ef : fols m f t = [f x, f y] := by simp [fols, hr0]
          rw [ef]
          refine EvL.cast (el_lc sc65 [("_law_to", 14)] (fun _ => true) (fun i => nI0 (f ([x, y].getD i 0))) (fun _ => rfl) (wk_tup (ev_sl1 (d := .str "toss") (ds := [nI x, nI y]) (ev_ixT (d := rowD (.toss x y)) (ev_var 2 rfl hst12) (ev_var 5 rfl (.int _)) hrow)) rfl) (fun H1 H2 s => Same.tx s) (by exact Nat.le_of_ble_eq_true rfl) ?_) rfl
          intro i d v H14 s14 hi hv
          obtain ⟨u, hu, rfl, hu2⟩ : ∃ u, u ∈ L ∧ d = nI u ∧ [x, y].getD i 0 = u := by
            match i, hi with
            | 0, hi => exact ⟨x, hx, (Option.some.inj hi).symm, rfl⟩
            | 1, hi => exact ⟨y, hy, (Option.some.inj hi).symm, rfl⟩
          have ev := hv.intI
          subst ev
          rw [hu2]
          refine ⟨_, fun Q2 q s H C cl fp => g_name sc65.nd 14 q, rfl, fun s H C cl fp => et_nil, fun _ s H C cl fp => ?_⟩
          exact ev_fol hr (ev_var 4 rfl (hvl12.ex s14)) (ev_var 14 rfl (.int _)) hu
        · cases r with
          | toss x y => cases q
          | out j =>
          have ef : fols m f t = [] := by simp [fols, hr0]
          rw [ef]
          exact el_lst ea_nil
        have hk1 : kys ((L.take (j + 1)).map (sgn m f)) = if sgn m f t ∈ kys ((L.take j).map (sgn m f)) then kys ((L.take j).map (sgn m f)) else kys ((L.take j).map (sgn m f)) ++ [sgn m f t] := by
          rw [tk e, List.map_append]
          exact kys_snoc _ _
        have klen : (kys ((L.take j).map (sgn m f))).length ≤ 100 := by
          have := kys_len ((L.take j).map (sgn m f))
          rw [List.length_map, List.length_take] at this
          omega
        have hDt13 := hDt.ex (s12.trans s13)
        have KTl : (KT (kys ((L.take j).map (sgn m f)))).length = (kys ((L.take j).map (sgn m f))).length := by simp [KT]
        refine w_cons (s_tput hr (ks := consK (sgn m f t)) (ev_tgetd hr (vv_var 7 rfl) hDt13 (ev_var 9 rfl hv9) (ev_tlen fl (vv_var 7 rfl) hDt13)) (vv_var 7 rfl) hDt13 (ev_var 9 rfl hv9) ?_ (KT_pl _) (by rw [KTl]; omega) fun H14 m14 tx14 hDt14 => ?_)
        · cases q : lk (KT (kys ((L.take j).map (sgn m f)))) (consK (sgn m f t)) with
          | none => rfl
          | some d => exact KT_pl _ _ (lk_memG q)
        have hDt14' : Dt K H14 kk (KT (kys ((L.take (j + 1)).map (sgn m f)))) := by
          rw [hk1, ← KT_put (kys_nd _)]
          rw [KTl] at hDt14
          exact hDt14
        clear hDt14
        have hmem : sgn m f t ∈ kys ((L.take (j + 1)).map (sgn m f)) := (kys_mem _ _).mpr (List.mem_map_of_mem (by rw [tk e]; simp))
        have hidx : (kys (L.map (sgn m f))).idxOf (sgn m f t) = (kys ((L.take (j + 1)).map (sgn m f))).idxOf (sgn m f t) := by
          obtain ⟨r', er⟩ := kys_pre ((L.take (j + 1)).map (sgn m f)) ((L.drop (j + 1)).map (sgn m f))
          rw [← List.map_append, List.take_append_drop] at er
          rw [er, List.idxOf_append, if_pos hmem]
        have hDn14 : Dk K H14 nw ((L.take j).map fun s => (s, nI ((kys (L.map (sgn m f))).idxOf (sgn m f s)))) := (hDn.ex (s12.trans s13)).mu (Ne.symm hkN) m14 tx14 (fun q hq => by
          obtain ⟨s, _, rfl⟩ := List.mem_map.mp hq
          rfl)
        obtain ⟨b9, eb9, hb9⟩ := hv9.keyI
        subst eb9
        have hv14 : Im K H14 (.ref b9) (.key (consK (sgn m f t))) := hv9.up tx14 rfl
        have pld : ∀ q ∈ (L.take j).map fun s => (s, nI ((kys (L.map (sgn m f))).idxOf (sgn m f s))), q.2.pl = true := fun q hq => by
          obtain ⟨s, _, rfl⟩ := List.mem_map.mp hq
          rfl
        refine w_one (s_dput hr (n := t) (d := nI ((kys (L.map (sgn m f))).idxOf (sgn m f t))) (ev_tget hr (ks := consK (sgn m f t)) (vv_var 7 rfl) hDt14' (ev_var 9 rfl hv14) (by rw [hidx]; exact lk_idx hmem)) (vv_var 8 rfl) hDn14 (ev_var 5 rfl (.int _)) rfl pld (by rw [List.length_map, List.length_take]; omega) fun H15 m15 tx15 hDn15 => ?_)
        rw [pt_new (fresh _ e)] at hDn15
        have s714 : Same H7 H14 := m14.same ((s711.trans s12).trans s13) hkk
        have s715 : Same H7 H15 := m15.same s714 hnw7
        have hLs14 : LsX H13 H14 := by
          obtain ⟨kv, z, _⟩ := hDt13
          exact fun a xs q => by
            have ne : a ≠ kk := by
              rintro rfl
              rcases q with q | ⟨_, q⟩ <;> rw [z] at q <;> cases q
            rcases q with q | ⟨o, q⟩
            · exact .inl (m14.at ne q)
            · exact .inr ⟨o, m14.at ne q⟩
        have hLs15 : LsX H14 H15 := by
          obtain ⟨kv, z, _⟩ := hDn14
          exact m15.ls z
        refine ⟨_, _, rfl, s715, ((tx.trans (Same.tx (s12.trans s13))).trans tx14).trans tx15, ((ls.trans (Same.ls (s12.trans s13))).trans hLs14).trans hLs15, hDt14'.mu hkN m15 tx15 (KT_pl _), ?_⟩
        rw [tk e, List.map_append]
        exact hDn15
      · rintro σ' H11 ⟨y5, y9, rfl, s711, tx, ls, hDt, hDn⟩
        rw [List.length_map, List.take_length] at hDn
        refine w_one (s_setW sc65.nd 4 ((vv_var 8 rfl) H11 (Same.refl _) _ fun H12 s12 => ?_))
        have hDn12 := hDn.ex s12
        refine ⟨_, _, _, _, _, _, _, rfl, (s56.trans s7).trans (s711.trans s12), ?_, .step hR (kys_nd _) (kys_mem _)⟩
        rw [tabD_eq]
        exact hDn12.im
    · rintro σ' H6 ⟨f, vl, x5, x6, x7, x8, x9, rfl, s56, hvl, hR⟩
      rw [List.length_map] at hR
      have k := k (mD (lfoldM m f L))
      replace k := fun v H' => k v H' ⟨f, hR, rfl⟩
      have s26 := (s24.trans s5).trans s56
      -- the first of each lot
      refine w_cons (s_par2W sc65.nd 10 11 (wa_cons (we_dnew fun fp hfp => wa_cons (we_evl (el_lst ea_nil) fun oq H8 hoq s8 hL8 => wa_nil ⟨_, _, rfl, ?_⟩))))
      have sfp : Same H6 (upd H6 fp (.dK [])) := Same.new hfp
      have hD8 : Dk K H8 fp [] := ⟨[], s8 _ _ upd_same, .nil⟩
      have nfq : fp ≠ oq := by
        rintro rfl
        rw [upd_same] at hoq; cases hoq
      have hoq6 : H6 oq = none := sfp.free hoq
      have s68 := sfp.trans s8
      have lfl : ∀ l : List Nat, (∀ s ∈ l, s ∈ L) → (lfirst f l).length ≤ l.length ∧ ∀ s ∈ lfirst f l, s ∈ L := fun l hl => ⟨lfirst_len f l, fun s hs => hl s ((lfirst_has f l).2 s hs)⟩
      refine w_cons (s_for (wk_lstS (vv_var 3 rfl) hvf (s26.trans s68)) fun H9 s9 => ⟨fun j σ' H' => ∃ (y5 : Option V), σ' = [some vm, some (.int (m.n : Nat)), some vst, some vf, some vl, y5, x6, x7, x8, x9, some (.ref fp), some (.ref oq), none, none, none] ∧ Same H6 H' ∧ Dk K H' fp (mv nI (tabN (lfirst f (L.take j)) f)) ∧ LsI K H' oq ((lfirst f (L.take j)).map nI),
        ⟨x5, rfl, s68.trans s9, hD8.ex s9, hL8.ex s9⟩, ?_, ?_, ?_⟩)
      · rintro i σ' H' ⟨_, _, s6', _⟩
        exact s26.trans s6'
      · rintro j d v σ' H10 H11 hd ⟨y5, rfl, s610, hDj, hLj⟩ s11 hv
        obtain ⟨t, e, rfl, ht⟩ := order hd
        have ev := hv.intI
        subst ev
        refine g_name sc65.nd 5 ?_
        have s611 := s610.trans s11
        have hvl11 := hvl.ex s611
        obtain ⟨o1, o2⟩ := lfl (L.take j) fun s hs => List.mem_of_mem_take hs
        have o3 : (L.take j).length ≤ L.length := by rw [List.length_take]; omega
        refine w_one (s_if (EvT.cast (et_notin hr (n := f t) (ev_fol hr (ev_var 4 rfl hvl11) (ev_var 5 rfl (.int _)) ht) (ev_var 10 rfl (hDj.ex s11).im)) (by rw [mv_hs, tabN_hs])) (fun q12 H12 s12 => ?_) fun q12 H12 s12 => w_nil ?_)
        · have hno : ((lfirst f (L.take j)).map f).contains (f t) = false := by simpa using q12
          have evi : lfirst f (L.take (j + 1)) = lfirst f (L.take j) ++ [t] := by
            rw [tk e, lfirst_snoc]
            unfold fvisit
            rw [if_neg (by rw [hno]; simp)]
          refine w_cons (s_dput hr (n := f t) (d := nI (lfirst f (L.take j)).length) (Ev.cast (ev_lenL fl (vv_var 11 rfl) ((hLj.ex s11).ex s12)) (by rw [List.length_map]; rfl)) (vv_var 10 rfl) ((hDj.ex s11).ex s12) (ev_fol hr (ev_var 4 rfl (hvl11.ex s12)) (ev_var 5 rfl (.int _)) ht) rfl (mv_pl nI_pl _) (by rw [mv_len]; simp [tabN]; omega) fun H13 m13 tx13 hD13 => ?_)
          rw [← mv_pt, pt_new (by rw [tabN_hs]; exact hno), ← tabN_snoc] at hD13
          have hL13 := ((hLj.ex s11).ex s12).mu (Ne.symm nfq) m13 tx13 (pls_map nI_pl _)
          have s613 := m13.same (s611.trans s12) hfp
          refine w_one (s_app (vv_var 11 rfl) hL13 (ev_var 5 rfl (.int _)) rfl (pls_map nI_pl _) (by rw [List.length_map]; omega) fun H14 m14 tx14 hL14 => ?_)
          refine ⟨_, rfl, m14.same s613 hoq6, ?_, ?_⟩
          · rw [evi]
            exact hD13.mu nfq m14 tx14 (mv_pl nI_pl _)
          · rw [evi, List.map_append]
            exact hL14
        · have hyes : ((lfirst f (L.take j)).map f).contains (f t) = true := by simpa using q12
          have evi : lfirst f (L.take (j + 1)) = lfirst f (L.take j) := by
            rw [tk e, lfirst_snoc]
            unfold fvisit
            rw [if_pos hyes]
          rw [← evi] at hDj hLj
          exact ⟨_, rfl, s611.trans s12, (hDj.ex s11).ex s12, (hLj.ex s11).ex s12⟩
      · rintro σ' H10 ⟨y5, rfl, s610, hDO, hLO⟩
        rw [List.length_map, List.take_length] at hDO hLO
        obtain ⟨o1, o2⟩ := lfl L fun s hs => hs
        have o3 := (lfirst_has f L).1
        have hO : lfoldM m f L = ⟨m.n, (lfirst f L).map (frow m f (lfirst f L))⟩ := rfl
        generalize lfirst f L = O at hDO hLO o1 o2 o3 hO
        -- the rows
        refine w_cons (s_setW sc65.nd 12 (we_evl (el_lst ea_nil) fun rq H11 hrq s11 hL11 => ?_))
        refine w_cons (s_for (wk_lstS (ds := O.map nI) (vv_var 11 rfl) hLO.im s11) fun H12 s12 => ⟨fun j σ' H' => ∃ (y5 y13 : Option V), σ' = [some vm, some (.int (m.n : Nat)), some vst, some vf, some vl, y5, x6, x7, x8, x9, some (.ref fp), some (.ref oq), some (.ref rq), y13, none] ∧ Same H10 H' ∧ LsI K H' rq ((O.take j).map fun s => rowD (frow m f O s)),
          ⟨_, _, rfl, s11.trans s12, hL11.ex s12⟩, ?_, ?_, ?_⟩)
        · rintro i σ' H' ⟨_, _, _, s', _⟩
          exact s'
        · rintro j d v σ' H13 H14 hd ⟨y5, y13, rfl, s1013, hLr⟩ s14 hv
          obtain ⟨t, e, rfl, htO⟩ : ∃ t, O[j]? = some t ∧ d = nI t ∧ t ∈ O := by
            rw [List.getElem?_map] at hd
            cases e : O[j]? with
            | none => rw [e] at hd; cases hd
            | some t => rw [e] at hd; exact ⟨t, rfl, (Option.some.inj hd).symm, List.mem_of_getElem? e⟩
          have ht := o2 t htO
          have ev := hv.intI
          subst ev
          have hjl := (List.getElem?_eq_some_iff.mp e).1
          obtain ⟨r, hr0, hrok⟩ := ok.at (hlt t ht)
          refine g_name sc65.nd 5 ?_
          have s1014 := s1013.trans s14
          have s614 := s610.trans s1014
          have hrow : atI (m.rows.map rowD) ((t : Nat) : Int) = some (rowD r) := atI_nat (j := t) (by rw [List.getElem?_map, hr0]; rfl)
          refine w_cons (s_set sc65.nd 13 (ev_ixT (d := rowD r) (ev_var 2 rfl (hst2.ex (s26.trans s614))) (ev_var 5 rfl (.int _)) hrow) fun v13 H15 s15 hv13 => ?_)
          have hvl15 := hvl.ex (s614.trans s15)
          have hD15 := hDO.ex (s1014.trans s15)
          have lt_ : ((O.take j).map fun s => rowD (frow m f O s)).length ≤ j := by rw [List.length_map]; exact List.length_take_le ..
          have tkO : O.take (j + 1) = O.take j ++ [t] := by rw [List.take_succ, e]; rfl
          refine w_one (s_app (d := rowD (frow m f O t)) (vv_var 12 rfl) ((hLr.ex s14).ex s15) (ev_if (et_outC (ev_var 13 rfl hv13)) (fun q => ?_) fun q => ?_) (rowD_pl _) (pls_map (fun _ => rowD_pl _) _) (by omega) fun H16 m16 tx16 hL16 => ?_)
          · cases r with
            | toss x y => cases q
            | out i =>
              rw [frow_out hr0]
              exact ev_var 13 rfl hv13
          · cases r with
            | out i => cases q
            | toss x y =>
              obtain ⟨hx, hy⟩ := cl t ht x y hr0
              rw [frow_toss hr0]
              exact ev_tup (ds := [.str "toss", nI ((O.map f).idxOf (f x)), nI ((O.map f).idxOf (f y))]) (ea_cons ev_str (ea_cons (ev_dget hr (n := f x) (d := nI ((O.map f).idxOf (f x))) (ev_var 10 rfl hD15.im) (ev_fol hr (ev_var 4 rfl hvl15) (ev_ixT (ds := [.str "toss", nI x, nI y]) (ev_var 13 rfl hv13) ev_int rfl) hx) (by rw [mv_lk, tabN_lk (o3 x hx)]; rfl))
                (ea_one (ev_dget hr (n := f y) (d := nI ((O.map f).idxOf (f y))) (ev_var 10 rfl hD15.im) (ev_fol hr (ev_var 4 rfl hvl15) (ev_ixT (ds := [.str "toss", nI x, nI y]) (ev_var 13 rfl hv13) ev_int rfl) hy) (by rw [mv_lk, tabN_lk (o3 y hy)]; rfl)))))
          · refine ⟨_, _, rfl, m16.same (s1014.trans s15) hrq, ?_⟩
            rw [tkO, List.map_append]
            exact hL16
        · rintro σ' H13 ⟨y5, y13, rfl, s1013, hLr⟩
          rw [List.length_map, List.take_length] at hLr
          refine w_one (s_ret (ev_tup (ea_cons (ev_var 1 rfl (.int _)) (ea_one (ev_tupleV ft (vv_var 12 rfl) hLr)))) fun v14 H14 s14 hv14 => k v14 H14 ((s02.trans s26).trans (s610.trans (s1013.trans s14))) ?_)
          rw [hO]
          have e2 : mD ⟨m.n, O.map (frow m f O)⟩ = .tup [.int (m.n : Nat), .tup (O.map fun s => rowD (frow m f O s))] := by
            unfold mD
            rw [List.map_map]; rfl
          rw [e2]
          exact hv14
end
end Dr
set_option Elab.async false
set_option linter.all false
set_option maxRecDepth 100000
set_option maxHeartbeats 4000000
set_option pp.deepTerms false
set_option pp.maxSteps 400
namespace Dr
open PySem PySem.Spec PyProof.Rows L2
section
variable {X : Cx} {σ : L2.St} {H H' : Hp} {a b c e e2 : Expr} {es rest : List Expr} {pos p1 p2 : Pos} {d d1 d2 : D} {ds : List D} {i j : Int} {Z : Ends} {k : Nat} {p q : Addr}
/-- tuple(e), e a list and may draw -/
theorem we_tupleW {Q : VK} {pn : Pos} (hm : X.mg "tuple" = none) (he0 : WE X e σ H fun v H1 => ∃ l ds, v = .ref l ∧ LsI X.K H1 l ds ∧ ∀ w H2, Same H1 H2 → Im X.K H2 w (.tup ds) → Q w H2) (hg : Gl X "tuple" := by rfl)
    (he : starEach [e] X.env = (false, eval e X.env) :: starEach [] X.env := by rfl) (hpl : (backTo pos (starEach [] X.env)).any (·.1) = false := by rfl) : WE X (.Call (.Name "tuple" pn) [e] [] pos) σ H Q :=
  .of (pe_callTy call_tuple_of hg hm PyProof.Rows.boot_tuple pa_W (by decide) (by decide) he hpl) (wa_cons (he0.mono fun v H1 ⟨l, ds, hv, ⟨xs, h1, h2⟩, q⟩ => wa_nil ⟨l, xs, by rw [hv], .inl ⟨.of h1, fun z hz => q _ _ (Same.new hz) (.tup (.of upd_same) (h2.ex (Same.new hz)))⟩⟩) he)
/-- t + u, the second may draw -/
theorem we_cat {Q : VK} (ha : WE X a σ H fun x H1 => WE X b σ H1 fun y H2 => ∃ ds es, Im X.K H2 x (.tup ds) ∧ Im X.K H2 y (.tup es) ∧ ds.length + es.length ≤ sizeLine ∧ ∀ z H3, Same H2 H3 → Im X.K H3 z (.tup (ds ++ es)) → Q z H3) : WE X (.BinOp a .Add b pos) σ H Q :=
  .of (pe_op op_catA pe_W pe_W) (ha.mono fun x H1 q1 => q1.mono fun y H2 ⟨ds, es, hx, hy, hl, q⟩ => by
    obtain ⟨p, xs, rfl, h1, h2⟩ := hx.tupI
    obtain ⟨r, ys, rfl, h3, h4⟩ := hy.tupI
    have l1 := h2.len
    have l2 := h4.len
    refine ⟨p, r, xs, ys, rfl, rfl, h1, h3, by omega, fun e => ?_, fun _ e => ?_, fun _ _ z hz => ?_⟩
    · subst e
      cases h2
      exact q _ H2 (Same.refl _) hy
    · subst e
      cases h4
      rw [List.append_nil] at q
      exact q _ H2 (Same.refl _) hx
    · exact q _ _ (Same.new hz) (.tup (.of upd_same) ((h2.app h4).ex (Same.new hz))))
/-- a, b, c = x, y, z by way of the tuple -/
theorem s_par3C {x y z : Str} {px py pz pt : Pos} {kt k2 : Nat} {pt2 : Pos} (nd : X.N.Nodup) (i j l : Nat) (h : WA X [a, b, c] σ H fun vs H1 => ∃ u v w, vs = [u, v, w] ∧ ∀ p, H1 p = none → Z.nx (((σ.set i (some u)).set j (some v)).set l (some w)) (upd H1 p (.tup [u, v, w])))
    (hc : X.calm = true := by rfl) (hi : X.N[i]? = some x := by rfl) (hj : X.N[j]? = some y := by rfl) (hl : X.N[l]? = some z := by rfl) (hx : Loc X.env.scope x := by first | exact .inl rfl | exact .inr rfl) (hy : Loc X.env.scope y := by first | exact .inl rfl | exact .inr rfl) (hz : Loc X.env.scope z := by first | exact .inl rfl | exact .inr rfl)
    (hf : X.fn x = true ∨ X.env.scope.names.lookup x = some .local := by first | exact .inl rfl | exact .inr rfl) (hf2 : X.fn y = true ∨ X.env.scope.names.lookup y = some .local := by first | exact .inl rfl | exact .inr rfl) (hf3 : X.fn z = true ∨ X.env.scope.names.lookup z = some .local := by first | exact .inl rfl | exact .inr rfl)
    (hs : (assignEach [.Name x px, .Name y py, .Name z pz] X.env).map (·.2) = assign (.Name x px) X.env :: (assignEach [.Name y py, .Name z pz] X.env).map (·.2) := by rfl) (hs2 : (assignEach [.Name y py, .Name z pz] X.env).map (·.2) = assign (.Name y py) X.env :: (assignEach [.Name z pz] X.env).map (·.2) := by rfl)
    (hs3 : (assignEach [.Name z pz] X.env).map (·.2) = assign (.Name z pz) X.env :: (assignEach [] X.env).map (·.2) := by rfl)
    (hn : (assignEach [.Name x px, .Name y py, .Name z pz] X.env).length = 3 := by rfl) (hst : (assignEach [.Name x px, .Name y py, .Name z pz] X.env).findIdx? (·.1) = none := by rfl)
    (hsw : swapsWithSole [.Tuple [.Name x px, .Name y py, .Name z pz] kt pt] (.Tuple [a, b, c] k2 pt2) pos.line X.env = pure false := by rfl) (hw : swappedStores [.Tuple [.Name x px, .Name y py, .Name z pz] kt pt] (.Tuple [a, b, c] k2 pt2) X.env = pure none := by rfl)
    (h1 : (assignEach [.Tuple [.Name x px, .Name y py, .Name z pz] kt pt] X.env).map (·.2) = [assign (.Tuple [.Name x px, .Name y py, .Name z pz] kt pt) X.env] := by rfl) : WS X (.Assign [.Tuple [.Name x px, .Name y py, .Name z pz] kt pt] (.Tuple [a, b, c] k2 pt2) pos) Z σ H := by
  obtain ⟨t, ht, q⟩ := h
  refine ⟨_, ps_asg (pe_tup (t := fun σ H Q => ∃ Q0 : List V → Hp → Prop, t σ H Q0 ∧ ∀ vs H1, Q0 vs H1 → Q vs H1) ⟨fun pos pins s σ H Q I ⟨Q0, h, hq⟩ => thn (ht.run pos pins s σ H Q0 I h) fun us s' ⟨vs, H', I', r, z⟩ => ⟨vs, H', I', r, hq _ _ z⟩⟩) (pg_tup hc (pgs_cons (pg_name nd hi hx hf) (pgs_cons (pg_name nd hj hy hf2) (pgs_cons (pg_name nd hl hz hf3) pgs_nil hs3) hs2) hs) hn hst) hsw hw h1, _, q, ?_⟩
  rintro vs H1 ⟨u, v, w, rfl, hq⟩
  exact ⟨by exact Nat.le_of_ble_eq_true rfl, fun p hp => ⟨p, [u, v, w], rfl, .of upd_same, rfl, _, _, rfl, _, _, rfl, _, _, rfl, rfl, hq p hp⟩⟩
/-- for .. in range(e), e may draw -/
theorem s_forRg {tg : Expr} {body : List Stmt} {pr pc : Pos} (hm : X.mg "range" = none) (he : WE X e σ H fun v H1 => ∃ (n : Nat) (Pv : Nat → L2.St → Hp → Prop), v = .int (n : Int) ∧ n ≤ 1000000 ∧ Pv 0 σ H1 ∧
      (∀ i σ' H', i < n → Pv i σ' H' → WG X tg (.int (i : Nat)) σ' H' fun σ2 H4 => WSs X body { Z with nx := Pv (i + 1), ct := Pv (i + 1), bk := Z.nx } σ2 H4) ∧ (∀ σ' H', Pv n σ' H' → Z.nx σ' H'))
    (hg : Gl X "range" := by rfl) (hsr : starEach [e] X.env = [(false, eval e X.env)] := by rfl)
    (hp : PassesOwn (model X.prog X.w) X.A X.env X.xe := by exact PassesOwn.never) (hc : X.calm = true := by rfl) (hs : ∀ x, foldedSetIterable (.Call (.Name "range" pr) [e] [] pc) X.env x = pure x := by intro _; rfl) : WS X (.For tg (.Call (.Name "range" pr) [e] [] pc) body [] pos) Z σ H :=
  ⟨_, ps_for hp hc (pi_range1 hg hm pa_W hsr) pg_W pss_W hs, wa_cons (he.mono fun v H1 ⟨n, Pv, ev, hn, h0, hb, hd⟩ => wa_nil ⟨(n : Int), by rw [ev], by omega, by omega, by
    rw [Int.toNat_natCast]
    refine ⟨fun i m σ' H' => m = n - i ∧ i ≤ n ∧ Pv i σ' H', ⟨_, rfl, Nat.zero_le _, h0⟩, ?_⟩
    rintro i m σ' H' ⟨rfl, hi, p⟩
    by_cases hlt : i < n
    · refine .inr ⟨hlt, Pv (i + 1), fun σ2 H2 p2 => ⟨n - (i + 1), by omega, rfl, hlt, p2⟩, fun x H2 y => ?_⟩
      obtain ⟨rfl, rfl⟩ := y
      have := hb i σ' H2 hlt p
      simpa using this
    · have e : i = n := by omega
      subst e
      exact .inl ⟨Nat.le_refl _, hd σ' H' p⟩⟩) hsr⟩
/-- list(range(1, n)) -/
def natL (lo n : Nat) : List D := (List.range n).map fun i => nI (lo + i)
theorem el_listRg {n : Nat} {pn pr pc : Pos} (hl : X.mg "list" = none) (hm : X.mg "range" = none) (hb : Ev X b σ H (.int ((n + 1 : Nat) : Int))) (hn : n ≤ 10000) {kk : Nat} (hg : Gl X "list" := by rfl) (hg2 : Gl X "range" := by rfl) (hc : X.calm = true := by rfl)
    (na : starEach [.Constant (.int 1) kk p1, b] X.env = (false, eval (.Constant (.int 1) kk p1) X.env) :: starEach [b] X.env := by rfl) (nb : starEach [b] X.env = (false, eval b X.env) :: starEach [] X.env := by rfl) (hp : (backTo pc (starEach [b] X.env)).any (·.1) = false := by rfl)
    (ne : starEach [.Call (.Name "range" pr) [.Constant (.int 1) kk p1, b] [] pc] X.env = (false, eval (.Call (.Name "range" pr) [.Constant (.int 1) kk p1, b] [] pc) X.env) :: starEach [] X.env := by rfl) :
    EvL X (.Call (.Name "list" pn) [.Call (.Name "range" pr) [.Constant (.int 1) kk p1, b] [] pc] [] pos) σ H (natL 1 n) := fun H1 s Q q =>
  .of (pe_listRg hc hg hl (prg_2 hg2 hm pe_W pe_W na nb hp) ne) (ev_int.int H1 (Same.refl _) _ fun H2 s2 => hb.int H2 (s.trans s2) _ fun H3 s3 => ⟨1, ((n + 1 : Nat) : Int), rfl, rfl, RgOk.of_le (by omega) (by omega) (by omega) (by omega), fun z hz => by
    refine q z _ _ ((s2.trans s3).free hz) ((s2.trans s3).trans (Same.new hz)) upd_same ?_
    have e1 : rgV 1 ((n + 1 : Nat) : Int) = ((List.range n).map fun i : Nat => (1 : Int) + (i : Nat)).map V.int := by
      unfold rgV
      rw [show (((n + 1 : Nat) : Int) - 1).toNat = n by omega, List.map_map]
      rfl
    have e2 : natL 1 n = ((List.range n).map fun i : Nat => (1 : Int) + (i : Nat)).map D.int := by
      unfold natL
      rw [List.map_map]
      refine List.map_congr_left fun i _ => ?_
      show D.int (((1 + i : Nat)) : Int) = D.int (1 + (i : Int))
      congr 1
    rw [e1, e2]
    exact ims_ints _⟩)
/-- l.pop(e), e may draw -/
theorem we_popD {Q : VK} {l : Addr} {apos cpos : Pos} (ha : EvV X a σ H (.ref l)) (hl : ∃ ds0, LsI X.K H l ds0)
    (he : ∀ H1, Same H H1 → WE X e σ H1 fun v H2 => ∃ (ds : List D) (j : Nat) (d : D), v = .int (j : Nat) ∧ LsI X.K H2 l ds ∧ D.pls ds = true ∧ j < 100000 ∧ ds[j]? = some d ∧ ∀ w H3, Mu l H2 H3 → Tx X.K H2 H3 → LsI X.K H3 l (ds.eraseIdx j) → Im X.K H3 w d → Q w H3)
    (hbase : attributeBase a "pop" X.env (eval a X.env) = eval a X.env := by rfl)
    (hfew : ((backTo cpos (starEach [e] X.env)).all (fun x => !x.1) && (backToKw cpos (keywordEach [] X.env)).all (fun x => x.1.isSome)
      && decide (([e]).length + ([] : List Keyword).length + (if ([] : List Keyword).isEmpty then 0 else 1) < 30)) = true := by rfl)
    (hline : (apos.endLine == cpos.line) = true := by rfl) (hs : starEach [e] X.env = (false, eval e X.env) :: starEach [] X.env := by rfl) (hplain : (backTo cpos (starEach [] X.env)).any (·.1) = false := by rfl) : WE X (.Call (.Attribute a "pop" apos) [e] [] cpos) σ H Q := by
  obtain ⟨ds0, xs0, h1, _⟩ := hl
  refine .of (pe_bm PySem.F.plainAttrs_list PySem.F.slot_list_pop PySem.F.type_list_pop (r := rPopAt) mt_popAt pe_W pa_W hbase hfew hline hs hplain) (ha H (Same.refl _) _ fun H1 s1 => ⟨.inl ⟨rfl, xs0, .inl (.of (s1 _ _ h1))⟩, wa_cons ((he H1 s1).mono fun v H2 q => wa_nil ?_) hs⟩)
  obtain ⟨ds, j, d, rfl, ⟨xs, h3, h4⟩, hds, hj, hd, q⟩ := q
  obtain ⟨w, hw1, hw2⟩ := h4.at_ hd
  have hlt := (List.getElem?_eq_some_iff.mp hw1).1
  have hpl := pls_mem hds d (List.mem_of_getElem? hd)
  have t : Tx X.K H2 (upd H2 l (.lst (xs.eraseIdx j))) := Tx.put h3 trivial
  refine ⟨l, xs, _, j, w, rfl, rfl, h3, by omega, by omega, ?_, hw1, q w _ ?_ t ⟨_, upd_same, ?_⟩ (hw2.up t hpl)⟩
  · unfold seqIndex?
    have hneg : ¬ ((j : Int) < 0) := by omega
    simp [hneg, hlt]
  · unfold Mu
    rw [rm_upd]
    exact Same.refl _
  · have erase : ∀ (xs : List V) (ds : List D) (j : Nat), Ims X.K H2 xs ds → Ims X.K H2 (xs.eraseIdx j) (ds.eraseIdx j) := by
      intro xs ds j h
      rw [List.eraseIdx_eq_take_drop_succ, List.eraseIdx_eq_take_drop_succ]
      exact (h.take j).app (h.drop (j + 1))
    refine (erase _ _ j h4).up t (pls_all fun z m => pls_mem hds z (List.mem_of_mem_eraseIdx m))
/-- l[b] = e -/
theorem s_setIx {p : Addr} {n : Nat} (he : Ev X e σ H d) (ha : EvV X a σ H (.ref p)) (hp : LsI X.K H p ds) (hb : Ev X b σ H (.int (n : Int))) (hn : n < ds.length) (hpl : d.pl = true) (hds : D.pls ds = true)
    (h : ∀ H', Mu p H H' → Tx X.K H H' → LsI X.K H' p (ds.set n d) → Z.nx σ H')
    (hst : ∀ v, assign (.Subscript a b p1) X.env v = (do
      let ov ← holding [v] (eval a X.env)
      let iv ← holding [v, ov] (eval b X.env)
      standAt p1
      holding [v, ov, iv] (setItem ov iv v)
      release [v, ov, iv] []) := by intro _; rfl)
    (hs : swapsWithSole [.Subscript a b p1] e pos.line X.env = pure false := by rfl) (hw : swappedStores [.Subscript a b p1] e X.env = pure none := by rfl)
    (h1 : (assignEach [.Subscript a b p1] X.env).map (·.2) = [assign (.Subscript a b p1) X.env] := by rfl) : WS X (.Assign [.Subscript a b p1] e pos) Z σ H :=
  ⟨_, ps_asg pe_W (pg_sub pe_W pe_W set_list hst) hs hw h1, he H (Same.refl _) _ fun v H1 s1 hv => ha H1 s1 _ fun H2 s2 => hb.int H2 (s1.trans s2) _ fun H3 s3 => by
    have s := (s1.trans s2).trans s3
    obtain ⟨xs, h2, h3⟩ := hp.ex s
    have hlt : n < xs.length := by rw [h3.len]; exact hn
    have t : Tx X.K H3 (upd H3 p (.lst (xs.set n v))) := Tx.put h2 trivial
    refine ⟨p, xs, (n : Int), n, rfl, rfl, h2, ?_, h _ ?_ ((Same.tx s).trans t) ⟨_, upd_same, ?_⟩⟩
    · unfold ixN
      rw [if_pos (by omega), if_pos (by omega), Int.toNat_natCast]
    · unfold Mu
      rw [rm_upd]
      exact rm_same s
    · refine (Ims.set (hv.ex (s2.trans s3)) n h3).up t (pls_all fun z m => ?_)
      rcases List.mem_or_eq_of_mem_set m with m | m
      · exact pls_mem hds z m
      · rw [m]; exact hpl⟩
/-- a list comprehension without tests whose items draw -/
theorem we_lcD {Q : VK} {tg iter elt : Expr} {scope : Scope} {N : Hp → Hp → Prop} {Ns ps : List Str} {sc : Scope} (S : FnScope Ns ps sc) (own : List (Str × Nat)) (hD : Dck H p q) (h : Wk X tg iter σ H ds N) (hN : ∀ H1 H2, Dm X.K p q H1 H2 → N H1 H2) (hz : ds.length ≤ 100000)
    (G : Nat → D → Prop) (hG : ∀ i d, G i d → d.pl = true)
    (turn : ∀ i d v H1, Dm X.K p q H H1 → Dck H1 p q → ds[i]? = some d → Im X.K H1 v d → ∃ σ2, (∀ Q2 : L2.St → Hp → Prop, Q2 σ2 H1 → Bk X scope fun Y => WG Y tg v (wipe σ (own.map (·.2))) H1 Q2) ∧ wipe σ2 (own.map (·.2)) = wipe σ (own.map (·.2)) ∧
      (Bk X scope fun Y => ∀ Q2 : VK, (∀ d' v' H2, G i d' → Dm X.K p q H1 H2 → Dck H2 p q → Im X.K H2 v' d' → Q2 v' H2) → WE Y elt σ2 H1 Q2))
    (k : ∀ l es H2, H l = none → Dm X.K p q H H2 → Dck H2 p q → LsI X.K H2 l es → es.length = ds.length → (∀ i d, es[i]? = some d → G i d) → Q (.ref l) H2)
    (hNs : X.N = Ns := by rfl) (hsc : X.env.scope = sc := by rfl) (ok : blkC Ns sc scope own = true := by decide +kernel) (hc : X.calm = true := by rfl) (hs : ∀ x, foldedSetIterable iter X.env x = pure x := by intro _; rfl) : WE X (.ListComp elt [⟨tg, iter, [], 0⟩] scope pos) σ H Q := by
  have hN' : X.N.Nodup := by rw [hNs]; exact S.nd
  have ok : BlkOk X.N X.env.scope scope own := by rw [hNs, hsc]; exact blkOk_by ok
  refine .of (pe_lc (own := own) (g := GB X scope tg) (tt := TB X scope []) (te := EB X scope elt) hc hN' pi_W ok
    (fun s H C cl fp => ⟨fun pins s' σ1 H1 v u Q I r z => (pg_W).run pins s' σ1 H1 v u Q I r (z s H C cl fp)⟩) (fun s H C cl fp => ⟨fun pins s' σ1 H1 Q I z => (pts_W).run pins s' σ1 H1 Q I (z s H C cl fp)⟩)
    (fun s H C cl fp => ⟨fun pins s' σ1 H1 Q I z => (pe_W).run pins s' σ1 H1 Q I (z s H C cl fp)⟩) hs) (h H (Same.refl _) _ fun J H2 F s2 row st => ?_)
  intro l hl
  have hl0 : H l = none := s2.free hl
  have ne1 := hD.ne1 hl0
  have ne2 := hD.ne2 hl0
  have muN : ∀ {H3 : Hp} {xs : List V} {o : HO}, H3 l = some (.lst xs) → Mu l H3 (upd H3 l o) ∧ Tx X.K H3 (upd H3 l o) := fun {H3 xs o} z => ⟨by unfold Mu; rw [rm_upd]; exact Same.refl _, Tx.put z trivial⟩
  refine ⟨fun i m H' => m = ds.length - i ∧ i ≤ ds.length ∧ Dm X.K p q H2 H' ∧ Dck H' p q ∧ ∃ acc es, H' l = some (.lst acc) ∧ Ims X.K H' acc es ∧ es.length = i ∧ ∀ i d, es[i]? = some d → G i d, ⟨_, rfl, Nat.zero_le _, Dm.of (Same.new hl), (hD.ex s2).ex (Same.new hl), [], [], upd_same, .nil, rfl, fun i d e => by simp at e⟩, ?_⟩
  rintro i m H3 ⟨rfl, hi, m3, hD3, acc, es, hA, hacc, hlen, hes⟩
  have gg := st H3 (hN _ _ m3)
  by_cases hlt : i < ds.length
  · refine .inr ⟨row.goes i H3 hlt gg, _, fun H' z => ⟨ds.length - (i + 1), by omega, rfl, hlt, z⟩, fun x H4 y => ?_⟩
    obtain ⟨s4, d, hd1, hd2⟩ := row.yields i H3 x H4 hlt gg y
    have m04 : Dm X.K p q H H4 := ((Dm.of s2).trans m3).trans (Dm.of s4)
    obtain ⟨σ2, t1, t2, t3⟩ := turn i d x H4 m04 (hD3.ex s4) hd1 hd2
    refine t1 _ ⟨t2, fun s H C cl fp => ⟨_, pts_nil, ?_⟩⟩
    unfold tYes
    dsimp only
    rw [if_pos (rfl : true = true)]
    intro s H C cl fp
    refine t3 s H C cl fp _ fun d' v' H6 hG' m6 hD6 hv => ?_
    have hA6 : H6 l = some (.lst acc) := m6.at' _ _ (Ne.symm ne1) (Ne.symm ne2) (s4 _ _ hA)
    have pes : D.pls es = true := pls_all fun z hz => by
      obtain ⟨n, hn⟩ := List.mem_iff_getElem?.mp hz
      exact hG n z (hes n z hn)
    have hacc6 := (hacc.ex s4).up m6.tx pes
    obtain ⟨mu, tx⟩ := muN (o := .lst (acc ++ [v'])) hA6
    refine ⟨acc, hA6, by rw [hacc.len, hlen, sizeLine_eq]; omega, ?_, hD6.mu mu ne1 ne2, acc ++ [v'], es ++ [d'], upd_same, ?_, by simp [hlen], ?_⟩
    · exact ((m3.trans (Dm.of s4)).trans m6).mu hl mu tx
    · refine (hacc6.app (.cons hv .nil)).up tx (pls_all fun z m => ?_)
      rcases List.mem_append.mp m with m | m
      · exact pls_mem pes z m
      · rw [List.mem_singleton.mp m]; exact hG _ _ hG'
    · intro n z hz
      by_cases hn : n < es.length
      · rw [List.getElem?_append_left hn] at hz
        exact hes n z hz
      · rw [List.getElem?_append_right (by omega)] at hz
        have h0 : n - es.length = 0 := by
          have := (List.getElem?_eq_some_iff.mp hz).1
          simp at this
          omega
        rw [h0] at hz
        have : n = i := by omega
        subst this
        obtain rfl := Option.some.inj hz
        exact hG'
  · have e : i = ds.length := by omega
    subst e
    exact .inl ⟨row.stops H3 gg, k l es H3 hl0 ((Dm.of s2).trans m3) hD3 ⟨acc, hA, hacc⟩ hlen hes⟩
end
section
variable {K : PySem.W.Frag} {p q l : Addr} {H H1 H2 : Hp}
theorem Dm.nn (m : Dm K p q H H1) (h : H1 l = none) (n1 : p ≠ l) (n2 : q ≠ l) : H l = none := by
  cases e : H l with
  | none => rfl
  | some u =>
    have := m.at' l u (Ne.symm n1) (Ne.symm n2) e
    rw [h] at this; cases this
theorem Dm.fresh (m : Dm K p q H H1) (hD : Dck H1 p q) (h : H1 l = none) : H l = none ∧ p ≠ l ∧ q ≠ l := ⟨m.nn h (hD.ne1 h) (hD.ne2 h), hD.ne1 h, hD.ne2 h⟩
end
end Dr
set_option Elab.async false
set_option linter.all false
set_option maxRecDepth 100000
set_option maxHeartbeats 4000000
set_option pp.deepTerms false
set_option pp.maxSteps 400
namespace Dr
open PySem PySem.Spec PyProof.Rows L2
theorem Rw.ok.up {r : Rw} {n k k' : Nat} (h : r.ok n k) (hk : k ≤ k') : r.ok n k' := by
  cases r with
  | out i => exact h
  | toss x y => exact ⟨Nat.lt_of_lt_of_le h.1 hk, Nat.lt_of_lt_of_le h.2 hk⟩
theorem rows_of {n k : Nat} : ∀ {ds : List D}, (∀ d ∈ ds, ∃ r, d = rowD r ∧ r.ok n k) → ∃ rows : List Rw, ds = rows.map rowD ∧ ∀ r ∈ rows, r.ok n k
  | [], _ => ⟨[], rfl, fun r hr => nomatch hr⟩
  | d :: ds, h => by
    obtain ⟨r, e, hr⟩ := h d (List.mem_cons_self ..)
    obtain ⟨rows, e2, hrows⟩ := rows_of fun d' hd' => h d' (List.mem_cons_of_mem _ hd')
    refine ⟨r :: rows, by rw [List.map_cons, e, e2], fun r' hr' => ?_⟩
    rcases List.mem_cons.mp hr' with rfl | m
    · exact hr
    · exact hrows r' m
theorem er_map (f : Nat → D) (l : List Nat) (b : Nat) : (l.map f).eraseIdx b = (l.eraseIdx b).map f := by
  simp [List.eraseIdx_eq_take_drop_succ, List.map_take, List.map_drop]
theorem er_perm : ∀ (l : List Nat) (b : Nat) (h : b < l.length), ([l[b]] ++ l.eraseIdx b).Perm l
  | a :: l, 0, _ => List.Perm.refl _
  | a :: l, b + 1, h => by
    have h' : b < l.length := by simpa using h
    have ih := er_perm l b h'
    show (l[b] :: a :: l.eraseIdx b).Perm (a :: l)
    exact (List.Perm.swap a l[b] _).trans (List.Perm.cons a ih)
theorem flat_rep (n : Nat) : (List.replicate n [D.non]).flatten = List.replicate n D.non := by
  induction n with
  | zero => rfl
  | succ n ih => rw [List.replicate_succ, List.flatten_cons, ih]; rfl
section
variable {P : Program} {w : World} {K : PySem.W.Frag} {mg : Str → Option Value} {base : Heap}
def preGrow (ds : List D) : Prop := ∃ m : Mc, ds = [mD m] ∧ m.Ok 12
def postGrow (ds : List D) (d : D) : Prop := ∀ m : Mc, ds = [mD m] → ∃ m' : Mc, d = mD m' ∧ m'.Ok 15 ∧ m'.n = m.n
theorem sc66 : FnScope ["_law_deck_here", "_law_machine_here", "_law_n", "_law_standings", "_law_go", "_law_at", "_law_many", "_law_rows", "_law_row", "_law_left", "_law_names", "_law_turn", "_law_place", "_law_to"] ["_law_deck_here", "_law_machine_here"] (defScope (top 66)) := ⟨rfl, rfl, rfl, by decide +kernel, rfl, by decide +kernel, by decide +kernel⟩
theorem pr_grow (T : Txt K mg) (F : Pr P w K mg base "_law_draw" 1 ["_law_deck_here", "_law_many"] (spDk K preDraw postDraw)) : Pr P w K mg base "_law_grown" 2 ["_law_deck_here", "_law_machine_here"] (spDk K preGrow postGrow) := by
  have fl := T.free "len" (by decide)
  have fr := T.free "range" (by decide)
  have ft := T.free "tuple" (by decide)
  have fli := T.free "list" (by decide)
  have fe := T.free "enumerate" (by decide)
  refine mk_pr T 48 rfl sc66 (fun _ _ _ _ _ _ us hl => match us, hl with | [_, _], _ => rfl) (fun vs H Q E h => ?_) (fun cdv A outer s H vs Q E hr h => ?_)
  · obtain ⟨p, q, vs', ds, rfl, _, ⟨m, rfl, _⟩, hI, _⟩ := h
    simpa using hI.len
  · obtain ⟨p, q, vs', ds, rfl, hD, ⟨m, rfl, ok⟩, hI, k⟩ := h
    cases hI with
    | @cons v1 _ _ _ h2 hI =>
    cases hI
    have n1 := ok.n1
    have n8 := ok.n8
    have mpos := ok.pos
    have mle := ok.le
    have hr1 := hr
    have plr : ∀ rows : List Rw, (D.tup (rows.map rowD)).pl = true := fun rows => pls_map rowD_pl _
    refine w_cons (s_asg (we_ev (ev_var 1 rfl h2) fun v H1 s1 hv => g_pair (d1 := nI m.n) (d2 := .tup (m.rows.map rowD)) sc66.nd 2 3 hv fun v2 v3 hv2 hv3 => ?_))
    have e2 := hv2.intI
    subst e2
    -- the rounds
    refine w_cut (fun σ' H' => ∃ (vst : V) (rows : List Rw) (x4 x5 x6 x7 x8 : Option V), σ' = [some (.ref p), some v1, some (.int (m.n : Nat)), some vst, x4, x5, x6, x7, x8, none, none, none, none, none] ∧ Dm K p q H H' ∧ Dck H' p q ∧ Im K H' vst (.tup (rows.map rowD)) ∧ 1 ≤ rows.length ∧ rows.length ≤ 15 ∧ ∀ r ∈ rows, r.ok m.n rows.length) ?_ ?_
    · refine s_forRg fr (we_add (i := 1) ev_int fun H2 s2 => we_draw (n := 3) F hr1 (vv_var 0 rfl) (hD.ex (s1.trans s2)) ev_int (by decide) (by decide) fun rr H3 hr3 m3 hD3 => ⟨rr, rfl, 1 + rr, fun i σ' H' => ∃ (vst : V) (rows : List Rw) (x4 x5 x6 x7 x8 : Option V), σ' = [some (.ref p), some v1, some (.int (m.n : Nat)), some vst, x4, x5, x6, x7, x8, none, none, none, none, none] ∧ Dm K p q H H' ∧ Dck H' p q ∧ Im K H' vst (.tup (rows.map rowD)) ∧ rows.length = m.rows.length + i ∧ ∀ r ∈ rows, r.ok m.n rows.length,
        by simp, by omega, ⟨v3, m.rows, _, _, _, _, _, rfl, ((Dm.of (s1.trans s2)).trans m3), hD3, (hv3.ex s2).up m3.tx (plr _), rfl, ok.row⟩, ?_, ?_⟩)
      · rintro i σ' H4 hi ⟨vst, rows, x4, x5, x6, x7, x8, rfl, m4, hD4, hst, hlen, hok⟩
        refine g_name sc66.nd 4 ?_
        refine w_cons (s_par3C sc66.nd 5 6 7 (wa_cons (we_draw (n := rows.length) F hr1 (vv_var 0 rfl) hD4 (Ev.cast (ev_lenT fl (ea_one (ev_var 3 rfl hst))) (by rw [List.length_map])) (by omega) (by omega) fun a H5 ha m5 hD5 => wa_cons (we_ev (Ev.cast (ev_lenT fl (ea_one (ev_var 3 rfl (hst.up m5.tx (plr _))))) (by rw [List.length_map])) fun v6 H6 s6 hv6 => wa_cons (we_evl (el_lst ea_nil) fun l H7 hl7 s7 hL7 => wa_nil ⟨_, _, _, rfl, fun t ht => ?_⟩)))))
        have e6 := hv6.intI
        subst e6
        have st := Same.new (o := .tup [V.int (a : Nat), .int (rows.length : Nat), .ref l]) ht
        generalize upd H7 t (.tup [V.int (a : Nat), .int (rows.length : Nat), .ref l]) = H8 at st
        have m8 : Dm K p q H H8 := (m4.trans m5).trans (Dm.of ((s6.trans s7).trans st))
        have hD8 := hD5.ex ((s6.trans s7).trans st)
        have hst8 := (hst.up m5.tx (plr _)).ex ((s6.trans s7).trans st)
        have hL8 : LsI K H8 l [] := hL7.ex st
        obtain ⟨hl0, nep, neq⟩ := ((m4.trans m5).trans (Dm.of s6)).fresh (hD5.ex s6) hl7
        clear hv6 hL7 ht hl7 st s7 s6 hD5 m5 hst hD4 m4
        obtain ⟨ra, hra⟩ : ∃ ra, rows[a]? = some ra := ⟨rows[a], List.getElem?_eq_getElem ha⟩
        -- the standings told anew
        refine w_cons (s_for (wk_tup (ev_var 3 rfl hst8) (plr rows)) fun H9 s9 => ⟨fun j σ' H' => ∃ (rows' : List Rw) (x8 : Option V), σ' = [some (.ref p), some v1, some (.int (m.n : Nat)), some vst, some (.int (i : Nat)), some (.int (a : Nat)), some (.int (rows.length : Nat)), some (.ref l), x8, none, none, none, none, none] ∧ Dm K p q H H' ∧ Tx K H9 H' ∧ Dck H' p q ∧ LsI K H' l (rows'.map rowD) ∧ rows'.length = j ∧ ∀ r ∈ rows', r.ok m.n (rows.length + 1),
          ⟨[], _, rfl, m8.trans (Dm.of s9), .refl, hD8.ex s9, hL8.ex s9, rfl, fun r hr => nomatch hr⟩, ?_, ?_, ?_⟩)
        · rintro _ _ _ ⟨_, _, _, _, tx, _⟩
          exact tx
        · rintro j d v σ' H10 H11 hj ⟨rows', x8, rfl, m10, tx10, hD10, hL10, hlen', hok'⟩ s11 hv
          rw [List.getElem?_map] at hj
          obtain ⟨r, hr0, rfl⟩ := Option.map_eq_some_iff.mp hj
          have hjl := (List.getElem?_eq_some_iff.mp hr0).1
          have hrok := hok r (List.mem_of_getElem? hr0)
          refine g_name sc66.nd 8 ?_
          refine w_cut (fun σ' H' => ∃ (v' : V) (r' : Rw), σ' = [some (.ref p), some v1, some (.int (m.n : Nat)), some vst, some (.int (i : Nat)), some (.int (a : Nat)), some (.int (rows.length : Nat)), some (.ref l), some v', none, none, none, none, none] ∧ Dm K p q H11 H' ∧ Dck H' p q ∧ Im K H' v' (rowD r') ∧ r'.ok m.n (rows.length + 1)) ?_ ?_
          · refine s_if (et_tossC (ev_var 8 rfl hv)) (fun tr H12 s12 => ?_) fun _ H12 s12 => w_nil ⟨v, r, rfl, Dm.of s12, (hD10.ex s11).ex s12, hv.ex s12, hrok.up (by omega)⟩
            cases r with
            | out o => cases tr
            | toss x y =>
            obtain ⟨hx, hy⟩ := hrok
            have hD12 := (hD10.ex s11).ex s12
            have hv12 := hv.ex s12
            refine w_one (s_setW sc66.nd 8 (we_cat (we_ev (ev_slHi (ds := rowL (.toss x y)) (i := 1) (ev_var 8 rfl hv12) ev_int) fun v13 H13 s13 hv13 => we_tupleW ft (we_lcD sc66 [("_law_to", 13)] (hD12.ex s13) (wk_tup (ev_sl1 (d := .str "toss") (ds := [nI x, nI y]) (ev_var 8 rfl (hv12.ex s13))) rfl) (fun H1 H2 m => m.tx) (by exact Nat.le_of_ble_eq_true rfl)
              (fun _ d => ∃ t : Nat, t < rows.length + 1 ∧ d = nI t) (fun _ d ⟨t, _, e⟩ => by rw [e]; rfl) (fun i' d' v' H14 m14 hD14 hi' hv' => ?_) fun l2 es H14 hl2 m14 hD14 hLs hes1 hes2 => ⟨l2, es, rfl, hLs, fun w H15 s15 hw => ⟨_, es, (hv13.up m14.tx rfl).ex s15, hw, ?_, fun z H16 s16 hz => ?_⟩⟩))))
            · obtain ⟨u, hu, rfl⟩ : ∃ u, u < rows.length ∧ d' = nI u := by
                match i', hi' with
                | 0, hi => exact ⟨x, hx, (Option.some.inj hi).symm⟩
                | 1, hi => exact ⟨y, hy, (Option.some.inj hi).symm⟩
              have ev := hv'.intI
              subst ev
              refine ⟨_, fun Q2 q s H C cl fp => g_name sc66.nd 13 q, rfl, fun s H C cl fp Q2 q2 => ?_⟩
              have fin : ∀ (t : Bool) (H17 : Hp), Dm K p q H14 H17 → Dck H17 p q → ∀ v, Im K H17 v (nI (if t = true then rows.length else u)) → Q2 v H17 := fun t H17 m17 hD17 v hv => q2 _ v H17 ⟨_, by split <;> omega, rfl⟩ m17 hD17 hv
              refine we_ifW (WT.mono (Q := fun t H17 => Dm K p q H14 H17 ∧ Dck H17 p q) ?_ fun t H17 ⟨m17, hD17⟩ => ⟨fun et => we_ev (ev_var 6 rfl (.int _)) fun v H18 s18 hv => fin true H18 (m17.trans (Dm.of s18)) (hD17.ex s18) v hv, fun et => we_ev (ev_var 13 rfl (.int _)) fun v H18 s18 hv => fin false H18 (m17.trans (Dm.of s18)) (hD17.ex s18) v hv⟩)
              exact wt_ww (ww_and (wt_ev (et_eqI (i := (u : Int)) (j := (a : Int)) (ev_var 13 rfl (.int _)) (ev_var 5 rfl (.int _))) fun H15 s15 => ⟨fun _ => ww_and1 (wt_eqI (j := 0) (we_draw F hr1 (vv_var 0 rfl) (hD14.ex s15) ev_int (by decide) (by decide) fun b H16 hb m16 hD16 => ⟨_, rfl, fun H17 s17 => ⟨((Dm.of s15).trans m16).trans (Dm.of s17), hD16.ex s17⟩⟩) fun _ => ev_int), fun _ => ⟨Dm.of s15, hD14.ex s15⟩⟩))
            · rw [hes1, sizeLine_eq]
              exact Nat.le_of_ble_eq_true rfl
            · obtain ⟨e0, e1, rfl⟩ : ∃ e0 e1, es = [e0, e1] := by
                match es, hes1 with
                | [a, b], _ => exact ⟨a, b, rfl⟩
              obtain ⟨t0, h0, rfl⟩ := hes2 0 e0 rfl
              obtain ⟨t1, h1, rfl⟩ := hes2 1 e1 rfl
              exact ⟨z, .toss t0 t1, rfl, (((Dm.of (s12.trans s13)).trans m14).trans (Dm.of s15)).trans (Dm.of s16), (hD14.ex s15).ex s16, hz, h0, h1⟩
          · rintro σ' H12 ⟨v', r', rfl, m12, hD12, hv', hok2⟩
            have hL12 := (hL10.ex s11).dm (Ne.symm nep) (Ne.symm neq) m12 (pls_map rowD_pl _)
            refine w_one (s_app (vv_var 7 rfl) hL12 (ev_var 8 rfl hv') (rowD_pl _) (pls_map rowD_pl _) (by rw [List.length_map]; omega) fun H13 m13 tx13 hL13 => ?_)
            refine ⟨rows' ++ [r'], _, rfl, ((m10.trans (Dm.of s11)).trans m12).mu hl0 m13 tx13, ((tx10.trans (Same.tx s11)).trans m12.tx).trans tx13, hD12.mu m13 nep neq, ?_, by rw [List.length_append, hlen']; rfl, fun r2 hr2 => ?_⟩
            · rw [List.map_append]
              exact hL13
            · rcases List.mem_append.mp hr2 with h | h
              · exact hok' r2 h
              · rw [List.mem_singleton.mp h]; exact hok2
        · rintro σ' H10 ⟨rows', x8, rfl, m10, tx10, hD10, hL10, hlen', hok'⟩
          rw [List.length_map] at hlen'
          have hst10 := (hst8.ex s9).up tx10 (plr _)
          have hraok := hok ra (List.mem_of_getElem? hra)
          refine w_cons (s_set sc66.nd 3 (d := .tup ((rows' ++ [ra]).map rowD)) (Ev.cast (ev_cat (ev_tupleV ft (vv_var 7 rfl) hL10) (ev_tup (ea_one (ev_ixT (d := rowD ra) (ev_var 3 rfl hst10) (ev_var 5 rfl (.int _)) (atI_nat (j := a) (by rw [List.getElem?_map, hra]; rfl))))) (by rw [sizeLine_eq]; simp; omega)) (by rw [List.map_append]; rfl)) fun v11 H11 s11 hv11 => ?_)
          obtain ⟨ra', hra'⟩ : ∃ ra', rows'[a]? = some ra' := ⟨rows'[a], List.getElem?_eq_getElem (by omega)⟩
          have hL11 := hL10.ex s11
          have hixr : atI (rows'.map rowD) ((a : Nat) : Int) = some (rowD ra') := atI_nat (j := a) (by rw [List.getElem?_map, hra']; rfl)
          have hra'ok := hok' ra' (List.mem_of_getElem? hra')
          have fin : ∀ (r : Rw) (v : V) (H12 : Hp), r.ok m.n (rows.length + 1) → Dm K p q H H12 → Dck H12 p q → Im K H12 v (.tup ((rows' ++ [r]).map rowD)) →
              ∃ (vst2 : V) (rows2 : List Rw) (y4 y5 y6 y7 y8 : Option V), [some (V.ref p), some v1, some (.int (m.n : Nat)), some v, some (.int (i : Nat)), some (.int (a : Nat)), some (.int (rows.length : Nat)), some (.ref l), x8, none, none, none, none, none] = [some (.ref p), some v1, some (.int (m.n : Nat)), some vst2, y4, y5, y6, y7, y8, none, none, none, none, none] ∧ Dm K p q H H12 ∧ Dck H12 p q ∧ Im K H12 vst2 (.tup (rows2.map rowD)) ∧ rows2.length = m.rows.length + (i + 1) ∧ ∀ r ∈ rows2, r.ok m.n rows2.length := fun r v H12 hr m12 hD12 hv => by
            have hl2 : (rows' ++ [r]).length = rows.length + 1 := by rw [List.length_append, hlen']; rfl
            refine ⟨v, rows' ++ [r], _, _, _, _, _, rfl, m12, hD12, hv, by rw [hl2]; omega, fun r2 hr2 => ?_⟩
            rw [hl2]
            rcases List.mem_append.mp hr2 with h | h
            · exact hok' r2 h
            · rw [List.mem_singleton.mp h]; exact hr
          refine w_one (s_if (et_tossC (ev_ixL (d := rowD ra') (vv_var 7 rfl) hL11 (ev_var 5 rfl (.int _)) hixr)) (fun _ H12 s12 => ?_) fun _ H12 s12 => w_nil ?_)
          · refine w_one (s_set sc66.nd 3 (d := .tup ((rows' ++ [ra']).map rowD)) (Ev.cast (ev_cat (ev_slHi (i := -1) (ev_var 3 rfl (hv11.ex s12)) (ev_neg (i := 1) ev_int)) (ev_tup (ea_one (ev_ixL (d := rowD ra') (vv_var 7 rfl) (hL11.ex s12) (ev_var 5 rfl (.int _)) hixr))) (by rw [cutD_neg1, sizeLine_eq]; simp; omega)) (by rw [cutD_neg1, List.map_append]; simp)) fun v13 H13 s13 hv13 => ?_)
            exact fin ra' v13 H13 hra'ok (m10.trans (Dm.of ((s11.trans s12).trans s13))) (hD10.ex ((s11.trans s12).trans s13)) hv13
          · exact fin ra v11 H12 (hraok.up (by omega)) (m10.trans (Dm.of (s11.trans s12))) (hD10.ex (s11.trans s12)) (hv11.ex s12)
      · rintro σ' H4 ⟨vst, rows, x4, x5, x6, x7, x8, rfl, m4, hD4, hst, hlen, hok⟩
        exact ⟨vst, rows, x4, x5, x6, x7, x8, rfl, m4, hD4, hst, by omega, by omega, hok⟩
    · rintro σ' H2 ⟨vst, rows, x4, x5, x6, x7, x8, rfl, m2, hD2, hst, hl1, hl15, hok⟩
      have hlr : (rows.map rowD).length = rows.length := List.length_map ..
      obtain ⟨N, hN⟩ : ∃ N, rows.length = N + 1 := ⟨rows.length - 1, by omega⟩
      refine w_cons (s_parC sc66.nd 9 10 (wa_cons (we_evl (el_listRg (n := N) fli fr (Ev.cast (ev_lenT fl (ea_one (ev_var 3 rfl hst))) (by rw [hlr, hN])) (by omega)) fun lf H3 hlf s3 hLf => wa_cons (we_evl (el_lst (ea_one (ev_int (i := 0)))) fun ln H4 hln s4 hLn => wa_nil ⟨_, _, rfl, fun t ht => ?_⟩))))
      have st := Same.new (o := .tup [V.ref lf, .ref ln]) ht
      generalize upd H4 t (.tup [V.ref lf, .ref ln]) = H5 at st
      have nfn : lf ≠ ln := by
        rintro rfl
        obtain ⟨kv, z, _⟩ := hLf
        rw [hln] at z; cases z
      obtain ⟨hf0, nfp, nfq⟩ := m2.fresh hD2 hlf
      obtain ⟨hn0, nnp, nnq⟩ := (m2.trans (Dm.of s3)).fresh (hD2.ex s3) hln
      have m5 : Dm K p q H H5 := m2.trans (Dm.of ((s3.trans s4).trans st))
      have hD5 := hD2.ex ((s3.trans s4).trans st)
      have hst5 := hst.ex ((s3.trans s4).trans st)
      have hLf5 : LsI K H5 lf ((List.range' 1 N).map nI) := LsI.cast (hLf.ex (s4.trans st)) (by unfold natL; rw [List.range'_eq_map_range, List.map_map]; rfl)
      have hLn5 : LsI K H5 ln ([0].map nI) := hLn.ex st
      clear hLf hLn ht st hln hlf s3 s4 hst hD2 m2
      refine w_cons (s_for (wk_rng fr (n := N) (Ev.cast (ev_sub (ev_lenT fl (ea_one (ev_var 3 rfl hst5))) ev_int) (by rw [hlr, hN]; simp)) (by omega)) fun H6 s6 => ⟨fun j σ' H' => ∃ (names left : List Nat) (x11 : Option V), σ' = [some (.ref p), some v1, some (.int (m.n : Nat)), some vst, x4, x5, x6, x7, x8, some (.ref lf), some (.ref ln), x11, none, none] ∧ Dm K p q H H' ∧ Dck H' p q ∧ Im K H' vst (.tup (rows.map rowD)) ∧ LsI K H' lf (left.map nI) ∧ LsI K H' ln (names.map nI) ∧ left.length = N - j ∧ j ≤ N ∧ (names ++ left).Perm (List.range (N + 1)),
        ⟨[0], List.range' 1 N, none, rfl, m5.trans (Dm.of s6), hD5.ex s6, hst5.ex s6, hLf5.ex s6, hLn5.ex s6, by simp, Nat.zero_le _, ?_⟩, fun _ _ _ _ => trivial, ?_, ?_⟩)
      · rw [List.range_eq_range', List.range'_succ]
        exact List.Perm.refl _
      · rintro j d v σ' H7 H8 hj ⟨names, left, x11, rfl, m7, hD7, hst7, hLf7, hLn7, hll, hjN, hpm⟩ s8 hv
        have hjl : j < N := by
          have := (List.getElem?_eq_some_iff.mp hj).1
          simpa [rgD] using this
        refine g_name sc66.nd 11 ?_
        have hD8 := hD7.ex s8
        have hlen := hpm.length_eq
        rw [List.length_append, List.length_range] at hlen
        refine w_one (s_appD (vv_var 10 rfl) ⟨_, hLn7.ex s8⟩ fun H9 s9 => we_popD (vv_var 9 rfl) ⟨_, hLf7.ex (s8.trans s9)⟩ fun H10 s10 => we_draw (n := left.length) F hr1 (vv_var 0 rfl) (hD8.ex (s9.trans s10)) (Ev.cast (ev_lenL fl (vv_var 9 rfl) (hLf7.ex ((s8.trans s9).trans s10))) (by rw [List.length_map])) (by omega) (by omega) fun b H11 hb m11 hD11 => ?_)
        have s710 := (s8.trans s9).trans s10
        have hLf11 := (hLf7.ex s710).dm (Ne.symm nfp) (Ne.symm nfq) m11 (pls_map nI_pl _)
        have hLn11 := (hLn7.ex s710).dm (Ne.symm nnp) (Ne.symm nnq) m11 (pls_map nI_pl _)
        have hst11 := (hst7.ex s710).up m11.tx (plr _)
        refine ⟨left.map nI, b, nI left[b], rfl, hLf11, pls_map nI_pl _, by omega, by rw [List.getElem?_map, List.getElem?_eq_getElem hb]; rfl, fun w H12 m12 tx12 hLf12 hw => ?_⟩
        have ew := hw.intI
        subst ew
        have hLn12 := hLn11.mu (Ne.symm nfn) m12 tx12 (pls_map nI_pl _)
        refine ⟨names.map nI, nI left[b], hLn12, .int _, rfl, pls_map nI_pl _, by rw [List.length_map]; omega, fun H13 m13 tx13 hLn13 => ?_⟩
        refine ⟨names ++ [left[b]], left.eraseIdx b, _, rfl, (((m7.trans (Dm.of s710)).trans m11).mu hf0 m12 tx12).mu hn0 m13 tx13, (hD11.mu m12 nfp nfq).mu m13 nnp nnq, (hst11.up tx12 (plr _)).up tx13 (plr _), ?_, ?_, ?_, by omega, ?_⟩
        · have := hLf12.mu nfn m13 tx13 (pls_all fun z hz => pls_mem (pls_map nI_pl left) z (List.mem_of_mem_eraseIdx hz))
          exact LsI.cast this (by rw [er_map])
        · exact LsI.cast hLn13 (by rw [List.map_append]; rfl)
        · rw [List.length_eraseIdx, if_pos hb]
          omega
        · refine List.Perm.trans ?_ hpm
          rw [List.append_assoc]
          exact List.Perm.append_left _ (er_perm left b hb)
      · rintro σ' H7 ⟨names, left, x11, rfl, m7, hD7, hst7, hLf7, hLn7, hll, hjN, hpm⟩
        rw [show (rgD 0 N).length = N by simp [rgD]] at hll
        have : left = [] := List.eq_nil_of_length_eq_zero (by omega)
        subst this
        rw [List.append_nil] at hpm
        have hnl : names.length = N + 1 := by rw [hpm.length_eq, List.length_range]
        have hnlt : ∀ t ∈ names, t < N + 1 := fun t ht => List.mem_range.mp (hpm.mem_iff.mp ht)
        refine w_cons (s_setW sc66.nd 7 (we_evl (el_rep (i := ((N + 1 : Nat) : Int)) (el_lst (ea_one ev_non)) (Ev.cast (ev_lenT fl (ea_one (ev_var 3 rfl hst7))) (by rw [hlr, hN])) (by omega) (by simp; omega) (by omega)) fun lr H8 hlr8 s8 hLr => ?_))
        obtain ⟨hr0', nrp, nrq⟩ := m7.fresh hD7 hlr8
        have nrn : ln ≠ lr := by
          rintro rfl
          obtain ⟨kv, z, _⟩ := hLn7
          rw [hlr8] at z; cases z
        have hLr8 : LsI K H8 lr (List.replicate (N + 1) .non) := LsI.cast hLr (by rw [Int.toNat_natCast]; exact flat_rep _)
        have m8 : Dm K p q H H8 := m7.trans (Dm.of s8)
        refine w_cons (s_for (wk_enumT fe (ev_var 3 rfl (hst7.ex s8)) (plr rows)) fun H9 s9 => ⟨fun j σ' H' => ∃ (ds : List D) (y8 y12 : Option V), σ' = [some (.ref p), some v1, some (.int (m.n : Nat)), some vst, x4, x5, x6, some (.ref lr), y8, some (.ref lf), some (.ref ln), x11, y12, none] ∧ Dm K p q H H' ∧ Tx K H9 H' ∧ Dck H' p q ∧ LsI K H' ln (names.map nI) ∧ LsI K H' lr ds ∧ ds.length = N + 1 ∧
            (∀ d ∈ ds, d = .non ∨ ∃ r : Rw, d = rowD r ∧ r.ok m.n (N + 1)) ∧ (∀ j', j' < j → ∀ t, names[j']? = some t → ∃ r : Rw, ds[t]? = some (rowD r)),
          ⟨_, _, _, rfl, m8.trans (Dm.of s9), .refl, hD7.ex (s8.trans s9), hLn7.ex (s8.trans s9), hLr8.ex s9, by simp, fun d hd => .inl (List.eq_of_mem_replicate hd), fun j' h => absurd h (by omega)⟩, ?_, ?_, ?_⟩)
        · rintro _ _ _ ⟨_, _, _, _, _, tx, _⟩
          exact tx
        · rintro j d v σ' H10 H11 hj ⟨ds, y8, y12, rfl, m10, tx10, hD10, hLn10, hLr10, hdl, hda, hdj⟩ s11 hv
          obtain ⟨d', hd', rfl⟩ := enD_at hj
          rw [List.getElem?_map] at hd'
          obtain ⟨r, hr0, rfl⟩ := Option.map_eq_some_iff.mp hd'
          have hrok := hok r (List.mem_of_getElem? hr0)
          have hjl := (List.getElem?_eq_some_iff.mp hr0).1
          refine g_pair sc66.nd 12 8 hv fun w1 w2 hw1 hw2 => ?_
          have ew := hw1.intI
          subst ew
          have hLn11 := hLn10.ex s11
          have hnj : names[j]? = some names[j] := List.getElem?_eq_getElem (by omega)
          have hix : ∀ t, t < N + 1 → atI (names.map nI) ((t : Nat) : Int) = some (nI (names.getD t 0)) := fun t ht => atI_nat (j := t) (by rw [List.getElem?_map, List.getElem?_eq_getElem (by omega), List.getD_eq_getElem?_getD, List.getElem?_eq_getElem (by omega)]; rfl)
          have hnt : ∀ t, t < N + 1 → names.getD t 0 < N + 1 := fun t ht => hnlt _ (by rw [List.getD_eq_getElem?_getD, List.getElem?_eq_getElem (by omega)]; exact List.getElem_mem _)
          have plds : D.pls ds = true := pls_all fun d hd => by
            rcases hda d hd with rfl | ⟨r, rfl, _⟩
            · rfl
            · exact rowD_pl _
          have step : ∀ (r' : Rw) (H12 : Hp), r'.ok m.n (N + 1) → Mu lr H11 H12 → Tx K H11 H12 → LsI K H12 lr (ds.set (names.getD j 0) (rowD r')) →
              ∃ (ds2 : List D) (z8 z12 : Option V), [some (V.ref p), some v1, some (.int (m.n : Nat)), some vst, x4, x5, x6, some (.ref lr), some w2, some (.ref lf), some (.ref ln), x11, some (.int (j : Nat)), none] = [some (.ref p), some v1, some (.int (m.n : Nat)), some vst, x4, x5, x6, some (.ref lr), z8, some (.ref lf), some (.ref ln), x11, z12, none] ∧ Dm K p q H H12 ∧ Tx K H9 H12 ∧ Dck H12 p q ∧ LsI K H12 ln (names.map nI) ∧ LsI K H12 lr ds2 ∧ ds2.length = N + 1 ∧
            (∀ d ∈ ds2, d = .non ∨ ∃ r : Rw, d = rowD r ∧ r.ok m.n (N + 1)) ∧ (∀ j', j' < j + 1 → ∀ t, names[j']? = some t → ∃ r : Rw, ds2[t]? = some (rowD r)) := fun r' H12 hr' m12 tx12 hL12 => by
            refine ⟨_, _, _, rfl, (m10.trans (Dm.of s11)).mu hr0' m12 tx12, (tx10.trans (Same.tx s11)).trans tx12, (hD10.ex s11).mu m12 nrp nrq, hLn11.mu nrn m12 tx12 (pls_map nI_pl _), hL12, by rw [List.length_set]; exact hdl, fun d hd => ?_, fun j' hj' t ht => ?_⟩
            · rcases List.mem_or_eq_of_mem_set hd with h | h
              · exact hda d h
              · exact .inr ⟨r', h, hr'⟩
            · by_cases e : names.getD j 0 = t
              · rw [e, List.getElem?_set_self (by rw [hdl, ← e]; exact hnt j (by omega))]
                exact ⟨r', rfl⟩
              · rw [List.getElem?_set_ne e]
                by_cases e2 : j' < j
                · exact hdj j' e2 t ht
                · obtain rfl : j' = j := by omega
                  rw [List.getD_eq_getElem?_getD, ht] at e
                  exact absurd rfl e
          cases r with
          | out o =>
            refine w_one (s_setIx (n := names.getD j 0) (d := rowD (.out o)) (ev_if (et_tossC (ev_var 8 rfl hw2)) (fun q => nomatch q) fun _ => ev_var 8 rfl hw2) (vv_var 7 rfl) (hLr10.ex s11) (ev_ixL (d := nI (names.getD j 0)) (vv_var 10 rfl) hLn11 (ev_var 12 rfl (.int _)) (hix j (by omega))) (by rw [hdl]; exact hnt j (by omega)) (rowD_pl _) plds fun H12 m12 tx12 hL12 => ?_)
            exact step (.out o) H12 hrok m12 tx12 hL12
          | toss x y =>
            obtain ⟨hx, hy⟩ := hrok
            rw [hN] at hx hy
            refine w_one (s_setIx (n := names.getD j 0) (d := rowD (.toss (names.getD x 0) (names.getD y 0))) (ev_if (et_tossC (ev_var 8 rfl hw2)) (fun _ => ?_) fun q => nomatch q) (vv_var 7 rfl) (hLr10.ex s11) (ev_ixL (d := nI (names.getD j 0)) (vv_var 10 rfl) hLn11 (ev_var 12 rfl (.int _)) (hix j (by omega))) (by rw [hdl]; exact hnt j (by omega)) (rowD_pl _) plds fun H12 m12 tx12 hL12 => ?_)
            · refine Ev.cast (ev_cat (ev_slHi (ds := rowL (.toss x y)) (i := 1) (ev_var 8 rfl hw2) ev_int) (ev_tupleL ft (el_lc sc66 [("_law_to", 13)] (fun _ => true) (fun i => nI (names.getD ([x, y].getD i 0) 0)) (fun _ => rfl) (wk_tup (ev_sl1 (d := .str "toss") (ds := [nI x, nI y]) (ev_var 8 rfl hw2)) rfl) (fun H1 H2 s => Same.tx s) (by exact Nat.le_of_ble_eq_true rfl) ?_)) (by rw [sizeLine_eq]; exact Nat.le_of_ble_eq_true rfl)) rfl
              intro i' d' v' H14 s14 hi' hv'
              obtain ⟨u, hu, rfl, hu2⟩ : ∃ u, u < N + 1 ∧ d' = nI u ∧ [x, y].getD i' 0 = u := by
                match i', hi' with
                | 0, hi => exact ⟨x, hx, (Option.some.inj hi).symm, rfl⟩
                | 1, hi => exact ⟨y, hy, (Option.some.inj hi).symm, rfl⟩
              have ev := hv'.intI
              subst ev
              rw [hu2]
              refine ⟨_, fun Q2 q s H C cl fp => g_name sc66.nd 13 q, rfl, fun s H C cl fp => et_nil, fun _ s H C cl fp => ?_⟩
              exact ev_ixL (vv_var 10 rfl) (hLn11.ex s14) (ev_var 13 rfl (.int _)) (hix u hu)
            · exact step (.toss (names.getD x 0) (names.getD y 0)) H12 ⟨hnt x hx, hnt y hy⟩ m12 tx12 hL12
        · rintro σ' H10 ⟨ds, y8, y12, rfl, m10, tx10, hD10, hLn10, hLr10, hdl, hda, hdj⟩
          rw [enD_len, hlr, hN] at hdj
          obtain ⟨rows3, e3, hok3⟩ : ∃ rows3 : List Rw, ds = rows3.map rowD ∧ ∀ r ∈ rows3, r.ok m.n (N + 1) := rows_of fun d hd => by
            obtain ⟨t, ht⟩ := List.mem_iff_getElem?.mp hd
            have htl := (List.getElem?_eq_some_iff.mp ht).1
            have htn : t ∈ names := hpm.mem_iff.mpr (List.mem_range.mpr (by omega))
            obtain ⟨j', hj'⟩ := List.mem_iff_getElem?.mp htn
            have hjl := (List.getElem?_eq_some_iff.mp hj').1
            obtain ⟨r, hr⟩ := hdj j' (by omega) t hj'
            rw [ht] at hr
            obtain rfl := Option.some.inj hr
            rcases hda _ hd with h | h
            · cases h
            · exact h
          subst e3
          rw [List.length_map] at hdl
          refine w_one (s_ret (ev_tup (ea_cons (ev_var 2 rfl (.int _)) (ea_one (ev_tupleV ft (vv_var 7 rfl) hLr10)))) fun v11 H11 s11 hv11 => k (mD ⟨m.n, rows3⟩) v11 H11 (fun m' e => ?_) (m10.trans (Dm.of s11)) (hD10.ex s11) hv11)
          have em : m = m' := mD_inj (by simpa using e)
          subst em
          exact ⟨⟨m.n, rows3⟩, rfl, ⟨n1, n8, by show 0 < rows3.length; omega, by show rows3.length ≤ 15; omega, by show ∀ r ∈ rows3, r.ok m.n rows3.length; rw [hdl]; exact hok3⟩, rfl⟩
end
end Dr
set_option Elab.async false
set_option linter.all false
set_option maxRecDepth 100000
set_option maxHeartbeats 4000000
set_option pp.deepTerms false
set_option pp.maxSteps 400
namespace Dr
open PySem PySem.Spec PyProof.Rows L2
/-! ### calls by name -/
def WKw (X : Cx) (kws : List Keyword) : TA := fun σ H Q => ∃ t, PK X kws t ∧ t σ H Q
section
variable {X : Cx} {σ : L2.St} {H : Hp} {a b c e : Expr} {es : List Expr} {pos p p1 p2 : Pos} {d d1 d2 d3 : D} {ds : List D} {x : Str} {i k j : Nat} {ps ks : List Str} {kws : List Keyword} {Q : VK}
theorem pkw_W : PK X kws (WKw X kws) := ⟨fun pos pins s σ H Q I ⟨_, h, q⟩ => h.run pos pins s σ H Q I q⟩
theorem wkw_nil {Q : List V → Hp → Prop} (h : Q [] H) : WKw X [] σ H Q := ⟨_, pk_nil, h⟩
theorem wkw_cons {Q : List V → Hp → Prop} {nm : Option Str} {kp : Pos} (h : WE X e σ H fun v H1 => WKw X kws σ H1 fun vs H2 => Q (v :: vs) H2) : WKw X (⟨nm, e, kp⟩ :: kws) σ H Q := ⟨_, pk_cons pe_W pkw_W, h⟩
theorem we_callK {sp : Sp} {g : List Value → List Value} {gV : List V → List V} (F : PrB X.prog X.w X.K X.mg X.base x i k ps sp) (hr : Rm k X.A) (hb : ∀ fd, Shp fd x i → KwB fd ps ks g gV) (hkw : WKw X kws σ H fun zs H1 => zs.length = ks.length ∧ sp (gV zs) H1 Q E0)
    (hg : Gl X x := by rfl) (hall : (backToKw pos (keywordEach kws X.env)).all (·.1.isSome) = true := by rfl) (hks : (backToKw pos (keywordEach kws X.env)).filterMap (·.1) = ks := by rfl) (hdb : (x == ("__debug__" : Str)) = false := by decide)
    (hpl : ((backTo pos (starEach [] X.env)).any (·.1) || (backToKw pos (keywordEach kws X.env)).any (·.1.isNone)) = false := by rfl) : WE X (.Call (.Name x p) [] kws pos) σ H Q := by
  obtain ⟨fd, F, _, hk, hm, hs⟩ := F
  exact .of (pe_callGk F hr hm hk (hb fd hs) pkw_W hg hall hks hdb hpl) hkw
/-- a promise that leaves but one result -/
theorem ev_callN {pre : List D → Prop} {post : List D → D → Prop} (F : Pr X.prog X.w X.K X.mg X.base x k ps (spN X.K pre post)) (hr : Rm k X.A) (ha : EvA X (e :: es) σ H ds) (hp : pre ds) (hu : ∀ d', post ds d' → d' = d) (hg : Gl X x := by rfl) (hdb : (x == ("__debug__" : Str)) = false := by decide)
    (he : starEach (e :: es) X.env = (false, eval e X.env) :: starEach es X.env := by rfl) (hpl : (backTo pos (starEach es X.env)).any (·.1) = false := by rfl) : Ev X (.Call (.Name x p) (e :: es) [] pos) σ H d := fun H1 s Q q =>
  we_callN F hr (fun H2 s2 => ha H2 (s.trans s2)) hp (fun d' v H2 hpo s2 hv => q v H2 s2 (by rw [← hu d' hpo]; exact hv)) hg hdb he hpl
theorem ev_callK2 {pre : List D → D → Prop} {k1 k2 : Str} {q1 q2 : Pos} {g : List Value → List Value} {gV : List V → List V} (F : PrB X.prog X.w X.K X.mg X.base x i k ps (spD X.K pre)) (hr : Rm k X.A) (hb : ∀ fd, Shp fd x i → KwB fd ps [k1, k2] g gV) (h1 : Ev X a σ H d1) (h2 : Ev X b σ H d2)
    (hgv : ∀ v1 v2 H', Im X.K H' v1 d1 → Im X.K H' v2 d2 → Ims X.K H' (gV [v1, v2]) ds) (hp : pre ds d) (hg : Gl X x := by rfl) (hall : (backToKw pos (keywordEach [⟨some k1, a, q1⟩, ⟨some k2, b, q2⟩] X.env)).all (·.1.isSome) = true := by rfl)
    (hks : (backToKw pos (keywordEach [⟨some k1, a, q1⟩, ⟨some k2, b, q2⟩] X.env)).filterMap (·.1) = [k1, k2] := by rfl) (hdb : (x == ("__debug__" : Str)) = false := by decide)
    (hpl : ((backTo pos (starEach [] X.env)).any (·.1) || (backToKw pos (keywordEach [⟨some k1, a, q1⟩, ⟨some k2, b, q2⟩] X.env)).any (·.1.isNone)) = false := by rfl) : Ev X (.Call (.Name x p) [] [⟨some k1, a, q1⟩, ⟨some k2, b, q2⟩] pos) σ H d := fun H1 s Q q =>
  we_callK F hr hb (wkw_cons (h1 H1 s _ fun v1 H2 s2 hv1 => wkw_cons (h2 H2 (s.trans s2) _ fun v2 H3 s3 hv2 => wkw_nil ⟨rfl, ds, d, hp, hgv v1 v2 H3 (hv1.ex s3) hv2, fun v H4 s4 hv => q v H4 ((s2.trans s3).trans s4) hv⟩))) hg hall hks hdb hpl
theorem ev_callNK2 {pre : List D → Prop} {post : List D → D → Prop} {k1 k2 : Str} {q1 q2 : Pos} {g : List Value → List Value} {gV : List V → List V} (F : PrB X.prog X.w X.K X.mg X.base x i k ps (spN X.K pre post)) (hr : Rm k X.A) (hb : ∀ fd, Shp fd x i → KwB fd ps [k1, k2] g gV) (h1 : Ev X a σ H d1) (h2 : Ev X b σ H d2)
    (hgv : ∀ v1 v2 H', Im X.K H' v1 d1 → Im X.K H' v2 d2 → Ims X.K H' (gV [v1, v2]) ds) (hp : pre ds) (hu : ∀ d', post ds d' → d' = d) (hg : Gl X x := by rfl) (hall : (backToKw pos (keywordEach [⟨some k1, a, q1⟩, ⟨some k2, b, q2⟩] X.env)).all (·.1.isSome) = true := by rfl)
    (hks : (backToKw pos (keywordEach [⟨some k1, a, q1⟩, ⟨some k2, b, q2⟩] X.env)).filterMap (·.1) = [k1, k2] := by rfl) (hdb : (x == ("__debug__" : Str)) = false := by decide)
    (hpl : ((backTo pos (starEach [] X.env)).any (·.1) || (backToKw pos (keywordEach [⟨some k1, a, q1⟩, ⟨some k2, b, q2⟩] X.env)).any (·.1.isNone)) = false := by rfl) : Ev X (.Call (.Name x p) [] [⟨some k1, a, q1⟩, ⟨some k2, b, q2⟩] pos) σ H d := fun H1 s Q q =>
  we_callK F hr hb (wkw_cons (h1 H1 s _ fun v1 H2 s2 hv1 => wkw_cons (h2 H2 (s.trans s2) _ fun v2 H3 s3 hv2 => wkw_nil ⟨rfl, ds, hp, hgv v1 v2 H3 (hv1.ex s3) hv2, fun d' v H4 hpo s4 hv => q v H4 ((s2.trans s3).trans s4) (by rw [← hu d' hpo]; exact hv)⟩))) hg hall hks hdb hpl
theorem ev_callNK3 {pre : List D → Prop} {post : List D → D → Prop} {k1 k2 k3 : Str} {q1 q2 q3 : Pos} {g : List Value → List Value} {gV : List V → List V} (F : PrB X.prog X.w X.K X.mg X.base x i k ps (spN X.K pre post)) (hr : Rm k X.A) (hb : ∀ fd, Shp fd x i → KwB fd ps [k1, k2, k3] g gV) (h1 : Ev X a σ H d1) (h2 : Ev X b σ H d2) (h3 : Ev X c σ H d3)
    (hgv : ∀ v1 v2 v3 H', Im X.K H' v1 d1 → Im X.K H' v2 d2 → Im X.K H' v3 d3 → Ims X.K H' (gV [v1, v2, v3]) ds) (hp : pre ds) (hu : ∀ d', post ds d' → d' = d) (hg : Gl X x := by rfl) (hall : (backToKw pos (keywordEach [⟨some k1, a, q1⟩, ⟨some k2, b, q2⟩, ⟨some k3, c, q3⟩] X.env)).all (·.1.isSome) = true := by rfl)
    (hks : (backToKw pos (keywordEach [⟨some k1, a, q1⟩, ⟨some k2, b, q2⟩, ⟨some k3, c, q3⟩] X.env)).filterMap (·.1) = [k1, k2, k3] := by rfl) (hdb : (x == ("__debug__" : Str)) = false := by decide)
    (hpl : ((backTo pos (starEach [] X.env)).any (·.1) || (backToKw pos (keywordEach [⟨some k1, a, q1⟩, ⟨some k2, b, q2⟩, ⟨some k3, c, q3⟩] X.env)).any (·.1.isNone)) = false := by rfl) : Ev X (.Call (.Name x p) [] [⟨some k1, a, q1⟩, ⟨some k2, b, q2⟩, ⟨some k3, c, q3⟩] pos) σ H d := fun H1 s Q q =>
  we_callK F hr hb (wkw_cons (h1 H1 s _ fun v1 H2 s2 hv1 => wkw_cons (h2 H2 (s.trans s2) _ fun v2 H3 s3 hv2 => wkw_cons (h3 H3 ((s.trans s2).trans s3) _ fun v3 H4 s4 hv3 => wkw_nil ⟨rfl, ds, hp, hgv v1 v2 v3 H4 (hv1.ex (s3.trans s4)) (hv2.ex s4) hv3, fun d' v H5 hpo s5 hv => q v H5 (((s2.trans s3).trans s4).trans s5) (by rw [← hu d' hpo]; exact hv)⟩)))) hg hall hks hdb hpl
/-- e is not True -/
theorem et_notTrue {t : Bool} {kk : Nat} (h : Ev X e σ H (.bl t)) : EvT X (.Compare e [.IsNot] [.Constant (.bool true) kk p2] pos) σ H (!t) := fun H1 s Q q =>
  .of (pt_cmpR op_isnot_bl pe_W pe_W (nomark _)) (h.bl H1 s _ fun H2 s2 => ev_bl.bl H2 (s.trans s2) _ fun H3 s3 => ⟨t, true, rfl, rfl, _, rfl, by
    have : decide (t = true) = t := by cases t <;> rfl
    rw [this]
    exact q H3 (s2.trans s3)⟩)
end
theorem kw_judge : ∀ fd, Shp fd "judge_runs" 48 → KwB fd ["one", "other"] ["other", "one"] List.reverse List.reverse := by
  rintro fd ⟨kV, doc, pm, an, cdv, ct, rfl⟩
  exact ⟨fun ws h => match ws, h with | [_, _], _ => rfl, fun {zs ws} h hl => match zs, ws, h, hl with | [_, _], [_, _], .cons a (.cons b .nil), _ => .cons b (.cons a .nil)⟩
theorem kw_hold : ∀ fd, Shp fd "runs_hold" 49 → KwB fd ["one", "other", "thing"] ["thing", "other", "one"] List.reverse List.reverse := by
  rintro fd ⟨kV, doc, pm, an, cdv, ct, rfl⟩
  exact ⟨fun ws h => match ws, h with | [_, _, _], _ => rfl, fun {zs ws} h hl => match zs, ws, h, hl with | [_, _, _], [_, _, _], .cons a (.cons b (.cons c .nil)), _ => .cons c (.cons b (.cons a .nil))⟩
theorem kw_alike : ∀ fd, Shp fd "are_alike" 52 → KwB fd ["one", "other"] ["one", "other"] id id := by
  rintro fd ⟨kV, doc, pm, an, cdv, ct, rfl⟩
  exact ⟨fun ws h => match ws, h with | [_, _], _ => rfl, fun h _ => h⟩
/-! ### how long the parting bits are -/
theorem pb_len {m m' : Mc} {z z' : Nat} (ok : m.Ok z) (ok' : m'.Ok z') {w : List Bool} : ∀ (n i : Nat) (st : Pst), PsI m m' st → pbGo m m' n i st = some w → w.length ≤ m.rows.length * m'.rows.length
  | 0, _, _, _, h => by cases h
  | n + 1, i, st, hI, h => by
    unfold pbGo at h
    cases e : st[i]? with
    | none => rw [e] at h; cases h
    | some q =>
      rw [e] at h
      dsimp only at h
      by_cases hb : bothT m m' q.1 = true
      · rw [if_pos hb] at h
        exact pb_len ok ok' n _ _ (pvisit_i ok ok' (pvisit_i ok ok' hI).1).1 h
      · rw [if_neg hb] at h
        by_cases hr : m.rows[q.1.1]? = m'.rows[q.1.2]?
        · rw [if_pos hr] at h
          exact pb_len ok ok' n _ _ hI h
        · rw [if_neg hr] at h
          obtain rfl := Option.some.inj h
          exact Nat.le_trans (hI.ln q (List.mem_of_getElem? e)) hI.len
theorem parting_len {m m' : Mc} (ok : m.Ok 15) (ok' : m'.Ok 15) {w : List Bool} (h : parting m m' = some w) : w.length ≤ 225 := by
  have := pb_len ok ok' _ _ _ ⟨by simp, fun p hp => by rw [List.mem_singleton.mp hp]; exact ⟨ok.pos, ok'.pos⟩, fun p hp => by rw [List.mem_singleton.mp hp]; simp⟩ h
  have h1 := ok.le
  have h2 := ok'.le
  have := Nat.mul_le_mul h1 h2
  omega
end Dr
set_option Elab.async false
set_option linter.all false
set_option maxRecDepth 100000
set_option maxHeartbeats 4000000
set_option pp.deepTerms false
set_option pp.maxSteps 400
namespace Dr
open PySem PySem.Spec PyProof.Rows L2
/-! ### what may be shown -/
structure Sw (d : D) : Prop where
  sh : D.sh 10 d = true
  si : D.si d = true
  bu : D.bu d ≤ 2000
theorem Sw.shw {d : D} (h : Sw d) : Shw d := ⟨D.sh_up _ (by decide) h.sh, h.si, Nat.le_trans h.bu (by decide)⟩
theorem Sw.lst2 {a b : D} (h : Sw a) (h' : Sw b) : Shw (.lst [a, b]) := by
  refine ⟨?_, ?_, ?_⟩
  · show (D.sh 49 a && (D.sh 49 b && true)) = true
    rw [D.sh_up a (by decide) h.sh, D.sh_up b (by decide) h'.sh]; rfl
  · show (D.si a && (D.si b && true)) = true
    rw [h.si, h'.si]; rfl
  · have := h.bu
    have := h'.bu
    show D.bu a + 1 + (D.bu b + 1 + 0) ≤ 1048576
    omega
theorem ok_same : PyData.strOk "same" = true := by decide +kernel
theorem ok_bits : PyData.strOk "bits" = true := by decide +kernel
theorem ok_alike : PyData.strOk "alike" = true := by decide +kernel
theorem sw_same {m : Mc} (ok : m.Ok 100) : Sw (.tup [.str "same", mD m]) := by
  refine ⟨?_, ?_, ?_⟩
  · show (PyData.strOk "same" && (D.sh 9 (mD m) && true)) = true
    rw [ok_same, D.sh_up _ (by decide) (mD_sh m)]; rfl
  · show (true && (D.si (mD m) && true)) = true
    rw [mD_si ok (by decide)]; rfl
  · have := mD_bu m
    have := ok.le
    show 4 + 1 + (D.bu (mD m) + 1 + 0) ≤ _
    omega
theorem sw_alike : Sw (.tup [.str "alike"]) := by
  refine ⟨?_, rfl, by exact Nat.le_of_ble_eq_true rfl⟩
  show (PyData.strOk "alike" && true) = true
  rw [ok_alike]; rfl
theorem sw_bits : Sw (.str "bits") := ⟨ok_bits, rfl, by exact Nat.le_of_ble_eq_true rfl⟩
theorem sw_bl (b : Bool) : Sw (.bl b) := ⟨rfl, rfl, Nat.zero_le _⟩
theorem run_bd {m : Mc} {z : Nat} (ok : m.Ok z) : ∀ (w : List Bool) (s t i k : Nat), runM m s w t = some (i, k) → i < m.n ∧ k ≤ t + w.length
  | [], s, t, i, k, h => by
    unfold runM at h
    cases e : m.rows[s]? with
    | none => rw [e] at h; cases h
    | some r =>
      rw [e] at h
      cases r with
      | toss x y => cases h
      | out o =>
        have := ok.row _ (List.mem_of_getElem? e)
        simp only [Option.some.injEq, Prod.mk.injEq] at h
        obtain ⟨rfl, rfl⟩ := h
        exact ⟨this, by omega⟩
  | c :: w, s, t, i, k, h => by
    unfold runM at h
    cases e : m.rows[s]? with
    | none => rw [e] at h; cases h
    | some r =>
      rw [e] at h
      cases r with
      | toss x y =>
        obtain ⟨h1, h2⟩ := run_bd ok w _ _ i k h
        exact ⟨h1, by rw [List.length_cons]; omega⟩
      | out o =>
        have := ok.row _ (List.mem_of_getElem? e)
        simp only [Option.some.injEq, Prod.mk.injEq] at h
        obtain ⟨rfl, rfl⟩ := h
        exact ⟨this, by omega⟩
theorem sw_run {m : Mc} {z : Nat} (ok : m.Ok z) {w : List Bool} (hw : w.length ≤ 225) : Sw (runD (runM m 0 w 0)) := by
  refine ⟨D.sh_up _ (by decide) (runD_sh _), ?_, ?_⟩
  · cases e : runM m 0 w 0 with
    | none => rfl
    | some p =>
      obtain ⟨i, k⟩ := p
      obtain ⟨h1, h2⟩ := run_bd ok w 0 0 i k e
      have := ok.n8
      have e1 : (i : Int).natAbs < 10 ^ 12 := by omega
      have e2 : (k : Int).natAbs < 10 ^ 12 := by omega
      show (decide _ && (decide _ && true)) = true
      rw [decide_eq_true e1, decide_eq_true e2]; rfl
  · cases runM m 0 w 0 with
    | none => exact Nat.zero_le _
    | some p => exact Nat.le_of_ble_eq_true rfl
section
variable {P : Program} {w : World} {K : PySem.W.Frag} {mg : Str → Option Value} {base : Heap}
def prePair (ds : List D) (d : D) : Prop := ∃ m m' : Mc, ds = [mD m, mD m'] ∧ m.Ok 15 ∧ m'.Ok 15 ∧ m.n = m'.n ∧ d = .bl true
theorem sc69 : FnScope ["_law_one", "_law_other", "_law_near", "_law_far", "_law_told", "_law_back", "_law_it", "_law_runs"] ["_law_one", "_law_other"] (defScope (top 69)) := ⟨rfl, rfl, rfl, by decide +kernel, rfl, by decide +kernel, by decide +kernel⟩
theorem pr_pair (T : Txt K mg) (hS : ∀ m : Mc, m.Ok 15 → SolveOk m) (hC : ∀ m m' : Mc, m.Ok 15 → m'.Ok 15 → m.n = m'.n → Bis m m' 0 0 → chD m = chD m')
    (LF : Pr P w K mg base "_law_folded" 2 ["_law_machine_here"] (spN K preLFold postLFold)) (J : PrB P w K mg base "judge_runs" 48 7 ["one", "other"] (spN K preTwo1 postJudge))
    (S : Pr P w K mg base "_law_same" 1 ["_law_told", "_law_due"] (spD K preExact)) (Le : PrB P w K mg base "judge_lengths" 51 7 ["one", "other"] (spD K preLen)) (A : PrB P w K mg base "are_alike" 52 40 ["one", "other"] (spD K preAlike))
    (Bt : Pr P w K mg base "_law_are_bits" 1 ["_law_thing"] (spD K preLBits)) (Rn : Pr P w K mg base "_law_run" 1 ["_law_machine_here", "_law_bits"] (spD K preLRun)) (Ru : Pr P w K mg base "run" 6 ["machine", "bits"] (spD K preRun))
    (Ho : PrB P w K mg base "runs_hold" 49 7 ["one", "other", "thing"] (spN K preHold postHold)) (Fo : Pr P w K mg base "folded" 6 ["machine"] (spN K preLots postFold)) : Pr P w K mg base "_law_is_pair_right" 41 ["_law_one", "_law_other"] (spD K prePair) := by
  obtain ⟨f1, _, _, f4, _, f6, _⟩ := fI T
  refine mk_pr T 51 rfl sc69 (fun _ _ _ _ _ _ us hl => match us, hl with | [_, _], _ => rfl) (fun vs H Q E h => ?_) (fun cdv A0 outer s H vs Q E hr h => ?_)
  · obtain ⟨ds, d, ⟨m, m', rfl, _⟩, hI, _⟩ := h
    exact hI.len
  · obtain ⟨ds, d, ⟨m, m', rfl, ok, ok', hn, rfl⟩, hI, k⟩ := h
    cases hI with
    | @cons v1 _ _ _ h1 hI =>
    cases hI with
    | @cons v2 _ _ _ h2 hI =>
    cases hI
    have r1 := hr.mono (show 1 ≤ 40 by decide)
    have r2 := hr.mono (show 2 ≤ 40 by decide)
    have r6 := hr.mono (show 6 ≤ 40 by decide)
    have r7 := hr.mono (show 7 ≤ 40 by decide)
    have o1 := ok.up (show 15 ≤ 100 by decide)
    have o2 := ok'.up (show 15 ≤ 100 by decide)
    have t1 := ok.up (show 15 ≤ 1000 by decide)
    have t2 := ok'.up (show 15 ≤ 1000 by decide)
    refine w_cons (s_par2W sc69.nd 2 3 (wa_cons (we_callN LF r2 (ea_one (ev_var 0 rfl h1)) ⟨m, rfl, o1⟩ fun dn vn H1 hpn s1 hvn => wa_cons (we_callN LF r2 (ea_one (ev_var 1 rfl (h2.ex s1))) ⟨m', rfl, o2⟩ fun df vf H2 hpf s2 hvf => wa_nil ⟨_, _, rfl, ?_⟩))))
    obtain ⟨f, hf, rfl⟩ := hpn m rfl
    obtain ⟨f', hf', rfl⟩ := hpf m' rfl
    have i1 := lfold_is ok hf
    have i2 := lfold_is ok' hf'
    generalize lfoldM m f (lReached m) = F1 at i1 hvn
    generalize lfoldM m' f' (lReached m') = F2 at i2 hvf
    have ok1 := i1.ok 100 o1
    have ok2 := i2.ok 100 o2
    replace hvn := hvn.ex s2
    have g1 := h1.ex (s1.trans s2)
    have g2 := h2.ex (s1.trans s2)
    have refl1 : Bis m m 0 0 := i1.bis.trans i1.bis.symm
    have refl2 : Bis m' m' 0 0 := i2.bis.trans i2.bis.symm
    have p1 : ∀ g, LotsP m g → foldM m g = F1 := fun g hg => (fold_is ok hg).eq i1 rfl refl1
    have p2 : ∀ g, LotsP m' g → foldM m' g = F2 := fun g hg => (fold_is ok' hg).eq i2 rfl refl2
    have rev : ∀ {X : Cx} {d1 d2 : D} (v1 v2 : V) (H' : Hp), Im X.K H' v1 d1 → Im X.K H' v2 d2 → Ims X.K H' ([v1, v2].reverse) [d2, d1] := fun v1 v2 H' a b => .cons b (.cons a .nil)
    have rev3 : ∀ {X : Cx} {d1 d2 d3 : D} (v1 v2 v3 : V) (H' : Hp), Im X.K H' v1 d1 → Im X.K H' v2 d2 → Im X.K H' v3 d3 → Ims X.K H' ([v1, v2, v3].reverse) [d3, d2, d1] := fun v1 v2 v3 H' a b c => .cons c (.cons b (.cons a .nil))
    have idk : ∀ {X : Cx} {d1 d2 : D} (v1 v2 : V) (H' : Hp), Im X.K H' v1 d1 → Im X.K H' v2 d2 → Ims X.K H' (id [v1, v2]) [d1, d2] := fun v1 v2 H' a b => .cons a (.cons b .nil)
    have eqs : ∀ d : D, D.bl (decide (d.py.shown = d.py.shown)) = .bl true := fun d => by rw [decide_eq_true rfl]
    have ne_int : ∀ (ds : List D) (i : Int), D.lst ds ≠ .int i := fun _ _ h => nomatch h
    have s02 := s1.trans s2
    by_cases hb : Bis m m' 0 0
    · -- the same runs
      have eF : F1 = F2 := i1.eq i2 hn hb
      subst eF
      have q1 := bis_parting ok ok' hb
      have q2 := bis_parting ok' ok hb.symm
      refine w_cons (s_par sc69.nd 4 5 (d1 := .tup [.str "same", mD F1]) (d2 := .tup [.str "same", mD F1]) (ev_callN J.pr r7 (ea_cons (ev_var 0 rfl g1) (ea_one (ev_var 1 rfl g2))) ⟨m, m', rfl, o1, o2, hn⟩ fun d' hd => ?_)
        (ev_callNK2 J r7 kw_judge (ev_var 0 rfl g1) (ev_var 1 rfl g2) rev ⟨m', m, rfl, o2, o1, hn.symm⟩ fun d' hd => ?_) fun v3 v4 H3 s3 hv3 hv4 => ?_)
      · have := hd m m' rfl
        rw [q1] at this
        obtain ⟨g, hg, rfl⟩ := this
        rw [p1 g hg]
      · have := hd m' m rfl
        rw [q2] at this
        obtain ⟨g, hg, rfl⟩ := this
        rw [p2 g hg]
      refine w_cons (s_if (t := true) (EvT.cast (et_eqD r1 (ev_var 2 rfl (hvn.ex s3)) (ev_var 3 rfl (hvf.ex s3)) (mD_sh _) (mD_sh _) (mD_nb _) (mD_nb _)) (by simp)) (fun _ H4 s4 => ?_) fun q => nomatch q)
      have sw := sw_same ok1
      refine w_cons (s_if (t := false) (EvT.cast (et_not (et_val (Ev.cast (ev_call S r1 (ea_cons (EvL.ev (el_lst (ea_cons (ev_var 4 rfl (hv3.ex s4)) (ea_one (ev_var 5 rfl (hv4.ex s4)))))) (ea_one (EvL.ev (el_rep (i := 2) (el_lst (ea_one (ev_tup (ea_cons ev_str (ea_one (ev_var 2 rfl ((hvn.ex s3).ex s4))))))) ev_int (by decide) (by exact Nat.le_of_ble_eq_true rfl) (by decide)))))
          ⟨_, _, rfl, sw.lst2 sw, sw.lst2 sw, ne_int _, (fun h => nomatch h), ne_int _, (fun h => nomatch h), rfl⟩) (eqs _)))) rfl) (fun q => nomatch q) fun _ H5 s5 => w_nil ?_)
      have s35 := (s3.trans s4).trans s5
      refine w_one (s_ret (Ev.cast (ev_call S r1 (ea_cons (EvL.ev (el_lst (ea_cons (d := .tup [.str "alike"]) (ev_call Le.pr r7 (ea_cons (ev_var 0 rfl (g1.ex s35)) (ea_one (ev_var 1 rfl (g2.ex s35)))) ⟨m, m', rfl, t1, t2, hn, fun k _ => bis_len hn hb k, rfl⟩)
          (ea_one (d := .bl true) (ev_callK2 A (hr.mono (show 40 ≤ 40 by decide)) kw_alike (ev_var 1 rfl (g2.ex s35)) (ev_var 0 rfl (g1.ex s35)) idk ⟨m', m, rfl, t2, t1, hn.symm, hS m' ok', hS m ok, ?_⟩)))))
          (ea_one (EvL.ev (el_lst (ea_cons (ev_tup (ea_one ev_str)) (ea_one ev_bl)))))) ⟨_, _, rfl, sw_alike.lst2 (sw_bl true), sw_alike.lst2 (sw_bl true), ne_int _, (fun h => nomatch h), ne_int _, (fun h => nomatch h), rfl⟩) (eqs _)) fun v5 H6 s6 hv5 => k v5 H6 ((s02.trans s35).trans s6) hv5)
      simp [hC m' m ok' ok hn.symm hb.symm]
    · -- other runs
      have neF : mD F1 ≠ mD F2 := fun e => hb (by
        have := mD_inj e
        subst this
        exact i1.bisim i2)
      have pn : ∀ (a b : Mc), a.Ok 15 → b.Ok 15 → ¬ Bis a b 0 0 → ∃ bs, parting a b = some bs := fun a b oa ob h => by
        cases e : parting a b with
        | none => exact absurd (parting_none oa ob e) h
        | some bs => exact ⟨bs, rfl⟩
      obtain ⟨bs, q1⟩ := pn m m' ok ok' hb
      obtain ⟨bs', q2⟩ := pn m' m ok' ok fun h => hb h.symm
      have l1 := parting_len ok ok' q1
      have l2 := parting_len ok' ok q2
      have n1 := parting_some ok ok' q1
      have n2 := parting_some ok' ok q2
      refine w_cons (s_par sc69.nd 4 5 (d1 := .tup [.str "bits", btD bs]) (d2 := .tup [.str "bits", btD bs']) (ev_callN J.pr r7 (ea_cons (ev_var 0 rfl g1) (ea_one (ev_var 1 rfl g2))) ⟨m, m', rfl, o1, o2, hn⟩ fun d' hd => ?_)
        (ev_callNK2 J r7 kw_judge (ev_var 0 rfl g1) (ev_var 1 rfl g2) rev ⟨m', m, rfl, o2, o1, hn.symm⟩ fun d' hd => ?_) fun v3 v4 H3 s3 hv3 hv4 => ?_)
      · have := hd m m' rfl
        rw [q1] at this
        exact this
      · have := hd m' m rfl
        rw [q2] at this
        exact this
      refine w_cons (s_if (t := false) (EvT.cast (et_eqD r1 (ev_var 2 rfl (hvn.ex s3)) (ev_var 3 rfl (hvf.ex s3)) (mD_sh _) (mD_sh _) (mD_nb _) (mD_nb _)) (by simp [neF])) (fun q => nomatch q) fun _ H4 s4 => w_nil ?_)
      refine w_cons (s_for (ds := [.tup [.str "bits", btD bs], .tup [.str "bits", btD bs']]) (wk_tup (ev_tup (ea_cons (ev_var 4 rfl (hv3.ex s4)) (ea_one (ev_var 5 rfl (hv4.ex s4))))) (by
          show ((true && (D.pl (btD bs) && true)) && ((true && (D.pl (btD bs') && true)) && true)) = true
          rw [btD_pl, btD_pl]; rfl)) fun H5 s5 => ⟨fun j σ' H' => ∃ (x6 x7 : Option V), σ' = [some v1, some v2, some vn, some vf, some v3, some v4, x6, x7] ∧ Same H5 H', ⟨none, none, rfl, Same.refl _⟩, fun _ _ _ ⟨_, _, _, q⟩ => Same.tx q, ?_, ?_⟩)
      · rintro j d v σ' H6 H7 hj ⟨x6, x7, rfl, s56⟩ s7 hv
        obtain ⟨cs, rfl, lc, nc⟩ : ∃ cs, d = .tup [.str "bits", btD cs] ∧ cs.length ≤ 225 ∧ runM m 0 cs 0 ≠ runM m' 0 cs 0 := by
          match j, hj with
          | 0, hj => exact ⟨bs, (Option.some.inj hj).symm, l1, n1⟩
          | 1, hj => exact ⟨bs', (Option.some.inj hj).symm, l2, fun e => n2 e.symm⟩
        refine g_name sc69.nd 6 ?_
        have s37 := ((s4.trans s5).trans s56).trans s7
        have k1 := g1.ex (s3.trans s37)
        have k2 := g2.ex (s3.trans s37)
        have lc5 : cs.length ≤ 100000 := by omega
        have part : ∀ {X : Cx} {σ : L2.St} {H' : Hp} {e : Expr} {kk : Nat} {p1 p2 : Pos}, Ev X e σ H' (.tup [.str "bits", btD cs]) → Ev X (.Subscript e (.Constant (.int 1) kk p1) p2) σ H' (btD cs) := fun z => ev_ixT z ev_int rfl
        refine w_cons (s_if (t := false) (EvT.cast (EvW.t (ew_or (t := false) (et_not (et_val (t := true) (ev_isi (d := .tup [.str "bits", btD cs]) f1 f4 (ev_var 6 rfl hv) kb8))) fun _ => ew_or (t := false) (EvT.cast (et_neI (i := 2) (j := 2) (ev_lenT f6 (ea_one (ev_var 6 rfl hv))) ev_int) (by decide)) fun _ =>
            ew_or (t := false) (EvT.cast (et_not (et_val (Ev.cast (ev_call S r1 (ea_cons (d := .str "bits") (ev_ixT (d := .str "bits") (ev_var 6 rfl hv) ev_int rfl) (ea_one ev_str)) ⟨_, _, rfl, sw_bits.shw, sw_bits.shw, (fun _ h => nomatch h), (fun h => nomatch h), (fun _ h => nomatch h), (fun h => nomatch h), rfl⟩) (eqs _)))) rfl) fun _ =>
            ew_or1 (et_not (et_val (ev_call Bt r1 (ea_one (part (ev_var 6 rfl hv))) ⟨cs, rfl, lc5, rfl⟩))))) rfl) (fun q => nomatch q) fun _ H8 s8 => w_nil ?_)
        have hv8 := hv.ex s8
        refine w_cons (s_setW sc69.nd 7 (we_evl (el_lst (ea_cons (ev_call Rn r1 (ea_cons (ev_var 0 rfl (k1.ex s8)) (ea_one (part (ev_var 6 rfl hv8)))) ⟨m, cs, rfl, t1, lc5, rfl⟩) (ea_one (ev_call Rn r1 (ea_cons (ev_var 1 rfl (k2.ex s8)) (ea_one (part (ev_var 6 rfl hv8)))) ⟨m', cs, rfl, t2, lc5, rfl⟩)))) fun l H9 hl s9 hL => ?_))
        have hv9 := hv8.ex s9
        refine w_cons (s_if (t := false) (EvT.cast (et_eqD r1 (ev_ixL (d := runD (runM m 0 cs 0)) (vv_var 7 rfl) hL ev_int rfl) (ev_ixL (d := runD (runM m' 0 cs 0)) (vv_var 7 rfl) hL ev_int rfl) (runD_sh _) (runD_sh _) (runD_nb _) (runD_nb _)) (by simp only [decide_eq_false_iff_not]; exact fun e => nc (runD_inj e))) (fun q => nomatch q) fun _ H10 s10 => w_nil ?_)
        have hv10 := hv9.ex s10
        have s710 := (s8.trans s9).trans s10
        have w1 := sw_run ok lc
        have w2 := sw_run ok' lc
        refine w_one (s_if (et_le (ev_lenT f6 (ea_one (part (ev_var 6 rfl hv10)))) ev_int) (fun _ H11 s11 => ?_) fun _ H11 s11 => w_nil ⟨_, _, rfl, (s56.trans s7).trans (s710.trans s11)⟩)
        have hv11 := hv10.ex s11
        have a1 := k1.ex (s710.trans s11)
        have a2 := k2.ex (s710.trans s11)
        refine w_cons (s_if (t := false) (EvT.cast (et_not (et_val (Ev.cast (ev_call S r1 (ea_cons (EvL.ev (el_lst (ea_cons (ev_call Ru r6 (ea_cons (ev_var 0 rfl a1) (ea_one (part (ev_var 6 rfl hv11)))) ⟨m, cs, rfl, t1, lc5, rfl⟩) (ea_one (ev_call Ru r6 (ea_cons (ev_var 1 rfl a2) (ea_one (part (ev_var 6 rfl hv11)))) ⟨m', cs, rfl, t2, lc5, rfl⟩)))))
            (ea_one (ev_var 7 rfl ((hL.ex (s10.trans s11)).im)))) ⟨_, _, rfl, w1.lst2 w2, w1.lst2 w2, ne_int _, (fun h => nomatch h), ne_int _, (fun h => nomatch h), rfl⟩) (eqs _)))) rfl) (fun q => nomatch q) fun _ H12 s12 => w_nil ?_)
        have hv12 := hv11.ex s12
        have b1' := a1.ex s12
        have b2' := a2.ex s12
        have hold : ∀ d', postHold [mD m, mD m', thD (.bits cs)] d' → d' = .bl true := fun d' hd => by
          have := hd m m' (.bits cs) rfl
          dsimp only at this
          rw [this]
          simp [nc]
        refine w_one (s_if (t := false) (EvT.cast (EvW.t (ew_or (t := false) (et_notTrue (t := true) (ev_callN Ho.pr r7 (ea_cons (ev_var 0 rfl b1') (ea_cons (ev_var 1 rfl b2') (ea_one (d := thD (.bits cs)) (ev_var 6 rfl hv12)))) ⟨m, m', .bits cs, rfl, o1, o2, hn, lc5⟩ hold)) fun _ =>
            ew_or1 (et_notTrue (t := true) (ev_callNK3 Ho r7 kw_hold (d1 := thD (.bits cs)) (ev_var 6 rfl hv12) (ev_var 0 rfl b1') (ev_var 1 rfl b2') rev3 ⟨m', m, .bits cs, rfl, o2, o1, hn.symm, lc5⟩ fun d' hd => ?_)))) rfl) (fun q => nomatch q) fun _ H13 s13 => w_nil ⟨_, _, rfl, (s56.trans s7).trans ((s710.trans s11).trans (s12.trans s13))⟩)
        have := hd m' m (.bits cs) rfl
        dsimp only at this
        rw [this]
        simp [Ne.symm nc]
      · rintro σ' H6 ⟨x6, x7, rfl, s56⟩
        have s36 := (s4.trans s5).trans s56
        have c1 := g1.ex (s3.trans s36)
        have c2 := g2.ex (s3.trans s36)
        have hold : ∀ (F : Mc) d', postHold [mD m, mD m', thD (.same F)] d' → d' = .bl false := fun F d' hd => by
          have := hd m m' (.same F) rfl
          rw [q1] at this
          exact this
        refine w_one (s_ret (Ev.cast (ev_call S r1 (ea_cons (EvL.ev (el_lst (ea_cons (d := .bl false) (ev_callN Ho.pr r7 (ea_cons (ev_var 0 rfl c1) (ea_cons (ev_var 1 rfl c2) (ea_one (d := thD (.same F1)) (ev_tup (ea_cons ev_str (ea_one (ev_callN Fo r6 (ea_one (ev_var 0 rfl c1)) ⟨m, rfl, t1⟩ fun d' hd => ?_))))))) ⟨m, m', .same F1, rfl, o1, o2, hn, ok1⟩ (hold F1))
          (ea_one (d := .bl false) (ev_callN Ho.pr r7 (ea_cons (ev_var 0 rfl c1) (ea_cons (ev_var 1 rfl c2) (ea_one (d := thD (.same F2)) (ev_tup (ea_cons ev_str (ea_one (ev_var 3 rfl (hvf.ex (s3.trans s36))))))))) ⟨m, m', .same F2, rfl, o1, o2, hn, ok2⟩ (hold F2))))))
          (ea_one (EvL.ev (el_lst (ea_cons ev_bl (ea_one ev_bl)))))) ⟨_, _, rfl, (sw_bl false).lst2 (sw_bl false), (sw_bl false).lst2 (sw_bl false), ne_int _, (fun h => nomatch h), ne_int _, (fun h => nomatch h), rfl⟩) (eqs _)) fun v5 H7 s7 hv5 => k v5 H7 (s02.trans ((s3.trans s36).trans s7)) hv5)
        obtain ⟨g, hg, rfl⟩ := hd m rfl
        rw [p1 g hg]
end
end Dr
set_option Elab.async false
set_option linter.all false
set_option maxRecDepth 100000
set_option maxHeartbeats 4000000
set_option pp.deepTerms false
set_option pp.maxSteps 400
namespace Dr
open PySem PySem.Spec PyProof.Rows L2
/-! ### the text of machines -/
def Lo (d : PyData) : Prop := ∀ c ∈ d.shown.cps.toList, c < 200
theorem lo_int (i : Int) : Lo (.int i) := fun c hc => Nat.lt_of_not_le fun h => shown_int_free' (k := c) ⟨by omega, Or.inr (by omega)⟩ i hc
theorem lo_toss : Lo (.str "toss") := by
  have h : ((PyData.str "toss").shown.cps.toList.all fun c => decide (c < 200)) = true := by decide +kernel
  exact fun c hc => of_decide_eq_true (List.all_eq_true.mp h c hc)
theorem lo_out : Lo (.str "out") := by
  have h : ((PyData.str "out").shown.cps.toList.all fun c => decide (c < 200)) = true := by decide +kernel
  exact fun c hc => of_decide_eq_true (List.all_eq_true.mp h c hc)
theorem shownAll_mem {t : Str} : ∀ {xs : List PyData}, t ∈ PyData.shownAll xs → ∃ x ∈ xs, t = x.shown
  | [], h => by rw [PyData.shownAll_nil] at h; cases h
  | x :: xs, h => by
    rw [PyData.shownAll_cons, List.mem_cons] at h
    rcases h with h | h
    · exact ⟨x, List.mem_cons_self .., h⟩
    · obtain ⟨y, hy, e⟩ := shownAll_mem h
      exact ⟨y, List.mem_cons_of_mem _ hy, e⟩
theorem lo_tup {xs : List PyData} (h : ∀ x ∈ xs, Lo x) : Lo (.tuple xs) := by
  intro c hc
  rw [PyData.shown_tuple, mem_cps_append, mem_cps_append, mem_join] at hc
  rcases hc with (hc | (⟨t, ht, hc⟩ | ⟨_, hc⟩)) | hc
  · have e : (("(" : String) : Str).cps.toList = [40] := by decide
    rw [e, List.mem_singleton] at hc
    omega
  · obtain ⟨x, hx, rfl⟩ := shownAll_mem ht
    exact h x hx c hc
  · have e : ((", " : String) : Str).cps.toList = [44, 32] := by decide
    rw [e] at hc
    simp at hc
    omega
  · rw [signs_tuple_end] at hc
    split at hc
    · simp at hc
      omega
    · simp at hc
      omega
theorem pys_mem {x : PyData} : ∀ {ds : List D}, x ∈ D.pys ds → ∃ d ∈ ds, x = d.py
  | [], h => nomatch h
  | d :: ds, h => by
    rcases List.mem_cons.mp (show x ∈ d.py :: D.pys ds from h) with h | h
    · exact ⟨d, List.mem_cons_self .., h⟩
    · obtain ⟨y, hy, e⟩ := pys_mem h
      exact ⟨y, List.mem_cons_of_mem _ hy, e⟩
theorem lo_D {ds : List D} (h : ∀ d ∈ ds, Lo d.py) : Lo (D.tup ds).py := lo_tup (xs := D.pys ds) fun x hx => by
  obtain ⟨d, hd, rfl⟩ := pys_mem hx
  exact h d hd
theorem lo_row (r : Rw) : Lo (rowD r).py := by
  cases r with
  | toss x y =>
    refine lo_D fun d hd => ?_
    rcases List.mem_cons.mp hd with rfl | hd
    · exact lo_toss
    · rcases List.mem_cons.mp hd with rfl | hd
      · exact lo_int _
      · rw [List.mem_singleton.mp hd]; exact lo_int _
  | out i =>
    refine lo_D fun d hd => ?_
    rcases List.mem_cons.mp hd with rfl | hd
    · exact lo_out
    · rw [List.mem_singleton.mp hd]; exact lo_int _
theorem lo_mD (m : Mc) : Lo (mD m).py := by
  refine lo_D fun d hd => ?_
  rcases List.mem_cons.mp hd with rfl | hd
  · exact lo_int _
  · rw [List.mem_singleton.mp hd]
    refine lo_D fun d hd => ?_
    obtain ⟨r, _, rfl⟩ := List.mem_map.mp hd
    exact lo_row r
def twoD (m m' : Mc) : D := .tup [mD m, mD m']
theorem shw_two {m m' : Mc} (ok : m.Ok 100) (ok' : m'.Ok 100) : Shw (twoD m m') := by
  refine ⟨?_, ?_, ?_⟩
  · show (D.sh 49 (mD m) && (D.sh 49 (mD m') && true)) = true
    rw [D.sh_up _ (by decide) (mD_sh m), D.sh_up _ (by decide) (mD_sh m')]; rfl
  · show (D.si (mD m) && (D.si (mD m') && true)) = true
    rw [mD_si ok (by decide), mD_si ok' (by decide)]; rfl
  · have h1 := mD_bu m
    have h2 := mD_bu m'
    have := ok.le
    have := ok'.le
    show D.bu (mD m) + 1 + (D.bu (mD m') + 1 + 0) ≤ 1048576
    omega
theorem shw_text {m m' : Mc} (ok : m.Ok 100) (ok' : m'.Ok 100) : Shw (.str (twoD m m').py.shown) := by
  have lo : Lo (twoD m m').py := lo_D fun d hd => by
    rcases List.mem_cons.mp hd with rfl | hd
    · exact lo_mD m
    · rw [List.mem_singleton.mp hd]; exact lo_mD m'
  have hs := shw_two ok ok'
  refine ⟨?_, rfl, ?_⟩
  · show PyData.strOk _ = true
    unfold PyData.strOk
    rw [Array.all_eq_true']
    intro c hc
    have := lo c (Array.mem_toList_iff.mpr hc)
    exact decide_eq_true (by omega)
  · obtain ⟨h1, h2⟩ := D.sh_ok 50 _ hs.sh
    obtain ⟨h3, _, _⟩ := D.si_ok 50 _ hs.sh hs.si
    have h4 := PyData.shown_le_bulk 13 (by decide) _ (PyData.leavesShort_of_canLay0 13 _ h1 h3)
    rw [D.bu_eq 50 _ hs.sh] at h4
    have h5 : D.bu (twoD m m') ≤ 2000 := by
      have h1 := mD_bu m
      have h2 := mD_bu m'
      have := ok.le
      have := ok'.le
      show D.bu (mD m) + 1 + (D.bu (mD m') + 1 + 0) ≤ 2000
      omega
    show (twoD m m').py.shown.length ≤ 1048576
    omega
section
variable {P : Program} {w : World} {K : PySem.W.Frag} {mg : Str → Option Value} {base : Heap}
def spLaw (K : PySem.W.Frag) : Sp := fun vs H Q _ => ∃ (a : Addr) (ns : List Int), vs = [.ref a] ∧ SqL K H a (ns.map V.int) ∧ ns.length ≤ 63 ∧ ∀ H', Q (.bl true) H'
theorem sc70 : FnScope ["_law_script", "_law_deck_here", "_law_turn", "_law_n", "_law_one", "_law_way", "_law_other", "_law_text"] ["_law_script"] (defScope (top 70)) := ⟨rfl, rfl, rfl, by decide +kernel, rfl, by decide +kernel, by decide +kernel⟩
theorem pr_law (T : Txt K mg) (Mk : Pr P w K mg base "_law_deck" 1 ["_law_script"] (spMk K)) (F : Pr P w K mg base "_law_draw" 1 ["_law_deck_here", "_law_many"] (spDk K preDraw postDraw)) (Pk : Pr P w K mg base "_law_pick" 2 ["_law_deck_here", "_law_some"] (spDk K prePick postPick))
    (Ma : Pr P w K mg base "_law_machine" 3 ["_law_deck_here", "_law_n", "_law_many"] (spDk K preMach postMach)) (G : Pr P w K mg base "_law_grown" 2 ["_law_deck_here", "_law_machine_here"] (spDk K preGrow postGrow)) (C : Pr P w K mg base "_law_changed" 2 ["_law_deck_here", "_law_machine_here"] (spDk K preChg postChg))
    (PR : Pr P w K mg base "_law_is_pair_right" 41 ["_law_one", "_law_other"] (spD K prePair)) (S : Pr P w K mg base "_law_same" 1 ["_law_told", "_law_due"] (spD K preExact)) (Ho : PrB P w K mg base "runs_hold" 49 7 ["one", "other", "thing"] (spN K preHold postHold))
    (LF : Pr P w K mg base "_law_folded" 2 ["_law_machine_here"] (spN K preLFold postLFold)) : Pr P w K mg base "law" 42 ["_law_script"] (spLaw K) := by
  have fr := T.free "range" (by decide)
  have fp := T.free "repr" (by decide)
  refine mk_pr T 52 rfl sc70 (fun _ _ _ _ _ _ us hl => match us, hl with | [_], _ => rfl) (fun vs H Q E h => ?_) (fun cdv A0 outer s H vs Q E hr h => ?_)
  · obtain ⟨a, ns, rfl, _⟩ := h
    rfl
  · obtain ⟨a, ns, rfl, hS, hn, k⟩ := h
    have r1 := hr.mono (show 1 ≤ 41 by decide)
    have r2 := hr.mono (show 2 ≤ 41 by decide)
    have r3 := hr.mono (show 3 ≤ 41 by decide)
    have r7 := hr.mono (show 7 ≤ 41 by decide)
    refine w_cons (s_setW sc70.nd 1 (we_call Mk r1 (wa_cons ((vv_var 0 rfl) H (Same.refl _) _ fun H1 s1 => wa_nil ⟨a, ns, rfl, sqL_ex hS s1, hn, fun p q H2 s2 hD => ?_⟩))))
    refine w_cons (s_for (wk_rng fr (n := 3) ev_int (by decide)) fun H3 s3 => ⟨fun j σ' H' => ∃ (x2 x3 x4 x5 x6 x7 : Option V), σ' = [some (.ref a), some (.ref p), x2, x3, x4, x5, x6, x7] ∧ Dck H' p q, ⟨_, _, _, _, _, _, rfl, hD.ex s3⟩, fun _ _ _ _ => trivial, ?_, ?_⟩)
    · rintro j d v σ' H4 H5 hj ⟨x2, x3, x4, x5, x6, x7, rfl, hD4⟩ s5 hv
      refine g_name sc70.nd 2 ?_
      have hD5 := hD4.ex s5
      refine w_cons (s_setW sc70.nd 3 (we_dk Pk r2 (vv_var 1 rfl) hD5 (ea_one (ev_tup (ds := [nI 2, nI 3, nI 1, nI 4]) (ea_cons ev_int (ea_cons ev_int (ea_cons ev_int (ea_one ev_int)))))) ⟨[nI 2, nI 3, nI 1, nI 4], rfl, by simp, by exact Nat.le_of_ble_eq_true rfl, rfl⟩ fun d3 v3 H6 hp3 m6 hD6 hv3 => ?_))
      obtain ⟨n, rfl, n1, n8⟩ : ∃ n : Nat, d3 = nI n ∧ 1 ≤ n ∧ n ≤ 8 := by
        have := hp3 _ rfl
        simp only [List.mem_cons, List.not_mem_nil, or_false] at this
        rcases this with rfl | rfl | rfl | rfl
        · exact ⟨2, rfl, by decide, by decide⟩
        · exact ⟨3, rfl, by decide, by decide⟩
        · exact ⟨1, rfl, by decide, by decide⟩
        · exact ⟨4, rfl, by decide, by decide⟩
      have e3 := hv3.intI
      subst e3
      refine w_cons (s_par2W sc70.nd 4 5 (wa_cons (we_call Ma r3 (wa_cons ((vv_var 1 rfl) H6 (Same.refl _) _ fun H7 s7 => wa_cons ((ev_var 3 rfl (.int _) : Ev _ _ _ H7 (.int (n : Nat))).int H7 (Same.refl _) _ fun H8 s8 => wa_cons (we_add (i := 1) ev_int fun H9 s9 => we_draw (n := 12) F r1 (vv_var 1 rfl) (hD6.ex ((s7.trans s8).trans s9)) ev_int (by decide) (by decide) fun b H10 hb m10 hD10 => ⟨b, rfl, wa_nil
          ⟨p, q, _, [nI n, nI (1 + b)], rfl, hD10, ⟨n, 1 + b, rfl, n1, n8, by omega, by omega⟩, .cons (.int _) (.cons (by rw [show (V.int (1 + (b : Int))) = V.int ((1 + b : Nat) : Int) by simp]; exact .int _) .nil), fun d4 v4 H11 hp4 m11 hD11 hv4 => wa_cons (we_draw (n := 4) F r1 (vv_var 1 rfl) hD11 ev_int (by decide) (by decide) fun way H12 hway m12 hD12 => wa_nil ⟨_, _, rfl, ?_⟩)⟩⟩)))))))
      obtain ⟨m, rfl, ok, hmn⟩ := hp4 n (1 + b) rfl
      have hv4' := hv4.up m12.tx (mD_pl m)
      refine w_cons (s_setW sc70.nd 6 (we_dk G r2 (vv_var 1 rfl) hD12 (ea_one (ev_var 4 rfl hv4')) ⟨m, rfl, ok⟩ fun d6 v6 H13 hp6 m13 hD13 hv6 => ?_))
      obtain ⟨m', rfl, ok', hmn'⟩ := hp6 m rfl
      have hv4b := hv4'.up m13.tx (mD_pl m)
      clear hv4' hv4 m11 m12 m10 m6 hD11 hD12 hD10 hD6 hp6 hp4
      have ok15 := ok.up (show 12 ≤ 15 by decide)
      refine w_cut (fun σ' H' => ∃ (v6' : V) (mo : Mc), σ' = [some (.ref a), some (.ref p), some v, some (.int (n : Nat)), some v4, some (.int (way : Nat)), some v6', x7] ∧ Dck H' p q ∧ Im K H' v4 (mD m) ∧ Im K H' v6' (mD mo) ∧ mo.Ok 15 ∧ mo.n = m.n) ?_ ?_
      · refine s_if (EvW.t (ew_or (et_eqI (i := (way : Int)) (j := 1) (ev_var 5 rfl (.int _)) ev_int) fun _ => ew_or1 (et_eqI (i := (way : Int)) (j := 2) (ev_var 5 rfl (.int _)) ev_int))) (fun _ H14 s14 => ?_) fun _ H14 s14 => ?_
        · refine w_one (s_setW sc70.nd 6 (we_dk C r2 (vv_var 1 rfl) (hD13.ex s14) (ea_one (ev_var 6 rfl (hv6.ex s14))) ⟨m', rfl, ok'⟩ fun d7 v7 H15 hp7 m15 hD15 hv7 => ?_))
          obtain ⟨mo, rfl, oko, hno⟩ := hp7 m' rfl
          exact ⟨v7, mo, rfl, hD15, (hv4b.ex s14).up m15.tx (mD_pl m), hv7, oko, by rw [hno, hmn']⟩
        · refine w_one (s_if (et_eqI (i := (way : Int)) (j := 3) (ev_var 5 rfl (.int _)) ev_int) (fun _ H15 s15 => ?_) fun _ H15 s15 => w_nil ⟨v6, m', rfl, hD13.ex (s14.trans s15), hv4b.ex (s14.trans s15), hv6.ex (s14.trans s15), ok', hmn'⟩)
          refine w_one (s_setW sc70.nd 6 (we_call Ma r3 (wa_cons ((vv_var 1 rfl) H15 (Same.refl _) _ fun H7 s7 => wa_cons ((ev_var 3 rfl (.int _) : Ev _ _ _ H7 (.int (n : Nat))).int H7 (Same.refl _) _ fun H8 s8 => wa_cons (we_add (i := 1) ev_int fun H9 s9 => we_draw (n := 8) F r1 (vv_var 1 rfl) (hD13.ex ((s14.trans s15).trans ((s7.trans s8).trans s9))) ev_int (by decide) (by decide) fun b2 H10 hb2 m10 hD10 => ⟨b2, rfl, wa_nil
            ⟨p, q, _, [nI n, nI (1 + b2)], rfl, hD10, ⟨n, 1 + b2, rfl, n1, n8, by omega, by omega⟩, .cons (.int _) (.cons (by rw [show (V.int (1 + (b2 : Int))) = V.int ((1 + b2 : Nat) : Int) by simp]; exact .int _) .nil), fun d7 v7 H11 hp7 m11 hD11 hv7 => ?_⟩⟩))))))
          obtain ⟨mo, rfl, oko, hno⟩ := hp7 n (1 + b2) rfl
          exact ⟨v7, mo, rfl, hD11, ((hv4b.ex ((s14.trans s15).trans ((s7.trans s8).trans s9))).up m10.tx (mD_pl m)).up m11.tx (mD_pl m), hv7, oko.up (by decide), by rw [hno, hmn]⟩
      · rintro σ' H14 ⟨v6', mo, rfl, hD14, hm, hmo, oko, hno⟩
        have o1 := ok15.up (show 15 ≤ 100 by decide)
        have o2 := oko.up (show 15 ≤ 100 by decide)
        have ne_str : ∀ (x : Str) (i : Int), D.str x ≠ .int i := fun _ _ h => nomatch h
        refine w_cons (s_set sc70.nd 7 (ev_repr r1 fp (ev_tup (ea_cons (ev_var 4 rfl hm) (ea_one (ev_var 6 rfl hmo)))) (shw_two o1 o2) (fun _ h => nomatch h) (fun h => nomatch h)) fun v7 H15 s15 hv7 => ?_)
        have hm15 := hm.ex s15
        have hmo15 := hmo.ex s15
        have shx := shw_text o1 o2
        have eqs : ∀ d : D, D.bl (decide (d.py.shown = d.py.shown)) = .bl true := fun d => by rw [decide_eq_true rfl]
        refine w_cons (s_if (t := false) (EvT.cast (EvW.t (ew_or (t := false) (et_not (et_val (t := true) (ev_call PR hr (ea_cons (ev_var 4 rfl hm15) (ea_one (ev_var 6 rfl hmo15))) ⟨m, mo, rfl, ok15, oko, hno.symm, rfl⟩))) fun _ =>
            ew_or1 (et_not (et_val (t := true) (Ev.cast (ev_call S r1 (ea_cons (ev_repr r1 fp (ev_tup (ea_cons (ev_var 4 rfl hm15) (ea_one (ev_var 6 rfl hmo15)))) (shw_two o1 o2) (fun _ h => nomatch h) (fun h => nomatch h)) (ea_one (ev_var 7 rfl hv7))) ⟨_, _, rfl, shx, shx, ne_str _, (fun h => nomatch h), ne_str _, (fun h => nomatch h), rfl⟩) (eqs _)))))) rfl) (fun q => nomatch q) fun _ H16 s16 => w_nil ?_)
        obtain ⟨f, hf⟩ := rndN_ex m (lReached m) (lReached m).length
        obtain ⟨f', hf'⟩ := rndN_ex mo (lReached mo) (lReached mo).length
        have i1 := lfold_is ok15 hf
        have i2 := lfold_is oko hf'
        generalize lfoldM m f (lReached m) = F1 at i1
        generalize lfoldM mo f' (lReached mo) = F2 at i2
        have refl1 : Bis m m 0 0 := i1.bis.trans i1.bis.symm
        have refl2 : Bis mo mo 0 0 := i2.bis.trans i2.bis.symm
        have u1 : ∀ d', postLFold [mD m] d' → d' = mD F1 := fun d' hd => by
          obtain ⟨g, hg, rfl⟩ := hd m rfl
          rw [(lfold_is ok15 hg).eq i1 rfl refl1]
        have u2 : ∀ d', postLFold [mD mo] d' → d' = mD F2 := fun d' hd => by
          obtain ⟨g, hg, rfl⟩ := hd mo rfl
          rw [(lfold_is oko hg).eq i2 rfl refl2]
        have hm16 := hm15.ex s16
        have hmo16 := hmo15.ex s16
        obtain ⟨bb, hb1, hb2⟩ : ∃ bb : Bool, (∀ d', postHold [mD m, mD mo, thD (.same F1)] d' → d' = .bl bb) ∧ (mD F1 = mD F2 ↔ bb = true) := by
          by_cases hb : Bis m mo 0 0
          · refine ⟨true, fun d' hd => ?_, fun _ => rfl, fun _ => ?_⟩
            · have := hd m mo (.same F1) rfl
              dsimp only at this
              rw [bis_parting ok15 oko hb] at this
              obtain ⟨g, hg, rfl⟩ := this
              rw [(fold_is ok15 hg).eq i1 rfl refl1]
              simp
            · rw [i1.eq i2 hno.symm hb]
          · refine ⟨false, fun d' hd => ?_, fun e => ?_, fun e => nomatch e⟩
            · have := hd m mo (.same F1) rfl
              dsimp only at this
              cases e : parting m mo with
              | none => exact absurd (parting_none ok15 oko e) hb
              | some bs => rw [e] at this; exact this
            · have := mD_inj e
              subst this
              exact absurd (i1.bisim i2) hb
        refine w_one (s_if (t := false) (EvT.cast (et_not (et_val (t := true) (Ev.cast (ev_call S r1 (ea_cons (d := .bl bb) (ev_callN Ho.pr r7 (ea_cons (ev_var 4 rfl hm16) (ea_cons (ev_var 6 rfl hmo16) (ea_one (d := thD (.same F1)) (ev_tup (ea_cons ev_str (ea_one (ev_callN LF r2 (ea_one (ev_var 4 rfl hm16)) ⟨m, rfl, o1⟩ u1))))))) ⟨m, mo, .same F1, rfl, o1, o2, hno.symm, i1.ok 100 o1⟩ hb1)
            (ea_one (d := .bl bb) (Ev.cast (ev_eqD r1 (ev_callN LF r2 (ea_one (ev_var 4 rfl hm16)) ⟨m, rfl, o1⟩ u1) (ev_callN LF r2 (ea_one (ev_var 6 rfl hmo16)) ⟨mo, rfl, o2⟩ u2) (mD_sh _) (mD_sh _) (mD_nb _) (mD_nb _)) ?_)))
            ⟨_, _, rfl, (sw_bl bb).shw, (sw_bl bb).shw, (fun _ h => nomatch h), (fun h => nomatch h), (fun _ h => nomatch h), (fun h => nomatch h), rfl⟩) (eqs _)))) rfl) (fun q => nomatch q) fun _ H17 s17 => w_nil ⟨_, _, _, _, _, _, rfl, hD14.ex ((s15.trans s16).trans s17)⟩)
        cases bb with
        | true => rw [hb2.mpr rfl]; simp
        | false =>
          have : mD F1 ≠ mD F2 := fun e => nomatch hb2.mp e
          simp [this]
    · rintro σ' H4 _
      exact w_one (s_ret ev_bl fun v H5 s5 hv => by rw [hv.blI]; exact k H5)
end
end Dr
set_option Elab.async false
set_option linter.all false
set_option maxRecDepth 100000
set_option maxHeartbeats 4000000
set_option pp.deepTerms false
set_option pp.maxSteps 400
namespace Dr
open PySem PySem.Spec PyProof.Rows L2
/-! ### what the top has left, by the head's facts -/
theorem txt_of {K : PySem.W.Frag} {hp : Heap} {mg : Str → Option Value} {w : World} (kin : K.In hp) (gl : hp.Ns mainGlobals mg) (c : He.SaysX fa fn [] [] exB w hp K) : Txt K mg := by
  have d := c.t.d
  have hg : ∀ x, He.Fa.glo x ∈ fa → mg x = some (.ref (He.ga K x)) := fun x h => He.glo_ok kin gl (d.facts h)
  have m1 : He.Fa.str "TOSS" "toss" ∈ fa := List.mem_append_right _ (by simp)
  have m2 : He.Fa.str "OUT" "out" ∈ fa := List.mem_append_right _ (by simp)
  have m3 : He.Fa.int "MOST_OUTCOMES" 8 ∈ fa := List.mem_append_right _ (by simp)
  have m4 : He.Fa.glo "ZERO" ∈ fa := List.mem_append_right _ (by simp)
  have m5 : He.Fa.glo "ONE" ∈ fa := List.mem_append_right _ (by simp)
  have m6 : He.Fa.glo "HALF" ∈ fa := List.mem_append_right _ (by simp)
  have ex := c.more
  unfold exB at ex
  rw [Bool.and_eq_true, Bool.and_eq_true] at ex
  obtain ⟨x1, x2, x3⟩ := ex
  refine ⟨fun j x i e => ?_, fun j x i e => ?_, fun x hx => ?_, He.str_ok kin gl (d.facts m1), He.str_ok kin gl (d.facts m2), He.int_ok kin gl (d.facts m3), hg _ m4, hg _ m5, hg _ m6, fun H => He.tupB_ok x1 H, fun H => He.tupB_ok x2 H, fun H => He.tupB_ok x3 H⟩
  · have e2 : fn[j]? = some (dOf x i) := by
      unfold fn
      rw [List.getElem?_map, e]; rfl
    obtain ⟨fd, F⟩ := d.def_ j e2
    exact ⟨fd, F⟩
  · refine hg x (List.mem_append_left _ (List.mem_append_left _ ?_))
    exact List.mem_map.mpr ⟨(x, i), List.mem_of_getElem? e, rfl⟩
  · refine He.free_ok kin gl (d.facts ?_)
    exact List.mem_append_left _ (List.mem_append_right _ (List.mem_map.mpr ⟨x, hx, rfl⟩))
/-! ### all promises together -/
theorem law_ok {P : Program} {w : World} {K : PySem.W.Frag} {mg : Str → Option Value} {base : Heap} (T : Txt K mg) (hsee : base.NoSeer) (htree : P.given.tree = none) : Pr P w K mg base "law" 42 ["_law_script"] (spLaw K) := by
  have hcl : ∀ m : Mc, m.Ok 1000 → Closed m := fun m ok => closed_all ok
  have isint := pr_isint T (P := P) (w := w) (base := base)
  have betw := pr_betw T isint
  have areb := pr_areb T betw
  have word := pr_word T (P := P) (w := w) (base := base)
  have bits := pr_bits T areb
  have std := pr_std T word betw
  have mac := pr_mac T std betw
  have need := pr_need T mac
  have two := pr_two T need
  have gcd := pr_gcd T (P := P) (w := w) (base := base)
  have low := pr_low T hsee htree gcd
  have plus := pr_plus T low
  have minus := pr_minus T low
  have times := pr_times T low
  have over := pr_over T low
  have runf := pr_runf T (P := P) (w := w) (base := base)
  have ways := pr_ways T (P := P) (w := w) (base := base)
  have reach := pr_reach T ways
  have out := pr_out T (P := P) (w := w) (base := base)
  have unit := pr_unit T (P := P) (w := w) (base := base)
  have eqs := pr_eqs T unit plus
  have wi := fun z wd => pr_wi T (z := z) (wd := wd) minus over
  have pu := fun z wd => pr_put T (z := z) (wd := wd) plus times
  have vals := pr_vals T ways out eqs wi pu plus times
  have ch := pr_ch T vals
  have alike := prB_alike T two ch
  have needb := pr_needb T bits
  have run := pr_run T need needb runf
  have lots := pr_lots T reach hcl
  have rfold := pr_fold T hcl lots
  have folded := pr_folded T need rfold
  have part := pr_part T (P := P) (w := w) (base := base)
  have judge := prB_judge T two part rfold
  have exact_ := pr_exact T (P := P) (w := w) (base := base)
  have hold := prB_hold T hcl two part rfold word exact_ bits runf
  have len := prB_len T two
  have same := pr_same T (P := P) (w := w) (base := base)
  have lreach := pr_lreach T (P := P) (w := w) (base := base)
  have lrun := pr_lrun T (P := P) (w := w) (base := base)
  have lbits := pr_lbits T (P := P) (w := w) (base := base)
  have lfold := pr_lfold T lreach
  have draw := pr_draw T (P := P) (w := w) (base := base)
  have pick := pr_pick T draw
  have mach := pr_mach T draw pick
  have grow := pr_grow T draw
  have chg := pr_chg T draw
  have deck := pr_deck T (P := P) (w := w) (base := base)
  have pair := pr_pair T (fun m ok => solve_ok ok) (fun m m' ok ok' hn b => bis_ch ok ok' hn b) lfold judge same len alike lbits lrun run hold folded
  exact pr_law T deck draw pick mach grow chg pair same hold lfold
/-! ### the law's own call -/
section
variable {P : Program} {w : World} {K : PySem.W.Frag} {mg mb : Str → Option Value} {k : Nat} {f l : Addr} {x : Str} {sp : Sp} {sh : Shared} {us : List Value} {ns : List Int}
/-- over a tracked heap that knows the script at most -/
theorem end_at {H : Hp} {ob : Obj} (kin : K.In sh.heap) (glob : sh.heap.Ns mainGlobals mg) (bl : sh.heap.Ns builtinsNs mb) (blb : ∀ y : Str, y ≠ "__name__" → mb y = bootBuiltins y) (lim : sh.heap.NoLimit) (see : sh.heap.NoSeer) (gens : sh.gens = #[])
    (obj : sh.heap.get? l = some ob) (cl : ob.cls = .type "list") (sq : ∃ vs n, ob.data = .seq vs n) (room : Rm k callerA) (fn_ : ∀ b : Heap, K.In b → b.Ns mainGlobals mg → b.NoSeer → ∃ fd, FnG P w K mg b k f fd [x] sp ∧ Binds K fd [x] [])
    (hH : ∀ b, b ≠ l → H b = none) (hl : H l = none ∨ (K.lookup l = none ∧ ∃ o xs, H l = some (.frz o (.lst xs)))) (hok : HOk P w H sh.heap) (h : sp [.ref l] H (fun v _ => v = .bl true) E0) :
    codeAny (model P w) callerA (.call (.ref f) ⟨[.ref l], []⟩) (fun r s2 => r = .ok (.ret (.bool true)) ∧ OldK sh.heap s2.heap ∧ s2.os = sh.os ∧ AllBare s2.gens) sh := by
  have off : ∀ {b : Addr} {o : Obj}, sh.heap.get? b = some o → (∀ vs n, o.data ≠ .seq vs n) → (hidT sh.heap H).get? b = some o := fun {b o} e nd => by
    refine hidT_get e (hH b fun q => ?_)
    subst q
    rw [obj] at e
    obtain ⟨vs, n, z⟩ := sq
    exact nd vs n (Option.some.inj e ▸ z)
  have nsO : ∀ {b : Addr} {m : Str → Option Value}, sh.heap.Ns b m → (hidT sh.heap H).Ns b m := by
    rintro b m ⟨o, es, ep, e, q, r⟩
    exact ⟨o, es, ep, off e (fun vs n z => by rw [q] at z; cases z), q, r⟩
  have kin2 : K.In (hidT sh.heap H) := by
    intro b o e
    by_cases q : b = l
    · subst q
      rcases hl with z | ⟨z, _⟩
      · exact hidT_get (kin _ _ e) z
      · rw [z] at e; cases e
    · exact hidT_get (kin b o e) (hH b q)
  have see2 : (hidT sh.heap H).NoSeer := by
    obtain ⟨⟨m1, a1, a2⟩, ⟨m2, b1, b2⟩, ⟨m3, c1, c2⟩, ⟨m4, bm, o4, d1, d2, d3, d4, d5⟩⟩ := see
    refine ⟨⟨m1, nsO a1, a2⟩, ⟨m2, nsO b1, b2⟩, ⟨m3, nsO c1, c2⟩, ⟨m4, bm, o4, nsO d1, d2, hidT_get d3 (hH bm fun q => ?_), d4, d5⟩⟩
    subst q
    rw [obj] at d3
    rw [← Option.some.inj d3, cl] at d4
    exact absurd (Value.type.inj d4) (by decide)
  have lim2 : (hidT sh.heap H).NoLimit := by
    obtain ⟨mc, a1, a2⟩ := lim
    exact ⟨mc, nsO a1, a2⟩
  have env0 : Env0 P w K mg (hidT sh.heap H) callerA [] sh H := by
    refine ⟨rfl, ⟨kin2, nsO glob, ⟨mb, nsO bl, blb⟩, lim2⟩, fun b o e => of_hidT e, ?_, trivial, fun b hb => ?_, hok, .of_eq gens⟩
    · rw [hidT_size]; exact Nat.le_refl _
    · cases hb
  obtain ⟨fd, fg, bd⟩ := fn_ _ kin2 (nsO glob) see2
  have go := fg.run callerA [] sh H ⟨[.ref l], []⟩ [.ref l] [.ref l] _ _ room env0 (bd sh [.ref l] kin rfl) (.cons rfl .nil) h
  refine codeAny_mono go ?_
  rintro (e | fl) s2 z
  · exact False.elim z
  · cases fl with
    | ret u =>
      obtain ⟨v, H2, os, bare, un, hok2, rv, q⟩ := z
      have q : v = .bl true := q
      subst q
      obtain rfl : u = Value.bool true := rv
      refine ⟨rfl, OldK.of_keep fun b o e => ?_, os, bare⟩
      by_cases q : H b = none
      · exact un.keep b o e q (fun y => nomatch y) (fun y => nomatch y)
      · have eb : b = l := Classical.byContradiction fun y => q (hH b y)
        subst eb
        rcases hl with y | ⟨_, o2, xs, y⟩
        · exact absurd y q
        · have y2 := un.frzs b o2 _ y
          have g1 := (hok b _ y).1
          rw [e] at g1
          rw [Option.some.inj g1]
          exact (hok2 b _ y2).1
    | _ => exact False.elim z
theorem end_call (kin : K.In sh.heap) (glob : sh.heap.Ns mainGlobals mg) (bl : sh.heap.Ns builtinsNs mb) (blb : ∀ y : Str, y ≠ "__name__" → mb y = bootBuiltins y) (lim : sh.heap.NoLimit) (see : sh.heap.NoSeer) (gens : sh.gens = #[])
    (obj : sh.heap.get? l = some { cls := .type "list", data := .seq us.toArray }) (hin : IntsAre us ns) (few : ns.length ≤ sizeLine) (room : Rm k callerA) (fn_ : ∀ b : Heap, K.In b → b.Ns mainGlobals mg → b.NoSeer → ∃ fd, FnG P w K mg b k f fd [x] sp ∧ Binds K fd [x] [])
    (h : ∀ H : Hp, SqL K H l (ns.map V.int) → sp [.ref l] H (fun v _ => v = .bl true) E0) :
    codeAny (model P w) callerA (.call (.ref f) ⟨[.ref l], []⟩) (fun r s2 => r = .ok (.ret (.bool true)) ∧ OldK sh.heap s2.heap ∧ s2.os = sh.os ∧ AllBare s2.gens) sh := by
  have rv := vals_ints hin
  have lv := hin.length
  cases q : K.lookup l with
  | some o =>
    have e := kin l o q
    rw [obj] at e
    obtain rfl := Option.some.inj e
    refine end_at (H := fun _ => none) kin glob bl blb lim see gens obj rfl ⟨_, _, rfl⟩ room fn_ (fun _ _ => rfl) (.inl rfl) (fun b u z => nomatch z) (h _ ?_)
    exact .inr ⟨_, us.toArray, _, q, rfl, rfl, rfl, by rw [List.size_toArray, lv]; exact few, by simpa using rv⟩
  | none =>
    let H0 : Hp := fun b => if b = l then some (.frz { cls := .type "list", data := .seq us.toArray } (.lst (ns.map V.int))) else none
    have h1 : H0 l = some (.frz { cls := .type "list", data := .seq us.toArray } (.lst (ns.map V.int))) := if_pos rfl
    have h2 : ∀ b, b ≠ l → H0 b = none := fun b ne => if_neg ne
    refine end_at (H := H0) kin glob bl blb lim see gens obj rfl ⟨_, _, rfl⟩ room fn_ h2 (.inr ⟨q, _, _, h1⟩) (fun b u z => ?_) (h H0 (.inl (.inr ⟨_, h1⟩)))
    by_cases e : b = l
    · subst e
      rw [h1] at z
      obtain rfl := Option.some.inj z
      exact ⟨obj, by rw [List.length_map]; exact few, us, _, rv, obj⟩
    · rw [h2 b e] at z; cases z
end
end Dr
open PySem PySem.W PySem.Calls PyProof.Rows
theorem PySem.Challenge.cw_drawnbits_k23_whole_machines_that_run_th_holds : PySem.Challenge.rw_drawnbits_k23_whole_machines_that_run_th.Holds := by
  w_on; o_law
  refine HandSHeadRun.head_any (r := Dr.R) (q := view Dr.R.prog [70]) (H := Dr.hk) (ob := Dr.ob) (M := 4000) (loose := Dr.looseL) (d := HandSHeadRun.topDef Dr.R.prog 70) (kwd := []) Dr.ob_eq
    (by kernel_rfl) (fun s => by kernel_rfl) Dr.run (by kernel_rfl) (by kernel_rfl) (by kernel_rfl) (by rfl) (by first | assumption | decide +kernel) (by decide +kernel) ⟨rfl, rfl, rfl, rfl, rfl, by decide +kernel⟩ ?hw ?hc
  case hw => w_witness2
  case hc =>
    refine Att.attach_call (n := 63) rfl (by kernel_rfl) fun w s0 s1 mg mb f o pm cd doc a vs ns G Y ho hd hcd hmg hobj hints hlen hg => ?_
    obtain ⟨K, kin, c⟩ := Y
    have T := Dr.txt_of kin G.T.g c
    have see := G.T.seer (by kernel_rfl)
    have e : (HandSHeadRun.topDef Dr.R.prog 70).name = ("law" : PySem.Str) := by kernel_rfl
    rw [e] at hmg
    have e2 := hmg.symm.trans (T.glo 52 "law" 70 rfl)
    cases e2
    exact Dr.end_call (k := 42) (x := "_law_script") (sp := Dr.spLaw K) kin G.T.g G.T.b G.T.builtins G.T.nolimit see hg hobj hints (Nat.le_trans hlen (by decide)) (show Dr.Rm 42 callerA from ⟨⟨rfl, by decide, by decide⟩, rfl⟩)
      (fun b kb gb sb => by
        obtain ⟨fd, h1, h2, _⟩ := Dr.law_ok (P := Dr.R.prog) (w := w) (base := b) T sb rfl
        exact ⟨fd, h1, h2⟩) fun H hS => ⟨a, ns, rfl, hS, hlen, fun _ => rfl⟩
