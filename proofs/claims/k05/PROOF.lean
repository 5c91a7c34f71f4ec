import PyProof.Rows.All
import Wide.All
import OpenK.AllK
import Wide.FinOn
import HandS.ForMost
import HandS.ForExc
import HandS.Wide
import HandS.IsInst
import HandS.Flow
import HandS.Defaults
import HandS.HeadEnd
import HandS.TupAny
import HandS.Style
import HandS.Deep
import HandS.Conv
import HandS.StrMore
import HandS.FStr
import HandS.IntHex
import PyProof.StrOps2
import HandS.Head0
import HandS.Head1
import HandS.Head2
import HandS.HeadHook1
import HandS.HeadHook2
import HandS.Codes
import HandS.CallLocal
import HandS.MakeKw
import HandS.Exc
import HandS.ExcInit
import HandS.ExcField
import HandS.ExcIs
import KE.KExcIs
import HandS.HeadHook4
import HandS.OwnEq
import PyProof.FString2
import PyProof.FString4
import PyProof.CallFns
import HandS.Spec
import KE.KExcInit
import PyProof.ExcBaseAll.IndexError
import PyProof.ExcBaseAll.LookupError
import PyProof.ExcBaseAll.ZeroDivisionError
import HandS.ClsMeth
import HandS.TryMany
import PyProof.FactsLen
import HandS.Zip0
import KE.KCallOwn
import KE.KSortKey
import KE.KSortTup
import HandS.SortKw
import HandS.NamedTupSort
import KE.KxStill
import PyProof.ReprRoads
import PyProof.Rows.NestShow
import PyProof.RowDictHeap
import PySem.Challenge.RW_pearlrise_k05_beads_made
set_option Elab.async false
set_option linter.all false
set_option maxRecDepth 100000
set_option maxHeartbeats 4000000
/-! Promises that know that no repr is under way (guards = some []). -/
namespace DL
open PySem PySem.Spec PyProof.Rows L2
structure RoomG (k : Nat) (A : Around) : Prop where
  rm : Room k A
  gs : A.guards = some []
section
variable {k : Nat} {A : Around}
theorem RoomG.hd (r : RoomG k A) : A.handled = none := r.rm.hd
theorem RoomG.mono {j : Nat} (r : RoomG j A) (h : k ≤ j) : RoomG k A := ⟨r.rm.mono h, r.gs⟩
theorem RoomG.deeper (r : RoomG (k + 1) A) (env : Env) : RoomG k (A.deeper env) := ⟨r.rm.deeper env, r.gs⟩
theorem RoomG.in1 (r : RoomG (k + 1) A) : RoomG k A.in1 := ⟨r.rm.in1, r.gs⟩
theorem RoomG.depth (r : RoomG k A) : A.depth < recursionLimit := r.rm.depth
theorem RoomG.units (r : RoomG k A) : A.units + 64 < cLine := r.rm.units
theorem RoomG.units0 (r : RoomG k A) : A.units < cLine := r.rm.units0
theorem RoomG.u65 (r : RoomG k A) : A.units + 65 < cLine := by have := r.rm.un; omega
theorem RoomG.make (r : RoomG (k + 1) A) (C : Addr) (us : List Value) (kw : List (Str × Value)) : RoomG k (A.under (.builtin "type.__call__" ⟨.ref C :: us, kw⟩)) := by
  refine ⟨r.rm.make C us kw, ?_⟩
  show pushGuards (Code.guards (.builtin "type.__call__" ⟨.ref C :: us, kw⟩)) A.guards = some []
  rw [r.gs]
  first | rfl | simp [Code.guards, Code.isGuard, guardIds, pushGuards]
end
/-- as FnOk, where no repr is under way -/
structure FnOkG (P : Program) (w : World) (K : PySem.W.Frag) (mg : Str → Option Value) (base : Heap) (X : CXT) (k : Nat) (f : Addr) (fd : FuncData) (ps : List Str) (sp : Sp) : Prop where
  len : ∀ xs H Q E, sp xs H Q E → xs.length = ps.length
  run : ∀ (A : Around) (stk : List Env) (s : Shared) (H : Hp) (as : Args) (us : List Value) (xs : List V) (Q : VK) (E : XK), RoomG k A → Env0 P w K mg base A stk s H → BindsTo s fd as (ps.zip us) → Vals xs us →
    sp xs H Q E → codeAny (model P w) A (.call (.ref f) as) (CR X stk P w H s Q E) s
section
variable {P : Program} {w : World} {K : PySem.W.Frag} {mg : Str → Option Value} {base : Heap} {X : CXT} {k : Nat} {f : Addr} {fd : FuncData} {ps : List Str} {sp sp' : Sp}
theorem FnOkG.imp (F : FnOkG P w K mg base X k f fd ps sp) (h : ∀ xs H Q E, sp' xs H Q E → sp xs H Q E) : FnOkG P w K mg base X k f fd ps sp' where
  len xs H Q E q := F.len xs H Q E (h _ _ _ _ q)
  run A stk s H as us xs Q E a b c d e := F.run A stk s H as us xs Q E a b c d (h _ _ _ _ e)
theorem FnOkG.mono {j : Nat} (F : FnOkG P w K mg base X j f fd ps sp) (h : j ≤ k) : FnOkG P w K mg base X k f fd ps sp where
  len := F.len
  run A stk s H as us xs Q E a := F.run A stk s H as us xs Q E (a.mono h)
/-- one call of a def, at one place of the run -/
theorem call_one {x qual : Str} {prm : Arguments} {bd : List Stmt} {sc : Scope} {dV kV doc pm cdv ct oc : Value} {an od : Option Addr} {osl : Array (Option Value)} {N : List Str} (lk : K.lookup f = some ⟨oc, od, .func (PySem.W.fnOf x qual prm bd sc dV kV doc pm an cdv ct), osl⟩)
    (cd : PySem.W.codeIn K cdv qual = true) (S : FnScope N ps sc) {A : Around} {stk : List Env} {s : Shared} {H : Hp} {as : Args} {us : List Value} {xs : List V} {Q : VK} {E : XK} {t : TS}
    (h1 : A.depth < recursionLimit) (h2 : A.handled = none) (e : Env0 P w K mg base A stk s H) (b : BindsTo s (PySem.W.fnOf x qual prm bd sc dV kV doc pm an cdv ct) as (ps.zip us)) (r : Vals xs us) (l : xs.length = ps.length)
    (ht : PSs (cxOf X P w K mg base N qual sc f cdv A stk s H E) bd t) (hq : t { nx := fun _ G => Q .non G, rt := Q } (start N xs) H) : codeAny (model P w) A (.call (.ref f) as) (CR X stk P w H s Q E) s := by
  have up : ∀ a o, base.get? a = some o → s.heap.get? a = some o := fun a o z => (e.bs a o z).1
  have kin : K.In s.heap := e.mod.kin.keeps up
  apply codeAny_call_function h1 (kin f _ lk) rfl S.co S.gen rfl (PySem.W.codeRec_of kin cd)
  apply b
  apply wpAny_newFunctionEnv_cells S.kind
  · rintro ⟨n, v⟩ m
    exact (S.par n (List.of_mem_zip m).1).imp id fun c => ⟨c, PySem.W.cellsFrom_some _ _ _ (Or.inl c)⟩
  · rintro env rfl s1 c
    refine ⟨(e.mod.nolimit.keeps up).keeps c.toInCall.keep, codeAny_func ?_⟩
    apply wpAny_mono (ht.run [] s1 _ H _ (inv_start S h2 e l r c) hq)
    · intro fl s2 g
      match fl, g with
      | .ret u, ⟨v, _, G, J, rv, q⟩ => exact ⟨v, G, J.os, J.bare, J.base, J.hok, rv, q⟩
      | .next, ⟨_, G, J, q⟩ => exact ⟨V.non, G, J.os, J.bare, J.base, J.hok, rfl, q⟩
      | .brk, ⟨_, _, _, q⟩ => exact q.elim
      | .cont, ⟨_, _, _, q⟩ => exact q.elim
    · exact fun _ _ g => g
end
/-- what a run of the law's def leaves, behind the head -/
def LawEnd (s0 : Shared) (r : Result) (s : Shared) : Prop := r = .ok (.ret (.bool true)) ∧ OldK s0.heap s.heap ∧ s.os = s0.os ∧ AllBare s.gens
section
variable {P : Program} {w : World} {K : PySem.W.Frag} {mg mb : Str → Option Value} {X : CXT} {k : Nat} {fa a : Addr} {fd : FuncData} {x : Str} {sp : Sp} {s0 : Shared} {xs : List Value} {ns : List Int}
/-- the head's call, by what of the script is tracked -/
theorem law_atG {H : Hp} (KX : K.In s0.heap) (g1 : s0.heap.Ns mainGlobals mg) (g2 : s0.heap.Ns builtinsNs mb) (g3 : ∀ y : Str, y ≠ "__name__" → mb y = bootBuiltins y) (g4 : s0.heap.NoLimit) (g5 : s0.gens = #[]) (ha : s0.heap.get? a = some { cls := .type "list", data := .seq xs.toArray })
    (hr : RoomG k callerA) (F : ∀ b : Heap, K.In b → b.Ns mainGlobals mg → FnOkG P w K mg b X k fa fd [x] sp) (hb : ∀ (s : Shared) (u : Value), BindsTo s fd ⟨[u], []⟩ [(x, u)]) (hx : ∀ H e s, X [] H s0 (fun _ _ _ => False) e s → False)
    (only : ∀ b u, H b = some u → b = a ∧ K.lookup a = none ∧ ∃ o ys, u = .frz o (.lst ys)) (hok : HOk P w H s0.heap) (hsp : sp [.ref a] H (fun v _ => v = .bl true) fun _ _ _ => False) :
    codeAny (model P w) callerA (.call (.ref fa) ⟨[.ref a], []⟩) (LawEnd s0) s0 := by
  have free : ∀ b o, s0.heap.get? b = some o → (b = a → H a = none) → (hidT s0.heap H).get? b = some o := fun b o z n => hidT_get z (by
    match q : H b with
    | none => rfl
    | some u =>
      have h := only b u q
      rw [h.1, n h.1] at q
      cases q)
  have ns : ∀ {b : Addr} {m : Str → Option Value}, s0.heap.Ns b m → (hidT s0.heap H).Ns b m := by
    rintro b m ⟨o, es, ep, z, d, r⟩
    refine ⟨o, es, ep, free b o z fun q => ?_, d, r⟩
    subst q
    rw [ha] at z
    cases z
    cases d
  have kin : K.In (hidT s0.heap H) := fun b o z => free b o (KX b o z) fun q => by
    match q2 : H a with
    | none => rfl
    | some u =>
      have h := (only a u q2).2.1
      rw [← q, z] at h
      cases h
  have lim : (hidT s0.heap H).NoLimit := by
    obtain ⟨mc, z1, z2⟩ := g4
    exact ⟨mc, ns z1, z2⟩
  have e0 : Env0 P w K mg (hidT s0.heap H) callerA [] s0 H :=
    { frames := rfl, mod := ⟨kin, ns g1, ⟨mb, ns g2, g3⟩, lim⟩, bs := fun _ _ z => of_hidT z, bsz := Nat.le_of_eq (hidT_size _ _), funs := trivial, frf := fun b z => (List.not_mem_nil z).elim, hok := hok, bare := .of_eq g5 }
  refine codeAny_mono ((F _ kin (ns g1)).run callerA [] s0 H ⟨[.ref a], []⟩ [.ref a] [.ref a] _ _ hr e0 (hb s0 (.ref a)) (.cons rfl .nil) hsp) fun r s h => ?_
  match r, h with
  | .error e, h => exact (hx H e s h).elim
  | .ok .next, h => exact h.elim
  | .ok .brk, h => exact h.elim
  | .ok .cont, h => exact h.elim
  | .ok (.ret u), h =>
    obtain ⟨v, G, h1, h2, un, h3, rv, rfl⟩ := h
    cases rv
    refine ⟨rfl, OldK.of_keep fun b o z => ?_, h1, h2⟩
    match q : H b with
    | none => exact un.keep b o z q (fun m => (List.not_mem_nil m).elim) List.not_mem_nil
    | some u =>
      obtain ⟨_, _, o1, ys, rfl⟩ := only b u q
      have m1 := (hok b _ q).1
      have m2 := (h3 b _ (un.frzs b o1 _ q)).1
      rw [z] at m1
      cases m1
      exact m2
theorem law_callG (KX : K.In s0.heap) (g1 : s0.heap.Ns mainGlobals mg) (g2 : s0.heap.Ns builtinsNs mb) (g3 : ∀ y : Str, y ≠ "__name__" → mb y = bootBuiltins y) (g4 : s0.heap.NoLimit) (g5 : s0.gens = #[]) (ha : s0.heap.get? a = some { cls := .type "list", data := .seq xs.toArray })
    (hi : IntsAre xs ns) (hl : ns.length ≤ sizeLine) (hr : RoomG k callerA) (F : ∀ b : Heap, K.In b → b.Ns mainGlobals mg → FnOkG P w K mg b X k fa fd [x] sp) (hb : ∀ (s : Shared) (u : Value), BindsTo s fd ⟨[u], []⟩ [(x, u)])
    (hsp : ∀ H : Hp, Only H → SqL K H a (ns.map V.int) → sp [.ref a] H (fun v _ => v = .bl true) fun _ _ _ => False) (hx : ∀ H e s, X [] H s0 (fun _ _ _ => False) e s → False) :
    codeAny (model P w) callerA (.call (.ref fa) ⟨[.ref a], []⟩) (LawEnd s0) s0 := by
  match hk : K.lookup a with
  | some o =>
    have z := KX a o hk
    rw [ha] at z
    cases z
    exact law_atG (H := fun _ => none) KX g1 g2 g3 g4 g5 ha hr F hb hx (fun _ _ z => nomatch z) (fun _ _ z => nomatch z) (hsp _ (fun _ => .inl rfl) (.inr ⟨_, xs.toArray, _, hk, rfl, rfl, rfl, by rw [List.size_toArray, hi.length]; exact hl, by simpa using vals_ints hi⟩))
  | none =>
    refine law_atG (H := upd (fun _ => none) a (.frz { cls := .type "list", data := .seq xs.toArray } (.lst (ns.map V.int)))) KX g1 g2 g3 g4 g5 ha hr F hb hx (fun b u z => ?_) (fun b u z => ?_) (hsp _ (fun b => ?_) (.inl (.inr ⟨_, upd_same⟩)))
    · by_cases q : b = a
      · subst q
        rw [upd_same] at z
        cases z
        exact ⟨rfl, hk, _, _, rfl⟩
      · rw [upd_ne q] at z
        cases z
    · by_cases q : b = a
      · subst q
        rw [upd_same] at z
        cases z
        exact ⟨ha, by rw [List.length_map]; exact hl, xs, _, vals_ints hi, ha⟩
      · rw [upd_ne q] at z
        cases z
    · by_cases q : b = a
      · subst q
        exact .inr ⟨_, _, upd_same⟩
      · exact .inl (upd_ne q)
end
/-- as L2.Sub -/
structure SubG (X : Cx) (n : Nat) (A : Around) : Prop where
  room : RoomG n A
  fr : A.frames = X.A.frames
theorem SubG.in1 {X : Cx} {n : Nat} {A : Around} (s : SubG X (n + 1) A) : SubG X n A.in1 := ⟨s.room.in1, s.fr⟩
theorem SubG.mono {X : Cx} {n m : Nat} {A : Around} (s : SubG X n A) (h : m ≤ n) : SubG X m A := ⟨s.room.mono h, s.fr⟩
section
variable {P : Program} {w : World} {K : PySem.W.Frag} {mg : Str → Option Value} {base : Heap} {X : CXT} {x qual : Str} {st : Stmt} {f : Addr} {fd : FuncData} {N ps : List Str} {k : Nat} {sp : Sp}
theorem _root_.L2.Fun.okXG (F : Fun K x qual st f fd) (S : FnScope N ps (defScope st)) (len : ∀ xs H Q E, sp xs H Q E → xs.length = ps.length)
    (bd : ∀ (cdv : Value) (A : Around) (stk : List Env) (s : Shared) (H : Hp) (xs : List V) (Q : VK) (E : XK), RoomG k (A.deeper (envOfC qual (defScope st) s.heap.objs.size f cdv)) → sp xs H Q E → ∃ t, PSs (cxOf X P w K mg base N qual (defScope st) f cdv A stk s H E) (defBody st) t ∧ t { nx := fun _ G => Q .non G, rt := Q } (start N xs) H) :
    FnOkG P w K mg base X (k + 1) f fd ps sp := by
  obtain ⟨_, _, _, _, _, _, c, _, _, rfl, lk, cd⟩ := F.ex
  refine ⟨len, fun A stk s H as us xs Q E hr e b r h => ?_⟩
  obtain ⟨t, ht, hq⟩ := bd c A stk s H xs Q E (hr.deeper _) h
  exact call_one lk cd S hr.depth hr.hd e b r (len _ _ _ _ h) ht hq
theorem _root_.L2.FunD.okG {dvs : List V} {kws : List (Str × V)} (F : FunD K x qual (defArgs st) (defBody st) (defScope st) dvs kws f fd) (S : FnScope N ps (defScope st)) (len : ∀ xs H Q E, sp xs H Q E → xs.length = ps.length)
    (bd : ∀ (cdv : Value) (A : Around) (stk : List Env) (s : Shared) (H : Hp) (xs : List V) (Q : VK) (E : XK), RoomG k (A.deeper (envOfC qual (defScope st) s.heap.objs.size f cdv)) → sp xs H Q E → ∃ t, PSs (cxOf X P w K mg base N qual (defScope st) f cdv A stk s H E) (defBody st) t ∧ t { nx := fun _ G => Q .non G, rt := Q } (start N xs) H) :
    FnOkG P w K mg base X (k + 1) f fd ps sp := by
  obtain ⟨_, _, _, _, _, _, _, c, _, _, rfl, lk, cd, _, _⟩ := F.ex
  refine ⟨len, fun A stk s H as us xs Q E hr e b r h => ?_⟩
  obtain ⟨t, ht, hq⟩ := bd c A stk s H xs Q E (hr.deeper _) h
  exact call_one lk cd S hr.depth hr.hd e b r (len _ _ _ _ h) ht hq
end
end DL
set_option Elab.async false
set_option linter.all false
set_option maxRecDepth 100000
set_option maxHeartbeats 4000000
/-! The D layer: data without addresses over the hand layer. -/
namespace DL
open PySem L2

/-- a datum: a value with all that hangs on it; ref: an object that may change (a cell), a def, a class -/
inductive D where
  | non | bl (b : Bool) | int (i : Int) | str (x : Str) | ref (a : Addr) | ty (n : String)
  | tup (xs : List D) | lst (xs : List D) | obj (C : Addr) (ns : List Str) (vs : List D) | dic (ks : List Key) (vs : List D) | dit (ks : List (List Key)) (vs : List D)

mutual
/-- the value v bears the datum, in the still part S of the heap -/
def Rep (K : PySem.W.Frag) (S : Hp) : D → V → Prop
  | .non, v => v = .non
  | .bl b, v => v = .bl b
  | .int i, v => v = .int i
  | .str x, v => v = .str x
  | .ref a, v => v = .ref a
  | .ty n, v => v = .ty n
  | .tup ds, v => ∃ a vs, v = .ref a ∧ SqT K S a vs ∧ Reps K S ds vs
  | .lst ds, v => ∃ a vs, v = .ref a ∧ SqL K S a vs ∧ Reps K S ds vs
  | .obj C ns ds, v => ∃ a dx fs, v = .ref a ∧ S a = some (.ins C dx fs) ∧ fs.map (·.1) = ns ∧ Reps K S ds (fs.map (·.2))
  | .dic ks ds, v => ∃ a ws, v = .ref a ∧ S a = some (.dK ws) ∧ ws.map (·.1) = ks ∧ Reps K S ds (ws.map (·.2))
  | .dit ks ds, v => ∃ a ws, v = .ref a ∧ S a = some (.dT ws) ∧ ws.map (·.1) = ks ∧ Reps K S ds (ws.map (·.2))
def Reps (K : PySem.W.Frag) (S : Hp) : List D → List V → Prop
  | [], vs => vs = []
  | d :: ds, vs => ∃ v r, vs = v :: r ∧ Rep K S d v ∧ Reps K S ds r
end

def Sub (S S' : Hp) : Prop := ∀ a o, S a = some o → S' a = some o
theorem Sub.refl (S : Hp) : Sub S S := fun _ _ h => h
theorem Sub.trans {S S' S'' : Hp} (a : Sub S S') (b : Sub S' S'') : Sub S S'' := fun x o h => b x o (a x o h)
theorem Sub.rd {S S' : Hp} (e : Sub S S') {a : Addr} {u : HO} (h : Rd S a u) : Rd S' a u := by
  rcases h with h | ⟨o, h⟩
  · exact Or.inl (e a _ h)
  · exact Or.inr ⟨o, e a _ h⟩
theorem Sub.l {K : PySem.W.Frag} {S S' : Hp} (e : Sub S S') {a : Addr} {xs : List V} (h : SqL K S a xs) : SqL K S' a xs := by
  rcases h with h | h
  · exact Or.inl (e.rd h)
  · exact Or.inr h
theorem Sub.t {K : PySem.W.Frag} {S S' : Hp} (e : Sub S S') {a : Addr} {xs : List V} (h : SqT K S a xs) : SqT K S' a xs := by
  rcases h with h | h
  · exact Or.inl (e.rd h)
  · exact Or.inr h
theorem Sub.new {S : Hp} {p : Addr} {o : HO} (h : S p = none) : Sub S (upd S p o) := fun a u e => by
  rw [upd_ne (ne_of_none e h)]
  exact e
mutual
theorem Rep.mono {K : PySem.W.Frag} {S S' : Hp} (e : Sub S S') : ∀ (d : D) (v : V), Rep K S d v → Rep K S' d v
  | .non, _, h => h
  | .bl _, _, h => h
  | .int _, _, h => h
  | .str _, _, h => h
  | .ref _, _, h => h
  | .ty _, _, h => h
  | .tup ds, _, h => by
    obtain ⟨a, vs, hv, hs, hr⟩ := h
    exact ⟨a, vs, hv, e.t hs, Reps.mono e ds vs hr⟩
  | .lst ds, _, h => by
    obtain ⟨a, vs, hv, hs, hr⟩ := h
    exact ⟨a, vs, hv, e.l hs, Reps.mono e ds vs hr⟩
  | .obj C ns ds, _, h => by
    obtain ⟨a, dx, fs, hv, hs, hn, hr⟩ := h
    exact ⟨a, dx, fs, hv, e _ _ hs, hn, Reps.mono e ds _ hr⟩
  | .dic ks ds, _, h => by
    obtain ⟨a, ws, hv, hs, hn, hr⟩ := h
    exact ⟨a, ws, hv, e _ _ hs, hn, Reps.mono e ds _ hr⟩
  | .dit ks ds, _, h => by
    obtain ⟨a, ws, hv, hs, hn, hr⟩ := h
    exact ⟨a, ws, hv, e _ _ hs, hn, Reps.mono e ds _ hr⟩
theorem Reps.mono {K : PySem.W.Frag} {S S' : Hp} (e : Sub S S') : ∀ (ds : List D) (vs : List V), Reps K S ds vs → Reps K S' ds vs
  | [], _, h => h
  | d :: ds, _, h => by
    obtain ⟨v, r, hv, h1, h2⟩ := h
    exact ⟨v, r, hv, Rep.mono e d v h1, Reps.mono e ds r h2⟩
end
theorem Rep.up {K : PySem.W.Frag} {S S' : Hp} {d : D} {v : V} (h : Rep K S d v) (e : Sub S S') : Rep K S' d v := Rep.mono e d v h
theorem Reps.up {K : PySem.W.Frag} {S S' : Hp} {d : List D} {v : List V} (h : Reps K S d v) (e : Sub S S') : Reps K S' d v := Reps.mono e d v h
section
variable {K : PySem.W.Frag} {S : Hp}
theorem Reps.nil : Reps K S [] [] := rfl
theorem Reps.cons {d : D} {v : V} {ds : List D} {vs : List V} (h : Rep K S d v) (r : Reps K S ds vs) : Reps K S (d :: ds) (v :: vs) := ⟨v, vs, rfl, h, r⟩
theorem Reps.length : ∀ {ds : List D} {vs : List V}, Reps K S ds vs → vs.length = ds.length
  | [], _, h => by cases (show _ = [] from h); rfl
  | d :: ds, _, h => by
    obtain ⟨v, r, rfl, _, h2⟩ := h
    simp [Reps.length h2]
theorem Reps.get : ∀ {ds : List D} {vs : List V} {i : Nat} {v : V}, Reps K S ds vs → vs[i]? = some v → ∃ d, ds[i]? = some d ∧ Rep K S d v
  | [], _, _, _, h, e => by cases (show _ = [] from h); simp at e
  | d :: ds, _, i, v, h, e => by
    obtain ⟨v', r, rfl, h1, h2⟩ := h
    cases i with
    | zero => simp at e; subst e; exact ⟨d, by simp, h1⟩
    | succ i =>
      obtain ⟨d', q, r'⟩ := Reps.get (i := i) (v := v) h2 (by simpa using e)
      exact ⟨d', by simpa using q, r'⟩
theorem Reps.get' : ∀ {ds : List D} {vs : List V} {i : Nat} {d : D}, Reps K S ds vs → ds[i]? = some d → ∃ v, vs[i]? = some v ∧ Rep K S d v
  | [], _, _, _, h, e => by simp at e
  | d :: ds, _, i, x, h, e => by
    obtain ⟨v', r, rfl, h1, h2⟩ := h
    cases i with
    | zero => simp at e; subst e; exact ⟨v', by simp, h1⟩
    | succ i =>
      obtain ⟨d', q, r'⟩ := Reps.get' (i := i) (d := x) h2 (by simpa using e)
      exact ⟨d', by simpa using q, r'⟩
theorem Reps.app : ∀ {ds es : List D} {vs ws : List V}, Reps K S ds vs → Reps K S es ws → Reps K S (ds ++ es) (vs ++ ws)
  | [], _, _, _, h, g => by cases (show _ = [] from h); exact g
  | d :: ds, _, _, _, h, g => by
    obtain ⟨v, r, rfl, h1, h2⟩ := h
    exact Reps.cons h1 (Reps.app h2 g)
theorem Reps.take : ∀ {ds : List D} {vs : List V} (n : Nat), Reps K S ds vs → Reps K S (ds.take n) (vs.take n)
  | _, _, 0, _ => by simp [Reps]
  | [], _, _ + 1, h => by cases (show _ = [] from h); simp [Reps]
  | d :: ds, _, n + 1, h => by
    obtain ⟨v, r, rfl, h1, h2⟩ := h
    exact Reps.cons h1 (Reps.take n h2)
theorem Reps.drop : ∀ {ds : List D} {vs : List V} (n : Nat), Reps K S ds vs → Reps K S (ds.drop n) (vs.drop n)
  | _, _, 0, h => h
  | [], _, _ + 1, h => by cases (show _ = [] from h); simp [Reps]
  | d :: ds, _, n + 1, h => by
    obtain ⟨v, r, rfl, h1, h2⟩ := h
    exact Reps.drop n h2
theorem Reps.set {d : D} {v : V} (q : Rep K S d v) : ∀ {ds : List D} {vs : List V} (n : Nat), Reps K S ds vs → Reps K S (ds.set n d) (vs.set n v)
  | [], _, _, h => by cases (show _ = [] from h); simp [Reps]
  | e :: ds, _, 0, h => by
    obtain ⟨w, r, rfl, h1, h2⟩ := h
    exact Reps.cons q h2
  | e :: ds, _, n + 1, h => by
    obtain ⟨w, r, rfl, h1, h2⟩ := h
    exact Reps.cons h1 (Reps.set q n h2)
theorem Reps.erase : ∀ {ds : List D} {vs : List V} (n : Nat), Reps K S ds vs → Reps K S (ds.eraseIdx n) (vs.eraseIdx n)
  | [], _, _, h => by cases (show _ = [] from h); simp [Reps]
  | e :: ds, _, 0, h => by
    obtain ⟨w, r, rfl, h1, h2⟩ := h
    exact h2
  | e :: ds, _, n + 1, h => by
    obtain ⟨w, r, rfl, h1, h2⟩ := h
    exact Reps.cons h1 (Reps.erase n h2)
theorem Reps.rev : ∀ {ds : List D} {vs : List V}, Reps K S ds vs → Reps K S ds.reverse vs.reverse
  | [], _, h => by cases (show _ = [] from h); simp [Reps]
  | d :: ds, _, h => by
    obtain ⟨v, r, rfl, h1, h2⟩ := h
    rw [List.reverse_cons, List.reverse_cons]
    exact Reps.app (Reps.rev h2) (Reps.cons h1 Reps.nil)
theorem Reps.split : ∀ {ds es : List D} {ws : List V}, Reps K S (ds ++ es) ws → ∃ vs us, ws = vs ++ us ∧ Reps K S ds vs ∧ Reps K S es us
  | [], _, _, h => ⟨[], _, rfl, Reps.nil, h⟩
  | d :: ds, _, _, h => by
    obtain ⟨v, r, rfl, h1, h2⟩ := h
    obtain ⟨vs, us, rfl, h3, h4⟩ := Reps.split h2
    exact ⟨v :: vs, us, rfl, Reps.cons h1 h3, h4⟩
theorem Reps.ints : ∀ {ns : List Int} {vs : List V}, Reps K S (ns.map D.int) vs ↔ vs = ns.map V.int
  | [], vs => by simp [Reps]
  | n :: ns, vs => by
    simp only [List.map_cons, Reps, Rep]
    constructor
    · rintro ⟨v, r, rfl, rfl, h⟩
      rw [Reps.ints.mp h]
    · rintro rfl
      exact ⟨_, _, rfl, rfl, Reps.ints.mpr rfl⟩
theorem Reps.bls : ∀ {ns : List Bool} {vs : List V}, Reps K S (ns.map D.bl) vs ↔ vs = ns.map V.bl
  | [], vs => by simp [Reps]
  | n :: ns, vs => by
    simp only [List.map_cons, Reps, Rep]
    constructor
    · rintro ⟨v, r, rfl, rfl, h⟩
      rw [Reps.bls.mp h]
    · rintro rfl
      exact ⟨_, _, rfl, rfl, Reps.bls.mpr rfl⟩
theorem Reps.strs : ∀ {ns : List Str} {vs : List V}, Reps K S (ns.map D.str) vs ↔ vs = ns.map V.str
  | [], vs => by simp [Reps]
  | n :: ns, vs => by
    simp only [List.map_cons, Reps, Rep]
    constructor
    · rintro ⟨v, r, rfl, rfl, h⟩
      rw [Reps.strs.mp h]
    · rintro rfl
      exact ⟨_, _, rfl, rfl, Reps.strs.mpr rfl⟩
end

/-- what may change: a list, a dict, an instance; inv: a list of which only this is told -/
inductive Cell where
  | lst (xs : List D) | dk (kvs : List (Key × D)) | dt (kvs : List (List Key × D)) | ins (C : Addr) (ns : List Str) (vs : List D) | inv (I : List D → Prop) | xd (fs : List (Str × D))
abbrev GS := List (Addr × Cell)
abbrev Ev := List (Option D)
def CellOk (K : PySem.W.Frag) (S H : Hp) (a : Addr) : Cell → Prop
  | .lst ds => ∃ vs, H a = some (.lst vs) ∧ Reps K S ds vs
  | .dk kvs => ∃ ws, H a = some (.dK ws) ∧ ws.map (·.1) = kvs.map (·.1) ∧ Reps K S (kvs.map (·.2)) (ws.map (·.2))
  | .dt kvs => ∃ ws, H a = some (.dT ws) ∧ ws.map (·.1) = kvs.map (·.1) ∧ Reps K S (kvs.map (·.2)) (ws.map (·.2))
  | .ins C ns ds => ∃ dx fs, H a = some (.ins C dx fs) ∧ fs.map (·.1) = ns ∧ Reps K S ds (fs.map (·.2))
  | .inv I => ∃ ds vs, I ds ∧ H a = some (.lst vs) ∧ Reps K S ds vs
  | .xd fs => ∃ fv, H a = some (.xd fv) ∧ fv.map (·.1) = fs.map (·.1) ∧ Reps K S (fs.map (·.2)) (fv.map (·.2))
theorem CellOk.up {K : PySem.W.Frag} {S S' H H' : Hp} {a : Addr} {c : Cell} (h : CellOk K S H a c) (e : Sub S S') (q : H' a = H a) : CellOk K S' H' a c := by
  cases c with
  | lst ds => obtain ⟨vs, h1, h2⟩ := h; exact ⟨vs, q.trans h1, h2.up e⟩
  | dk kvs => obtain ⟨vs, h1, h2, h3⟩ := h; exact ⟨vs, q.trans h1, h2, h3.up e⟩
  | dt kvs => obtain ⟨vs, h1, h2, h3⟩ := h; exact ⟨vs, q.trans h1, h2, h3.up e⟩
  | ins C ns ds => obtain ⟨dx, fs, h1, h2, h3⟩ := h; exact ⟨dx, fs, q.trans h1, h2, h3.up e⟩
  | inv I => obtain ⟨ds, vs, h0, h1, h2⟩ := h; exact ⟨ds, vs, h0, q.trans h1, h2.up e⟩
  | xd fs => obtain ⟨fv, h1, h2, h3⟩ := h; exact ⟨fv, q.trans h1, h2, h3.up e⟩
theorem CellOk.there {K : PySem.W.Frag} {S H : Hp} {a : Addr} {c : Cell} (h : CellOk K S H a c) : ∃ o, H a = some o := by
  cases c with
  | lst ds => obtain ⟨vs, h1, h2⟩ := h; exact ⟨_, h1⟩
  | dk kvs => obtain ⟨vs, h1, h2, h3⟩ := h; exact ⟨_, h1⟩
  | dt kvs => obtain ⟨vs, h1, h2, h3⟩ := h; exact ⟨_, h1⟩
  | ins C ns ds => obtain ⟨dx, fs, h1, h2, h3⟩ := h; exact ⟨_, h1⟩
  | inv I => obtain ⟨ds, vs, h0, h1, h2⟩ := h; exact ⟨_, h1⟩
  | xd fs => obtain ⟨fv, h1, h2, h3⟩ := h; exact ⟨_, h1⟩

def keysG (G : GS) : List Addr := G.map (·.1)
structure Cn (K : PySem.W.Frag) (S : Hp) (G : GS) (H : Hp) : Prop where
  sub : Sub S H
  nd : (keysG G).Nodup
  sep : ∀ a ∈ keysG G, S a = none
  cell : ∀ p ∈ G, CellOk K S H p.1 p.2
def EnvR (K : PySem.W.Frag) (S : Hp) (σ : Ev) (σV : L2.St) : Prop := σ.length = σV.length ∧ ∀ (i : Nat) (d : D), σ[i]? = some (some d) → ∃ v, σV[i]? = some (some v) ∧ Rep K S d v
/-- what was there and is no cell stays -/
def Stp (G : GS) (H : Hp) (G' : GS) (H' : Hp) : Prop := ∀ a o, H a = some o → a ∉ keysG G → H' a = some o ∧ a ∉ keysG G'
structure Aft (K : PySem.W.Frag) (S : Hp) (G : GS) (H : Hp) (S' : Hp) (G' : GS) (H' : Hp) : Prop where
  sub : Sub S S'
  cn : Cn K S' G' H'
  stp : Stp G H G' H'
  old : ∀ a o, H a = some o → a ∉ keysG G → S a = none → S' a = none
  there : ∀ a, H a ≠ none → H' a ≠ none
theorem there_upd {H : Hp} {p : Addr} {o : HO} : ∀ a, H a ≠ none → upd H p o a ≠ none := fun a h => by
  by_cases e : a = p
  · subst e; rw [upd_same]; exact fun z => by cases z
  · rw [upd_ne e]; exact h
theorem Stp.refl (G : GS) (H : Hp) : Stp G H G H := fun a o h n => ⟨h, n⟩
theorem Stp.trans {G G1 G2 : GS} {H H1 H2 : Hp} (a : Stp G H G1 H1) (b : Stp G1 H1 G2 H2) : Stp G H G2 H2 := fun x o h n => let ⟨h1, n1⟩ := a x o h n; b x o h1 n1
section
variable {K : PySem.W.Frag} {S S1 S2 : Hp} {G G1 G2 : GS} {H H1 H2 : Hp} {σ : Ev} {σV : L2.St}
theorem Cn.aft (c : Cn K S G H) : Aft K S G H S G H := ⟨Sub.refl S, c, Stp.refl G H, fun _ _ _ _ z => z, fun _ h => h⟩
theorem Aft.trans (a : Aft K S G H S1 G1 H1) (b : Aft K S1 G1 H1 S2 G2 H2) : Aft K S G H S2 G2 H2 := ⟨a.sub.trans b.sub, b.cn, a.stp.trans b.stp, fun x o h n z => let ⟨h1, n1⟩ := a.stp x o h n; b.old x o h1 n1 (a.old x o h n z), fun x h => b.there x (a.there x h)⟩
theorem EnvR.up (e : EnvR K S σ σV) (s : Sub S S1) : EnvR K S1 σ σV := ⟨e.1, fun i d h => let ⟨v, h1, h2⟩ := e.2 i d h; ⟨v, h1, h2.up s⟩⟩
theorem EnvR.set (e : EnvR K S σ σV) {d : D} {v : V} (r : Rep K S d v) (i : Nat) : EnvR K S (σ.set i (some d)) (σV.set i (some v)) := by
  refine ⟨by simp [e.1], fun j x h => ?_⟩
  by_cases hj : i = j
  · subst hj
    have hl : i < σ.length := by
      have := (List.getElem?_eq_some_iff.mp h).1
      simpa using this
    rw [List.getElem?_set_self hl] at h
    cases h
    exact ⟨v, by rw [List.getElem?_set_self (by rw [← e.1]; exact hl)], r⟩
  · rw [List.getElem?_set_ne hj] at h
    rw [List.getElem?_set_ne hj]
    exact e.2 j x h
/-- slots forgotten -/
theorem EnvR.weak {σ' : Ev} (e : EnvR K S σ σV) (hl : σ'.length = σ.length) (w : ∀ (i : Nat) d, σ'[i]? = some (some d) → σ[i]? = some (some d)) : EnvR K S σ' σV := ⟨hl.trans e.1, fun i d h => e.2 i d (w i d h)⟩
theorem Cn.no (c : Cn K S G H) {a : Addr} {o : HO} (h : S a = some o) : a ∉ keysG G := fun z => by
  have := c.sep a z
  rw [h] at this; cases this
theorem Cn.freshS (c : Cn K S G H) {p : Addr} (h : H p = none) : S p = none := by
  cases e : S p with
  | none => rfl
  | some o => rw [c.sub p o e] at h; cases h
theorem Cn.freshG (c : Cn K S G H) {p : Addr} (h : H p = none) : p ∉ keysG G := fun z => by
  obtain ⟨q, hq, rfl⟩ := List.mem_map.mp z
  obtain ⟨o, ho⟩ := (c.cell q hq).there
  rw [h] at ho; cases ho
/-- a new still object -/
theorem Cn.still (c : Cn K S G H) {p : Addr} {o : HO} (h : H p = none) : Aft K S G H (upd S p o) G (upd H p o) := by
  have hs := c.freshS h
  have hg := c.freshG h
  refine ⟨Sub.new hs, ⟨fun a u e => ?_, c.nd, fun a ha => ?_, fun q hq => ?_⟩, fun a u e n => ⟨?_, n⟩, fun a u e n z => by rw [upd_ne (ne_of_none e h)]; exact z, there_upd⟩
  · by_cases ha : a = p
    · subst ha; rw [upd_same] at e ⊢; exact e
    · rw [upd_ne ha] at e ⊢; exact c.sub a u e
  · rw [upd_ne (fun z => hg (by rw [← z]; exact ha))]; exact c.sep a ha
  · exact (c.cell q hq).up (Sub.new hs) (upd_ne fun z => hg (by rw [← z]; exact List.mem_map_of_mem hq))
  · rw [upd_ne (ne_of_none e h)]; exact e
/-- a new object that nothing tells of -/
theorem Cn.junk (c : Cn K S G H) {p : Addr} {o : HO} (h : H p = none) : Aft K S G H S G (upd H p o) := by
  have hg := c.freshG h
  refine ⟨Sub.refl S, ⟨fun a u e => ?_, c.nd, c.sep, fun q hq => ?_⟩, fun a u e n => ⟨?_, n⟩, fun _ _ _ _ z => z, there_upd⟩
  · rw [upd_ne (ne_of_none (c.sub a u e) h)]; exact c.sub a u e
  · exact (c.cell q hq).up (Sub.refl S) (upd_ne fun z => hg (by rw [← z]; exact List.mem_map_of_mem hq))
  · rw [upd_ne (ne_of_none e h)]; exact e
/-- a new cell -/
theorem Cn.newCell (c : Cn K S G H) {p : Addr} {o : HO} {k : Cell} (h : H p = none) (ok : CellOk K S (upd H p o) p k) : Aft K S G H S (G ++ [(p, k)]) (upd H p o) := by
  have hg := c.freshG h
  have j := c.junk (o := o) h
  refine ⟨Sub.refl S, ⟨j.cn.sub, ?_, fun a ha => ?_, fun q hq => ?_⟩, fun a u e n => ⟨(j.stp a u e n).1, fun z => ?_⟩, fun _ _ _ _ z => z, there_upd⟩
  · unfold keysG
    rw [List.map_append, List.nodup_append]
    refine ⟨c.nd, by simp, fun a ha b hb => ?_⟩
    simp at hb
    subst hb
    exact fun z => hg (by rw [← z]; exact ha)
  · unfold keysG at ha
    rw [List.map_append, List.mem_append] at ha
    rcases ha with ha | ha
    · exact c.sep a ha
    · simp at ha; subst ha; exact c.freshS h
  · rw [List.mem_append] at hq
    rcases hq with hq | hq
    · exact j.cn.cell q hq
    · simp at hq; subst hq; exact ok
  · unfold keysG at z
    rw [List.map_append, List.mem_append] at z
    rcases z with z | z
    · exact n z
    · simp at z; subst z; rw [h] at e; cases e
/-- a cell is changed: the j-th -/
theorem Cn.write (c : Cn K S G H) {j : Nat} {p : Addr} {k k' : Cell} {o : HO} (hj : G[j]? = some (p, k)) (ok : CellOk K S (upd H p o) p k') : Aft K S G H S (G.set j (p, k')) (upd H p o) := by
  have hp : p ∈ keysG G := List.mem_map.mpr ⟨(p, k), List.mem_of_getElem? hj, rfl⟩
  have hlt : j < G.length := (List.getElem?_eq_some_iff.mp hj).1
  have hk : keysG (G.set j (p, k')) = keysG G := by
    unfold keysG
    rw [List.map_set]
    refine List.ext_getElem? fun i => ?_
    by_cases hi : j = i
    · subst hi
      rw [List.getElem?_set_self (by simpa using hlt), List.getElem?_map, hj]
      rfl
    · rw [List.getElem?_set_ne hi]
  refine ⟨Sub.refl S, ⟨fun a u e => ?_, by rw [hk]; exact c.nd, by rw [hk]; exact c.sep, fun q hq => ?_⟩, fun a u e n => ⟨?_, by rw [hk]; exact n⟩, fun _ _ _ _ z => z, there_upd⟩
  · have : a ≠ p := fun z => by
      have := c.sep p hp
      rw [← z, e] at this; cases this
    rw [upd_ne this]; exact c.sub a u e
  · obtain ⟨i, hi⟩ := List.mem_iff_getElem?.mp hq
    by_cases hij : j = i
    · subst hij
      rw [List.getElem?_set_self hlt] at hi
      cases hi
      exact ok
    · rw [List.getElem?_set_ne hij] at hi
      refine (c.cell q (List.mem_of_getElem? hi)).up (Sub.refl S) (upd_ne fun z => hij ?_)
      have n1 : (keysG G)[j]? = some p := by unfold keysG; rw [List.getElem?_map, hj]; rfl
      have n2 : (keysG G)[i]? = some p := by unfold keysG; rw [List.getElem?_map, hi]; rw [← z]; rfl
      exact nodup_ixA c.nd n1 n2
  · rw [upd_ne (fun z => n (by rw [z]; exact hp))]; exact e
where
  nodup_ixA {N : List Addr} (hN : N.Nodup) {i j : Nat} {x : Addr} (a : N[i]? = some x) (b : N[j]? = some x) : i = j :=
    (List.getElem?_inj (List.getElem?_eq_some_iff.mp a).1 hN).mp (a.trans b.symm)
theorem keysG_sub {G G' : GS} (h : List.Sublist G' G) : List.Sublist (keysG G') (keysG G) := by unfold keysG; exact h.map _
/-- cells may be forgotten -/
theorem Cn.forget {G' : GS} (c : Cn K S G H) (h : List.Sublist G' G) : Cn K S G' H :=
  ⟨c.sub, (keysG_sub h).nodup c.nd, fun a ha => c.sep a ((keysG_sub h).subset ha), fun q hq => c.cell q (h.subset hq)⟩
theorem Cn.forgetA {G' : GS} (c : Cn K S G H) (h : List.Sublist G' G) : Aft K S G H S G' H :=
  ⟨Sub.refl S, c.forget h, fun a o e n => ⟨e, fun z => n ((keysG_sub h).subset z)⟩, fun _ _ _ _ z => z, fun _ h => h⟩
/-- a call over some of the cells: the others stand as they stood -/
theorem Cn.frame {G' H' S'} {Gr : GS} (c : Cn K S (G ++ Gr) H) (a : Aft K S G H S' G' H') : Aft K S (G ++ Gr) H S' (G' ++ Gr) H' := by
  have disj : ∀ q ∈ Gr, q.1 ∉ keysG G := fun q hq z => by
    have := c.nd
    unfold keysG at this z
    rw [List.map_append, List.nodup_append] at this
    exact this.2.2 q.1 z q.1 (List.mem_map_of_mem hq) rfl
  have inl : ∀ q ∈ Gr, q ∈ G ++ Gr := fun q hq => List.mem_append_right _ hq
  have keep : ∀ q ∈ Gr, H' q.1 = H q.1 ∧ q.1 ∉ keysG G' := fun q hq => by
    obtain ⟨o, ho⟩ := (c.cell q (inl q hq)).there
    obtain ⟨h1, h2⟩ := a.stp q.1 o ho (disj q hq)
    exact ⟨h1.trans ho.symm, h2⟩
  have kS : ∀ q ∈ Gr, S' q.1 = none := fun q hq => by
    obtain ⟨o, ho⟩ := (c.cell q (inl q hq)).there
    exact a.old q.1 o ho (disj q hq) (c.sep q.1 (List.mem_map_of_mem (inl q hq)))
  refine ⟨a.sub, ⟨a.cn.sub, ?_, fun x hx => ?_, fun q hq => ?_⟩, fun x o h n => ?_, fun x o h n z => ?_, a.there⟩
  · have nd := c.nd
    have nd' := a.cn.nd
    unfold keysG at nd nd' ⊢
    rw [List.map_append, List.nodup_append] at nd ⊢
    refine ⟨nd', nd.2.1, fun x hx y hy => ?_⟩
    obtain ⟨q, hq, rfl⟩ := List.mem_map.mp hy
    exact fun z => (keep q hq).2 (by unfold keysG; rw [← z]; exact hx)
  · unfold keysG at hx
    rw [List.map_append, List.mem_append] at hx
    rcases hx with hx | hx
    · exact a.cn.sep x hx
    · obtain ⟨q, hq, rfl⟩ := List.mem_map.mp hx
      exact kS q hq
  · rw [List.mem_append] at hq
    rcases hq with hq | hq
    · exact a.cn.cell q hq
    · exact (c.cell q (inl q hq)).up a.sub (keep q hq).1
  · have n1 : x ∉ keysG G := fun z => n (by unfold keysG at z ⊢; rw [List.map_append, List.mem_append]; exact .inl z)
    have n2 : x ∉ keysG Gr := fun z => n (by unfold keysG at z ⊢; rw [List.map_append, List.mem_append]; exact .inr z)
    obtain ⟨h1, h2⟩ := a.stp x o h n1
    refine ⟨h1, fun z => ?_⟩
    unfold keysG at z
    rw [List.map_append, List.mem_append] at z
    exact z.elim h2 n2
  · exact a.old x o h (fun q => n (by unfold keysG at q ⊢; rw [List.map_append, List.mem_append]; exact .inl q)) z
theorem keysG_perm {G G' : GS} (p : G.Perm G') : (keysG G).Perm (keysG G') := by unfold keysG; exact p.map _
theorem Cn.perm {G' : GS} (c : Cn K S G H) (p : G.Perm G') : Cn K S G' H :=
  ⟨c.sub, (keysG_perm p).nodup_iff.mp c.nd, fun a ha => c.sep a ((keysG_perm p).mem_iff.mpr ha), fun q hq => c.cell q (p.mem_iff.mpr hq)⟩
theorem Cn.permA {G' : GS} (c : Cn K S G H) (p : G.Perm G') : Aft K S G H S G' H :=
  ⟨Sub.refl S, c.perm p, fun a o e n => ⟨e, fun z => n ((keysG_perm p).mem_iff.mpr z)⟩, fun _ _ _ _ z => z, fun _ h => h⟩
/-- a cell is still from now on: the last one -/
theorem Cn.freeze {p : Addr} {k : Cell} {o : HO} (c : Cn K S (G ++ [(p, k)]) H) (ho : H p = some o) : Aft K S (G ++ [(p, k)]) H (upd S p o) G H := by
  have hp : p ∈ keysG (G ++ [(p, k)]) := by unfold keysG; simp
  have hs : S p = none := c.sep p hp
  have hn : p ∉ keysG G := by
    have := c.nd
    unfold keysG at this ⊢
    rw [List.map_append, List.nodup_append] at this
    exact fun z => this.2.2 p z p (by simp) rfl
  have f := c.forget (G' := G) (List.sublist_append_left _ _)
  refine ⟨Sub.new hs, ⟨fun a u e => ?_, f.nd, fun a ha => ?_, fun q hq => ?_⟩, fun a u e n => ⟨e, fun z => n ?_⟩, fun a u e n z => ?_, fun _ h => h⟩
  · by_cases ha : a = p
    · subst ha; rw [upd_same] at e; cases e; exact ho
    · rw [upd_ne ha] at e; exact c.sub a u e
  · rw [upd_ne (fun z => hn (by rw [← z]; exact ha))]; exact f.sep a ha
  · exact (f.cell q hq).up (Sub.new hs) rfl
  · unfold keysG at z ⊢; rw [List.map_append, List.mem_append]; exact .inl z
  · rw [upd_ne (fun y => n (by rw [y]; exact hp))]; exact z
end
end DL
set_option Elab.async false
set_option linter.all false
set_option maxRecDepth 100000
set_option maxHeartbeats 4000000
namespace DL
open PySem L2
/-! ### ghost steps: a cell is still from now on, cells are forgotten -/
mutual
/-- the cell at p, now the list xs -/
def D.fz (p : Addr) (x : D) : D → D
  | .ref a => if a = p then x else .ref a
  | .tup ds => .tup (D.fzs p x ds)
  | .lst ds => .lst (D.fzs p x ds)
  | .obj C ns ds => .obj C ns (D.fzs p x ds)
  | .dic ks ds => .dic ks (D.fzs p x ds)
  | .dit ks ds => .dit ks (D.fzs p x ds)
  | d => d
def D.fzs (p : Addr) (x : D) : List D → List D
  | [] => []
  | d :: ds => D.fz p x d :: D.fzs p x ds
end
def Cell.fz (p : Addr) (x : D) : Cell → Cell
  | .lst ds => .lst (D.fzs p x ds)
  | .dk kvs => .dk (kvs.map fun q => (q.1, D.fz p x q.2))
  | .dt kvs => .dt (kvs.map fun q => (q.1, D.fz p x q.2))
  | .ins C ns ds => .ins C ns (D.fzs p x ds)
  | .inv I => .inv I
  | .xd fs => .xd (fs.map fun q => (q.1, D.fz p x q.2))
mutual
theorem fz_rep {K : PySem.W.Frag} {S : Hp} {p : Addr} {x : D} (hx : Rep K S x (.ref p)) : ∀ (d : D) (v : V), Rep K S d v → Rep K S (D.fz p x d) v
  | .non, _, h => h
  | .bl _, _, h => h
  | .int _, _, h => h
  | .str _, _, h => h
  | .ref a, v, h => by
    unfold D.fz
    split
    · rename_i e
      subst e
      cases (show v = .ref a from h)
      exact hx
    · exact h
  | .ty _, _, h => h
  | .tup ds, _, h => by
    obtain ⟨a, vs, hv, hs, hr⟩ := h
    exact ⟨a, vs, hv, hs, fzs_rep hx ds vs hr⟩
  | .lst ds, _, h => by
    obtain ⟨a, vs, hv, hs, hr⟩ := h
    exact ⟨a, vs, hv, hs, fzs_rep hx ds vs hr⟩
  | .obj C ns ds, _, h => by
    obtain ⟨a, dx, fs, hv, hs, hn, hr⟩ := h
    exact ⟨a, dx, fs, hv, hs, hn, fzs_rep hx ds _ hr⟩
  | .dic ks ds, _, h => by
    obtain ⟨a, ws, hv, hs, hn, hr⟩ := h
    exact ⟨a, ws, hv, hs, hn, fzs_rep hx ds _ hr⟩
  | .dit ks ds, _, h => by
    obtain ⟨a, ws, hv, hs, hn, hr⟩ := h
    exact ⟨a, ws, hv, hs, hn, fzs_rep hx ds _ hr⟩
theorem fzs_rep {K : PySem.W.Frag} {S : Hp} {p : Addr} {x : D} (hx : Rep K S x (.ref p)) : ∀ (ds : List D) (vs : List V), Reps K S ds vs → Reps K S (D.fzs p x ds) vs
  | [], _, h => h
  | d :: ds, _, h => by
    obtain ⟨v, r, hv, h1, h2⟩ := h
    exact ⟨v, r, hv, fz_rep hx d v h1, fzs_rep hx ds r h2⟩
end
theorem fzs_map {p : Addr} {x : D} : ∀ ds : List D, D.fzs p x ds = ds.map (D.fz p x)
  | [] => rfl
  | d :: ds => by unfold D.fzs; rw [fzs_map ds]; rfl
theorem cell_fz {K : PySem.W.Frag} {S H : Hp} {p a : Addr} {x : D} (hx : Rep K S x (.ref p)) {c : Cell} (h : CellOk K S H a c) : CellOk K S H a (c.fz p x) := by
  cases c with
  | lst ds => obtain ⟨vs, h1, h2⟩ := h; exact ⟨vs, h1, fzs_rep hx _ _ h2⟩
  | dk kvs =>
    obtain ⟨vs, h1, h2, h3⟩ := h
    refine ⟨vs, h1, by rw [h2]; simp [Function.comp_def], ?_⟩
    have := fzs_rep hx _ _ h3
    rw [fzs_map] at this
    simpa [Function.comp_def] using this
  | dt kvs =>
    obtain ⟨vs, h1, h2, h3⟩ := h
    refine ⟨vs, h1, by rw [h2]; simp [Function.comp_def], ?_⟩
    have := fzs_rep hx _ _ h3
    rw [fzs_map] at this
    simpa [Function.comp_def] using this
  | ins C ns ds => obtain ⟨dx, fs, h1, h2, h3⟩ := h; exact ⟨dx, fs, h1, h2, fzs_rep hx _ _ h3⟩
  | inv I => exact h
  | xd fs =>
    obtain ⟨fv, h1, h2, h3⟩ := h
    refine ⟨fv, h1, by rw [h2]; simp [Function.comp_def], ?_⟩
    have := fzs_rep hx _ _ h3
    rw [fzs_map] at this
    simpa [Function.comp_def] using this
theorem upd_self {H : Hp} {p : Addr} {o : HO} (h : H p = some o) : upd H p o = H := funext fun a => by
  by_cases e : a = p
  · subst e; rw [upd_same, h]
  · rw [upd_ne e]
inductive Gh (Z : Ev → GS → Prop) : Ev → GS → Prop
  | done {σ G} (h : Z σ G) : Gh Z σ G
  | frz {σ G} (n : Nat) {p : Addr} {xs : List D} (hn : G[n]? = some (p, Cell.lst xs)) (h : Gh Z (σ.map fun o => o.map (D.fz p (.lst xs))) ((G.eraseIdx n).map fun q => (q.1, q.2.fz p (.lst xs)))) : Gh Z σ G
  | frzI {σ G} (n : Nat) {p : Addr} {C : Addr} {ns : List Str} {xs : List D} (hn : G[n]? = some (p, Cell.ins C ns xs)) (h : Gh Z (σ.map fun o => o.map (D.fz p (.obj C ns xs))) ((G.eraseIdx n).map fun q => (q.1, q.2.fz p (.obj C ns xs)))) : Gh Z σ G
  | abs {σ G} (n : Nat) {p : Addr} {xs : List D} {I : List D → Prop} (hn : G[n]? = some (p, Cell.lst xs)) (hi : I xs) (h : Gh Z σ (G.set n (p, Cell.inv I))) : Gh Z σ G
  | frzK {σ G} (n : Nat) {p : Addr} {kvs : List (Key × D)} (hn : G[n]? = some (p, Cell.dk kvs)) (h : Gh Z (σ.map fun o => o.map (D.fz p (.dic (kvs.map (·.1)) (kvs.map (·.2))))) ((G.eraseIdx n).map fun q => (q.1, q.2.fz p (.dic (kvs.map (·.1)) (kvs.map (·.2)))))) : Gh Z σ G
  | frzT {σ G} (n : Nat) {p : Addr} {kvs : List (List Key × D)} (hn : G[n]? = some (p, Cell.dt kvs)) (h : Gh Z (σ.map fun o => o.map (D.fz p (.dit (kvs.map (·.1)) (kvs.map (·.2))))) ((G.eraseIdx n).map fun q => (q.1, q.2.fz p (.dit (kvs.map (·.1)) (kvs.map (·.2)))))) : Gh Z σ G
  | fgt {σ G} {G' : GS} (hs : List.Sublist G' G) (h : Gh Z σ G') : Gh Z σ G
  | perm {σ G} {G' : GS} (hs : List.Perm G G') (h : Gh Z σ G') : Gh Z σ G
section
variable {K : PySem.W.Frag} {S : Hp} {G : GS} {H : Hp} {σ : Ev} {σV : L2.St}
theorem Cn.frzAny {p : Addr} {k : Cell} {o : HO} {x : D} {n : Nat} (c : Cn K S G H) (hn : G[n]? = some (p, k)) (ho : H p = some o) (hx : Rep K (upd S p o) x (.ref p)) : Aft K S G H (upd S p o) ((G.eraseIdx n).map fun q => (q.1, q.2.fz p x)) H := by
  have hp : p ∈ keysG G := List.mem_map.mpr ⟨(p, k), List.mem_of_getElem? hn, rfl⟩
  have hs : S p = none := c.sep p hp
  have ek : keysG ((G.eraseIdx n).map fun q => (q.1, q.2.fz p x)) = keysG (G.eraseIdx n) := by unfold keysG; simp [Function.comp_def]
  have sub : List.Sublist (G.eraseIdx n) G := List.eraseIdx_sublist ..
  have f := c.forget sub
  have hlt : n < G.length := (List.getElem?_eq_some_iff.mp hn).1
  have hno : p ∉ keysG (G.eraseIdx n) := fun z => by
    obtain ⟨q, hq, e⟩ := List.mem_map.mp z
    obtain ⟨i, hi⟩ := List.mem_iff_getElem?.mp hq
    rw [List.getElem?_eraseIdx] at hi
    have n1 : (keysG G)[n]? = some p := by unfold keysG; rw [List.getElem?_map, hn]; rfl
    split at hi
    · have n2 : (keysG G)[i]? = some p := by unfold keysG; rw [List.getElem?_map, hi]; rw [← e]; rfl
      have := (List.getElem?_inj (List.getElem?_eq_some_iff.mp n2).1 c.nd).mp (n2.trans n1.symm)
      omega
    · have n2 : (keysG G)[i + 1]? = some p := by unfold keysG; rw [List.getElem?_map, hi]; rw [← e]; rfl
      have := (List.getElem?_inj (List.getElem?_eq_some_iff.mp n2).1 c.nd).mp (n2.trans n1.symm)
      omega
  refine ⟨Sub.new hs, ⟨fun a u e => ?_, by rw [ek]; exact f.nd, fun a ha => ?_, fun q hq => ?_⟩, fun a u e m => ⟨e, ?_⟩, fun a u e m z => ?_, fun _ h => h⟩
  · by_cases ha : a = p
    · subst ha; rw [upd_same] at e; cases e; exact ho
    · rw [upd_ne ha] at e; exact c.sub a u e
  · rw [ek] at ha
    rw [upd_ne (fun z => hno (by rw [← z]; exact ha))]; exact f.sep a ha
  · obtain ⟨r, hr, rfl⟩ := List.mem_map.mp hq
    exact cell_fz hx ((f.cell r hr).up (Sub.new hs) rfl)
  · rw [ek]
    exact fun z => m ((keysG_sub sub).subset z)
  · rw [upd_ne (fun y => m (by rw [y]; exact hp))]; exact z
theorem EnvR.fz {p : Addr} {x : D} (e : EnvR K S σ σV) (hx : Rep K S x (.ref p)) : EnvR K S (σ.map fun o => o.map (D.fz p x)) σV := by
  refine ⟨by simp [e.1], fun i d h => ?_⟩
  rw [List.getElem?_map] at h
  cases e1 : σ[i]? with
  | none => rw [e1] at h; cases h
  | some o =>
    rw [e1] at h
    cases o with
    | none => simp at h
    | some d0 =>
      simp at h
      subst h
      obtain ⟨v, h1, h2⟩ := e.2 i d0 e1
      exact ⟨v, h1, fz_rep hx d0 v h2⟩
theorem Gh.go {Z : Ev → GS → Prop} (h : Gh Z σ G) : ∀ {S : Hp}, Cn K S G H → EnvR K S σ σV → ∃ S' σ' G', Aft K S G H S' G' H ∧ EnvR K S' σ' σV ∧ Z σ' G' := by
  induction h with
  | done h => exact fun c e => ⟨_, _, _, c.aft, e, h⟩
  | @frz σ G n p xs hn h ih =>
    intro S c e
    obtain ⟨vs, h1, h2⟩ := c.cell _ (List.mem_of_getElem? hn)
    have hs : S p = none := c.sep p (List.mem_map.mpr ⟨_, List.mem_of_getElem? hn, rfl⟩)
    have hx : Rep K (upd S p (.lst vs)) (.lst xs) (.ref p) := ⟨p, vs, rfl, SqL.of upd_same, h2.up (Sub.new hs)⟩
    have a1 := c.frzAny hn h1 hx
    obtain ⟨S', σ', G', a2, e2, z⟩ := ih a1.cn ((e.up a1.sub).fz hx)
    exact ⟨S', σ', G', a1.trans a2, e2, z⟩
  | @frzI σ G n p C ns xs hn h ih =>
    intro S c e
    obtain ⟨dx, fs, h1, h2, h3⟩ := c.cell _ (List.mem_of_getElem? hn)
    have hs : S p = none := c.sep p (List.mem_map.mpr ⟨_, List.mem_of_getElem? hn, rfl⟩)
    have hx : Rep K (upd S p (.ins C dx fs)) (.obj C ns xs) (.ref p) := ⟨p, dx, fs, rfl, upd_same, h2, h3.up (Sub.new hs)⟩
    have a1 := c.frzAny hn h1 hx
    obtain ⟨S', σ', G', a2, e2, z⟩ := ih a1.cn ((e.up a1.sub).fz hx)
    exact ⟨S', σ', G', a1.trans a2, e2, z⟩
  | @abs σ G n p xs I hn hi h ih =>
    intro S c e
    obtain ⟨vs, h1, h2⟩ := c.cell _ (List.mem_of_getElem? hn)
    have ec : upd H p (.lst vs) = H := upd_self h1
    have a1 := c.write (k' := .inv I) (o := .lst vs) hn ⟨xs, vs, hi, upd_same, h2⟩
    rw [ec] at a1
    obtain ⟨S', σ', G', a2, e2, z⟩ := ih a1.cn e
    exact ⟨S', σ', G', a1.trans a2, e2, z⟩
  | @frzK σ G n p kvs hn h ih =>
    intro S c e
    obtain ⟨ws, h1, h2, h3⟩ := c.cell _ (List.mem_of_getElem? hn)
    have hs : S p = none := c.sep p (List.mem_map.mpr ⟨_, List.mem_of_getElem? hn, rfl⟩)
    have hx : Rep K (upd S p (.dK ws)) (.dic (kvs.map (·.1)) (kvs.map (·.2))) (.ref p) := ⟨p, ws, rfl, upd_same, h2, h3.up (Sub.new hs)⟩
    have a1 := c.frzAny hn h1 hx
    obtain ⟨S', σ', G', a2, e2, z⟩ := ih a1.cn ((e.up a1.sub).fz hx)
    exact ⟨S', σ', G', a1.trans a2, e2, z⟩
  | @frzT σ G n p kvs hn h ih =>
    intro S c e
    obtain ⟨ws, h1, h2, h3⟩ := c.cell _ (List.mem_of_getElem? hn)
    have hs : S p = none := c.sep p (List.mem_map.mpr ⟨_, List.mem_of_getElem? hn, rfl⟩)
    have hx : Rep K (upd S p (.dT ws)) (.dit (kvs.map (·.1)) (kvs.map (·.2))) (.ref p) := ⟨p, ws, rfl, upd_same, h2, h3.up (Sub.new hs)⟩
    have a1 := c.frzAny hn h1 hx
    obtain ⟨S', σ', G', a2, e2, z⟩ := ih a1.cn ((e.up a1.sub).fz hx)
    exact ⟨S', σ', G', a1.trans a2, e2, z⟩
  | fgt hs h ih =>
    intro S c e
    have a1 := c.forgetA hs
    obtain ⟨S', σ', G', a2, e2, z⟩ := ih a1.cn e
    exact ⟨S', σ', G', a1.trans a2, e2, z⟩
  | perm hs h ih =>
    intro S c e
    have a1 := c.permA hs
    obtain ⟨S', σ', G', a2, e2, z⟩ := ih a1.cn e
    exact ⟨S', σ', G', a1.trans a2, e2, z⟩
/-- of a value -/
def GhV (Q : D → GS → Prop) (d : D) (G : GS) : Prop := Gh (fun σ G => match σ with | [some d] => Q d G | _ => False) [some d] G
theorem GhV.done {Q : D → GS → Prop} {d : D} (h : Q d G) : GhV Q d G := Gh.done h
theorem GhV.go {Q : D → GS → Prop} {d : D} {v : V} (h : GhV Q d G) (c : Cn K S G H) (r : Rep K S d v) : ∃ S' d' G', Aft K S G H S' G' H ∧ Rep K S' d' v ∧ Q d' G' := by
  obtain ⟨S', σ', G', a, e, z⟩ := Gh.go (K := K) (S := S) (H := H) (σV := [some v]) h c ⟨rfl, fun i d' hi => by
    cases i with
    | zero => simp at hi; subst hi; exact ⟨v, rfl, r⟩
    | succ i => simp at hi⟩
  split at z
  · obtain ⟨u, hu, ru⟩ := e.2 0 _ rfl
    simp at hu
    subst hu
    exact ⟨S', _, G', a, ru, z⟩
  · exact z.elim
end
end DL
set_option Elab.async false
set_option linter.all false
set_option maxRecDepth 100000
set_option maxHeartbeats 4000000
namespace DL
open PySem L2

/-! ### what is wanted, over data -/
abbrev DK := D → GS → Prop
abbrev DXK := Value → List (Str × D) → Ev → GS → Prop
abbrev DTE := Ev → GS → DK → DXK → Prop
abbrev DTA := Ev → GS → (List D → GS → Prop) → DXK → Prop
abbrev DTT := Ev → GS → (Bool → GS → Prop) → DXK → Prop
structure DEnds where
  nx : Ev → GS → Prop
  rt : DK
  bk : Ev → GS → Prop := fun _ _ => False
  ct : Ev → GS → Prop := fun _ _ => False
abbrev DTS := DEnds → DXK → Ev → GS → Prop

def XRep (K : PySem.W.Frag) (S H : Hp) (fs : List (Str × D)) : Option Addr → Prop
  | none => fs = []
  | some a => ∃ fv, H a = some (.xd fv) ∧ fv.map (·.1) = fs.map (·.1) ∧ Reps K S (fs.map (·.2)) (fv.map (·.2))
/-- its dict is new -/
def XNew (S' : Hp) (G' : GS) (H : Hp) (dx : Option Addr) : Prop := ∀ a, dx = some a → H a = none ∧ S' a = none ∧ a ∉ keysG G'
/-- the wish of an exception, over data -/
def XOk (K : PySem.W.Frag) (W : WX) (S : Hp) (G : GS) (H : Hp) (R : DXK) : Prop := ∀ cls dx σV' H' S' σ' fs G', Aft K S G H S' G' H' → EnvR K S' σ' σV' → XRep K S' H' fs dx → XNew S' G' H dx → R cls fs σ' G' → W cls dx σV' H'
section
variable {K : PySem.W.Frag} {W : WX} {S S1 : Hp} {G G1 : GS} {H H1 : Hp} {R : DXK}
theorem XOk.aft (x : XOk K W S G H R) (a : Aft K S G H S1 G1 H1) : XOk K W S1 G1 H1 R := fun cls dx σV' H' S' σ' fs G' b e r n => x cls dx σV' H' S' σ' fs G' (a.trans b) e r fun c hc => ⟨Classical.byContradiction fun z => a.there c z (n c hc).1, (n c hc).2⟩
end

def liftE (K : PySem.W.Frag) (W : WX) (t : DTE) : TE := fun σV H P => ∃ S σ G Q R, Cn K S G H ∧ EnvR K S σ σV ∧ t σ G Q R ∧ XOk K W S G H R ∧ ∀ v H' S' d G', Aft K S G H S' G' H' → Rep K S' d v → Q d G' → P v H'
def liftA (K : PySem.W.Frag) (W : WX) (t : DTA) : TA := fun σV H P => ∃ S σ G Q R, Cn K S G H ∧ EnvR K S σ σV ∧ t σ G Q R ∧ XOk K W S G H R ∧ ∀ vs H' S' ds G', Aft K S G H S' G' H' → Reps K S' ds vs → Q ds G' → P vs H'
def liftT (K : PySem.W.Frag) (W : WX) (t : DTT) : TT := fun σV H P => ∃ S σ G Q R, Cn K S G H ∧ EnvR K S σ σV ∧ t σ G Q R ∧ XOk K W S G H R ∧ ∀ b H' S' G', Aft K S G H S' G' H' → Q b G' → P b H'
structure EndsOk (K : PySem.W.Frag) (S : Hp) (G : GS) (H : Hp) (N : DEnds) (D : Ends) : Prop where
  nx : ∀ σV' H' S' σ' G', Aft K S G H S' G' H' → EnvR K S' σ' σV' → N.nx σ' G' → D.nx σV' H'
  rt : ∀ v H' S' d G', Aft K S G H S' G' H' → Rep K S' d v → N.rt d G' → D.rt v H'
  bk : ∀ σV' H' S' σ' G', Aft K S G H S' G' H' → EnvR K S' σ' σV' → N.bk σ' G' → D.bk σV' H'
  ct : ∀ σV' H' S' σ' G', Aft K S G H S' G' H' → EnvR K S' σ' σV' → N.ct σ' G' → D.ct σV' H'
def liftS (K : PySem.W.Frag) (W : WX) (t : DTS) : TS := fun D σV H => ∃ S σ G N R, Cn K S G H ∧ EnvR K S σ σV ∧ t N R σ G ∧ XOk K W S G H R ∧ EndsOk K S G H N D
theorem EndsOk.aft {K : PySem.W.Frag} {S S1 : Hp} {G G1 : GS} {H H1 : Hp} {N : DEnds} {D : Ends} (x : EndsOk K S G H N D) (a : Aft K S G H S1 G1 H1) : EndsOk K S1 G1 H1 N D :=
  ⟨fun σV' H' S' σ' G' b => x.nx σV' H' S' σ' G' (a.trans b), fun v H' S' d G' b => x.rt v H' S' d G' (a.trans b), fun σV' H' S' σ' G' b => x.bk σV' H' S' σ' G' (a.trans b), fun σV' H' S' σ' G' b => x.ct σV' H' S' σ' G' (a.trans b)⟩

/-! ### judgements -/
abbrev DE (X : Cx) (W : WX) (e : Expr) (t : DTE) : Prop := PE X e (liftE X.K W t)
abbrev DA (X : Cx) (W : WX) (es : List Expr) (t : DTA) : Prop := PA X es (liftA X.K W t)
abbrev DT (X : Cx) (W : WX) (e : Expr) (t : DTT) : Prop := PT X e (liftT X.K W t)
abbrev DWt (X : Cx) (W : WX) (e : Expr) (t : DTT) : Prop := PW X e (liftT X.K W t)
abbrev DS (X : Cx) (W : WX) (st : Stmt) (t : DTS) : Prop := PS X st (liftS X.K W t)
abbrev DSs (X : Cx) (W : WX) (st : List Stmt) (t : DTS) : Prop := PSs X st (liftS X.K W t)
section
variable {X : Cx}
theorem pe_imp {e : Expr} {t t' : TE} (h : PE X e t) (i : ∀ σ H Q, t' σ H Q → t σ H Q) : PE X e t' := ⟨fun pins s σ H Q I q => h.run pins s σ H Q I (i _ _ _ q)⟩
theorem pa_imp {e : List Expr} {t t' : TA} (h : PA X e t) (i : ∀ σ H Q, t' σ H Q → t σ H Q) : PA X e t' := ⟨fun pos pins s σ H Q I q => h.run pos pins s σ H Q I (i _ _ _ q)⟩
theorem pt_imp {e : Expr} {t t' : TT} (h : PT X e t) (i : ∀ σ H Q, t' σ H Q → t σ H Q) : PT X e t' := ⟨fun pins s σ H Q I q => h.run pins s σ H Q I (i _ _ _ q)⟩
theorem pw_imp {e : Expr} {t t' : TT} (h : PW X e t) (i : ∀ σ H Q, t' σ H Q → t σ H Q) : PW X e t' := ⟨fun whole pins s σ H Q I q => h.run whole pins s σ H Q I (i _ _ _ q)⟩
theorem ps_imp {e : Stmt} {t t' : TS} (h : PS X e t) (i : ∀ D σ H, t' D σ H → t D σ H) : PS X e t' := ⟨fun pins s σ H Q I q => h.run pins s σ H Q I (i _ _ _ q)⟩
theorem pss_imp {e : List Stmt} {t t' : TS} (h : PSs X e t) (i : ∀ D σ H, t' D σ H → t D σ H) : PSs X e t' := ⟨fun pins s σ H Q I q => h.run pins s σ H Q I (i _ _ _ q)⟩
end

/-! ### names and constants -/
def atS (σ : Ev) (i : Nat) (Q : D → Prop) : Prop := match σ[i]? with | some (some d) => Q d | _ => False
def dName (i : Nat) : DTE := fun σ G Q _ => atS σ i fun d => Q d G
def dC (d : D) : DTE := fun _ G Q _ => Q d G
section
variable {X : Cx} {W : WX}
theorem atS_of {σ : Ev} {i : Nat} {Q : D → Prop} (h : atS σ i Q) : ∃ d, σ[i]? = some (some d) ∧ Q d := by
  unfold atS at h
  split at h
  · exact ⟨_, by assumption, h⟩
  · exact h.elim
theorem de_name {i : Nat} {x : Str} {pos : Pos} (hN : X.N[i]? = some x) (hv : Vis X.env.scope x) (hd : (x == ("__debug__" : Str)) = false := by decide) (hcd : (x == ("__classdict__" : Str)) = false := by decide) : DE X W (.Name x pos) (dName i) :=
  pe_imp (pe_var hN hv hd hcd) fun σV H P ⟨S, σ, G, Q, R, hc, he, ht, hx, hq⟩ => by
    obtain ⟨d, h1, h2⟩ := atS_of ht
    obtain ⟨v, h3, h4⟩ := he.2 _ _ h1
    exact ⟨v, h3, hq v H S d G hc.aft h4 h2⟩
theorem de_c {e : Expr} {v : V} {d : D} (h : PE X e (tC v)) (r : ∀ S, Rep X.K S d v) : DE X W e (dC d) :=
  pe_imp h fun σV H P ⟨S, σ, G, Q, R, hc, he, ht, hx, hq⟩ => hq v H S d G hc.aft (r S) ht
theorem de_int {i j pos} : DE X W (.Constant (.int i) j pos) (dC (.int i)) := de_c pe_int fun _ => rfl
theorem de_bl {i j pos} : DE X W (.Constant (.bool i) j pos) (dC (.bl i)) := de_c pe_bl fun _ => rfl
theorem de_non {j pos} : DE X W (.Constant .none j pos) (dC .non) := de_c pe_non fun _ => rfl
theorem de_str {x j pos} : DE X W (.Constant (.str x) j pos) (dC (.str x)) := de_c pe_str fun _ => rfl
/-- a global constant, a def, a class -/
theorem de_glob {x : Str} {v : V} {d : D} {u : Value} {pos : Pos} (hg : Gl X x) (hm : X.mg x = some u) (r : RelV v u) (q : ∀ S, Rep X.K S d v) (hd : (x == ("__debug__" : Str)) = false := by decide) : DE X W (.Name x pos) (dC d) := de_c (pe_glob hg hm r hd) q
theorem de_bltn {x : Str} {v : V} {d : D} {u : Value} {pos : Pos} (hg : Gl X x) (hm : X.mg x = none) (hv : bootBuiltins x = some u) (r : RelV v u) (q : ∀ S, Rep X.K S d v) (hn : x ≠ "__name__" := by decide) (hd : (x == ("__debug__" : Str)) = false := by decide) :
    DE X W (.Name x pos) (dC d) := de_c (pe_bltn hg hm hv r hn hd) q

/-! ### operations on values -/
abbrev DOp := D → D → GS → DK → Prop
/-- r is asked less than o -/
def OpI (K : PySem.W.Frag) (r : R2) (o : DOp) : Prop := ∀ S G H x y v u Q (P : VK), Cn K S G H → Rep K S x v → Rep K S y u → o x y G Q → (∀ w H' S' d G', Aft K S G H S' G' H' → Rep K S' d w → Q d G' → P w H') → r v u H P
def OpD (Y : Cx) (f : Value → Value → Sem Value) (o : DOp) : Prop := ∃ r, OpR Y f r ∧ OpI Y.K r o
theorem OpD.mk {f : Value → Value → Sem Value} {o : DOp} {r : R2} (h : OpR X f r) (i : OpI X.K r o) : OpD X f o := ⟨r, h, i⟩
theorem OpD.or {f : Value → Value → Sem Value} {o o' : DOp} (h : OpD X f o) (h' : OpD X f o') : OpD X f (fun x y G Q => o x y G Q ∨ o' x y G Q) := by
  obtain ⟨r, hr, i⟩ := h
  obtain ⟨r', hr', i'⟩ := h'
  refine ⟨_, OpR.or hr hr', fun S G H x y v u Q P hc rx ry ho hq => ?_⟩
  rcases ho with ho | ho
  · exact .inl (i S G H x y v u Q P hc rx ry ho hq)
  · exact .inr (i' S G H x y v u Q P hc rx ry ho hq)
theorem OpD.imp {f : Value → Value → Sem Value} {o o' : DOp} (h : OpD X f o) (k : ∀ x y G Q, o' x y G Q → o x y G Q) : OpD X f o' := by
  obtain ⟨r, hr, i⟩ := h
  exact ⟨r, hr, fun S G H x y v u Q P hc rx ry ho hq => i S G H x y v u Q P hc rx ry (k _ _ _ _ ho) hq⟩
def dOp (o : DOp) (ta tb : DTE) : DTE := fun σ G Q R => ta σ G (fun x G1 => tb σ G1 (fun y G2 => o x y G2 Q) R) R
variable {a b c e : Expr} {ta tb tc te : DTE} {pos : Pos}
/-- the common way of two operands -/
theorem two_ops {r : R2} {o : DOp} (i : OpI X.K r o) {σV : L2.St} {H : Hp} {P : VK} (h : liftE X.K W (dOp o ta tb) σV H P) : tOp r (liftE X.K W ta) (liftE X.K W tb) σV H P := by
  obtain ⟨S, σ, G, Q, R, hc, he, ht, hx, hq⟩ := h
  refine ⟨S, σ, G, _, R, hc, he, ht, hx, fun v H1 S1 d G1 a1 r1 q1 => ?_⟩
  refine ⟨S1, σ, G1, _, R, a1.cn, he.up a1.sub, q1, hx.aft a1, fun u H2 S2 e G2 a2 r2 q2 => ?_⟩
  exact i S2 G2 H2 d e v u Q _ a2.cn (r1.up a2.sub) r2 q2 fun w H3 S3 f G3 a3 r3 q3 => hq w H3 S3 f G3 ((a1.trans a2).trans a3) r3 q3
theorem de_op {op : Operator} {o : DOp} (ho : OpD X (binaryOp op) o) (ha : DE X W a ta) (hb : DE X W b tb) : DE X W (.BinOp a op b pos) (dOp o ta tb) := by
  obtain ⟨r, hr, i⟩ := ho
  exact pe_imp (pe_op hr ha hb) fun σV H P h => two_ops i h
theorem de_cmp {op : CmpOp} {o : DOp} (ho : OpD X (compareOp op) o) (ha : DE X W a ta) (hb : DE X W b tb) (hm : behindInMarks op b = false := by first | exact nomark _ (by decide) (by decide) | rfl) : DE X W (.Compare a [op] [b] pos) (dOp o ta tb) := by
  obtain ⟨r, hr, i⟩ := ho
  exact pe_imp (pe_cmpR hr ha hb hm) fun σV H P h => two_ops i h
def dTest (t : DTE) : DTT := fun σ G Q R => t σ G (fun d G1 => match d with | .bl k => Q k G1 | _ => False) R
theorem dTest_of {t : DTE} {σ : Ev} {G : GS} {Q : Bool → GS → Prop} {R : DXK} (h : dTest t σ G Q R) : t σ G (fun d G1 => ∃ k, d = .bl k ∧ Q k G1) R → True := fun _ => True.intro
/-- a test that is a truth -/
theorem lift_test {t : DTE} {σV : L2.St} {H : Hp} {P : Bool → Hp → Prop} (h : liftT X.K W (dTest t) σV H P) : liftE X.K W t σV H fun x H' => ∃ k, x = .bl k ∧ P k H' := by
  obtain ⟨S, σ, G, Q, R, hc, he, ht, hx, hq⟩ := h
  refine ⟨S, σ, G, _, R, hc, he, ht, hx, fun v H1 S1 d G1 a1 r1 q1 => ?_⟩
  cases d with
  | bl k => exact ⟨k, r1, hq k H1 S1 G1 a1 q1⟩
  | _ => exact (show False from q1).elim
theorem dt_cmp {op : CmpOp} {o : DOp} (ho : OpD X (compareOp op) o) (ha : DE X W a ta) (hb : DE X W b tb) (hm : behindInMarks op b = false := by first | exact nomark _ (by decide) (by decide) | rfl) : DT X W (.Compare a [op] [b] pos) (dTest (dOp o ta tb)) := by
  obtain ⟨r, hr, i⟩ := ho
  refine pt_imp (pt_cmpR hr ha hb hm) fun σV H P h => ?_
  exact two_ops i (W := W) (lift_test h)
/-- a test whose value is a truth (a call, a name ..) -/
theorem dt_val (he : DE X W e te) (hp : ∀ whole, isTrue e X.env whole = (do let v ← whole; standAt e.pos; holding [v] (truthy v)) := by intro _; rfl) : DT X W e (dTest te) :=
  pt_imp (pt_val he hp) fun σV H P h => lift_test h
def dAnd (t u : DTT) : DTT := fun σ G Q R => t σ G (fun c G1 => if c = true then u σ G1 Q R else Q false G1) R
def dOr (t u : DTT) : DTT := fun σ G Q R => t σ G (fun c G1 => if c = true then Q true G1 else u σ G1 Q R) R
def dNot (t : DTT) : DTT := fun σ G Q R => t σ G (fun c G1 => Q (!c) G1) R
variable {t u : DTT} {rest : List Expr}
theorem dw_and1 (ha : DT X W a t) : DWt X W (.BoolOp .And [a] pos) t := pw_and1 ha
theorem dw_or1 (ha : DT X W a t) : DWt X W (.BoolOp .Or [a] pos) t := pw_or1 ha
theorem dw_and (ha : DT X W a t) (hb : DWt X W (.BoolOp .And (b :: rest) pos) u) : DWt X W (.BoolOp .And (a :: b :: rest) pos) (dAnd t u) :=
  pw_imp (pw_and ha hb) fun σV H P ⟨S, σ, G, Q, R, hc, he, ht, hx, hq⟩ => by
    refine ⟨S, σ, G, _, R, hc, he, ht, hx, fun k H1 S1 G1 a1 q1 => ?_⟩
    cases k with
    | true => exact ⟨S1, σ, G1, _, R, a1.cn, he.up a1.sub, q1, hx.aft a1, fun k2 H2 S2 G2 a2 q2 => hq k2 H2 S2 G2 (a1.trans a2) q2⟩
    | false => exact hq false H1 S1 G1 a1 q1
theorem dw_or (ha : DT X W a t) (hb : DWt X W (.BoolOp .Or (b :: rest) pos) u) : DWt X W (.BoolOp .Or (a :: b :: rest) pos) (dOr t u) :=
  pw_imp (pw_or ha hb) fun σV H P ⟨S, σ, G, Q, R, hc, he, ht, hx, hq⟩ => by
    refine ⟨S, σ, G, _, R, hc, he, ht, hx, fun k H1 S1 G1 a1 q1 => ?_⟩
    cases k with
    | false => exact ⟨S1, σ, G1, _, R, a1.cn, he.up a1.sub, q1, hx.aft a1, fun k2 H2 S2 G2 a2 q2 => hq k2 H2 S2 G2 (a1.trans a2) q2⟩
    | true => exact hq true H1 S1 G1 a1 q1
theorem dt_not (ha : DT X W a t) : DT X W (.UnaryOp .Not a pos) (dNot t) :=
  pt_imp (pt_not ha) fun σV H P ⟨S, σ, G, Q, R, hc, he, ht, hx, hq⟩ => ⟨S, σ, G, _, R, hc, he, ht, hx, fun k H1 S1 G1 a1 q1 => hq (!k) H1 S1 G1 a1 q1⟩
theorem dt_w (h : DWt X W e t) : DT X W e t := h.pt
/-- if as a value -/
def dIf (t : DTT) (ta tb : DTE) : DTE := fun σ G Q R => t σ G (fun k G1 => if k = true then ta σ G1 Q R else tb σ G1 Q R) R
theorem de_if (hc : DT X W c t) (ha : DE X W a ta) (hb : DE X W b tb) : DE X W (.IfExp c a b pos) (dIf t ta tb) :=
  pe_imp (pe_ifExp hc ha hb) fun σV H P ⟨S, σ, G, Q, R, hc, he, ht, hx, hq⟩ => by
    refine ⟨S, σ, G, _, R, hc, he, ht, hx, fun k H1 S1 G1 a1 q1 => ?_⟩
    cases k with
    | true => exact ⟨S1, σ, G1, _, R, a1.cn, he.up a1.sub, q1, hx.aft a1, fun v H2 S2 d G2 a2 r2 q2 => hq v H2 S2 d G2 (a1.trans a2) r2 q2⟩
    | false => exact ⟨S1, σ, G1, _, R, a1.cn, he.up a1.sub, q1, hx.aft a1, fun v H2 S2 d G2 a2 r2 q2 => hq v H2 S2 d G2 (a1.trans a2) r2 q2⟩

/-! ### argument lists, displays -/
def dNil : DTA := fun _ G Q _ => Q [] G
def dCons (te : DTE) (tr : DTA) : DTA := fun σ G Q R => te σ G (fun x G1 => tr σ G1 (fun xs G2 => Q (x :: xs) G2) R) R
variable {es : List Expr} {tr : DTA}
theorem da_nil : DA X W [] dNil := pa_imp pa_nil fun σV H P ⟨S, σ, G, Q, R, hc, he, ht, hx, hq⟩ => hq [] H S [] G hc.aft Reps.nil ht
theorem da_cons (ha : DE X W e te) (hr : DA X W es tr) (hs : starEach (e :: es) X.env = (false, eval e X.env) :: starEach es X.env := by rfl) : DA X W (e :: es) (dCons te tr) :=
  pa_imp (pa_cons ha hr hs) fun σV H P ⟨S, σ, G, Q, R, hc, he, ht, hx, hq⟩ => by
    refine ⟨S, σ, G, _, R, hc, he, ht, hx, fun v H1 S1 d G1 a1 r1 q1 => ?_⟩
    exact ⟨S1, σ, G1, _, R, a1.cn, he.up a1.sub, q1, hx.aft a1, fun vs H2 S2 ds G2 a2 r2 q2 => hq (v :: vs) H2 S2 (d :: ds) G2 (a1.trans a2) (Reps.cons (r1.up a2.sub) r2) q2⟩
def dTup (t : DTA) : DTE := fun σ G Q R => t σ G (fun xs G1 => xs.length ≤ sizeLine ∧ Q (.tup xs) G1) R
def dLst (t : DTA) : DTE := fun σ G Q R => t σ G (fun xs G1 => xs.length ≤ sizeLine ∧ Q (.lst xs) G1) R
/-- a new list that may change -/
def dLstM (t : DTA) : DTE := fun σ G Q R => t σ G (fun xs G1 => xs.length ≤ sizeLine ∧ ∀ p, p ∉ keysG G1 → Q (.ref p) (G1 ++ [(p, .lst xs)])) R
theorem de_tup {x1} (h : DA X W es tr) : DE X W (.Tuple es x1 pos) (dTup tr) :=
  pe_imp (pe_tup h) fun σV H P ⟨S, σ, G, Q, R, hc, he, ht, hx, hq⟩ => by
    refine ⟨S, σ, G, _, R, hc, he, ht, hx, fun vs H1 S1 ds G1 a1 r1 q1 => ?_⟩
    obtain ⟨hl, q⟩ := q1
    refine ⟨by rw [r1.length]; exact hl, fun p hp => ?_⟩
    have a2 := a1.cn.still (o := .tup vs) hp
    exact hq _ _ _ (.tup ds) _ (a1.trans a2) ⟨p, vs, rfl, SqT.of upd_same, r1.up a2.sub⟩ q
theorem de_lst (h : DA X W es tr) : DE X W (.List es pos) (dLst tr) :=
  pe_imp (pe_lst h) fun σV H P ⟨S, σ, G, Q, R, hc, he, ht, hx, hq⟩ => by
    refine ⟨S, σ, G, _, R, hc, he, ht, hx, fun vs H1 S1 ds G1 a1 r1 q1 => ?_⟩
    obtain ⟨hl, q⟩ := q1
    refine ⟨by rw [r1.length]; exact hl, fun p hp => ?_⟩
    have a2 := a1.cn.still (o := .lst vs) hp
    exact hq _ _ _ (.lst ds) _ (a1.trans a2) ⟨p, vs, rfl, SqL.of upd_same, r1.up a2.sub⟩ q
theorem de_lstM (h : DA X W es tr) : DE X W (.List es pos) (dLstM tr) :=
  pe_imp (pe_lst h) fun σV H P ⟨S, σ, G, Q, R, hc, he, ht, hx, hq⟩ => by
    refine ⟨S, σ, G, _, R, hc, he, ht, hx, fun vs H1 S1 ds G1 a1 r1 q1 => ?_⟩
    obtain ⟨hl, q⟩ := q1
    refine ⟨by rw [r1.length]; exact hl, fun p hp => ?_⟩
    have a2 := a1.cn.newCell (o := .lst vs) (k := .lst ds) hp ⟨vs, upd_same, r1⟩
    exact hq _ _ _ (.ref p) _ (a1.trans a2) rfl (q p (a1.cn.freshG hp))

/-! ### statements -/
def dNext : DTS := fun N _ σ G => N.nx σ G
def dSeq (t u : DTS) : DTS := fun N R σ G => t { N with nx := u N R } R σ G
variable {st : Stmt} {sts : List Stmt} {ts us : DTS}
theorem dss_nil : DSs X W [] dNext := pss_imp pss_nil fun D σV H ⟨S, σ, G, N, R, hc, he, ht, hx, hq⟩ => hq.nx σV H S σ G hc.aft he ht
theorem dss_cons (h1 : DS X W st ts) (h2 : DSs X W sts us) : DSs X W (st :: sts) (dSeq ts us) :=
  pss_imp (pss_cons h1 h2) fun D σV H ⟨S, σ, G, N, R, hc, he, ht, hx, hq⟩ =>
    ⟨S, σ, G, _, R, hc, he, ht, hx, ⟨fun σV' H' S' σ' G' a e n => ⟨S', σ', G', N, R, a.cn, e, n, hx.aft a, hq.aft a⟩, hq.rt, hq.bk, hq.ct⟩⟩
theorem dss_one (h1 : DS X W st ts) : DSs X W [st] ts := pss_one h1
theorem ds_pass : DS X W (.Pass pos) dNext := ps_imp ps_pass fun D σV H ⟨S, σ, G, N, R, hc, he, ht, hx, hq⟩ => hq.nx σV H S σ G hc.aft he ht
def dBreak : DTS := fun N _ σ G => N.bk σ G
def dCont : DTS := fun N _ σ G => N.ct σ G
theorem ds_break : DS X W (.Break pos) dBreak := ps_imp ps_break fun D σV H ⟨S, σ, G, N, R, hc, he, ht, hx, hq⟩ => hq.bk σV H S σ G hc.aft he ht
theorem ds_continue : DS X W (.Continue pos) dCont := ps_imp ps_continue fun D σV H ⟨S, σ, G, N, R, hc, he, ht, hx, hq⟩ => hq.ct σV H S σ G hc.aft he ht
def dDrop (te : DTE) : DTS := fun N R σ G => te σ G (fun _ G1 => N.nx σ G1) R
theorem ds_expr (he : DE X W e te) (hs : swapsWith e none pos.line X.env = pure false := by rfl) : DS X W (.Expr e pos) (dDrop te) :=
  ps_imp (ps_expr he hs) fun D σV H ⟨S, σ, G, N, R, hc, hee, ht, hx, hq⟩ =>
    ⟨S, σ, G, _, R, hc, hee, ht, hx, fun v H1 S1 d G1 a1 r1 q1 => hq.nx σV H1 S1 σ G1 a1 (hee.up a1.sub) q1⟩
def dRet (te : DTE) : DTS := fun N R σ G => te σ G N.rt R
theorem ds_ret (he : DE X W e te) : DS X W (.Return (some e) pos) (dRet te) :=
  ps_imp (ps_ret he) fun D σV H ⟨S, σ, G, N, R, hc, hee, ht, hx, hq⟩ => ⟨S, σ, G, _, R, hc, hee, ht, hx, fun v H1 S1 d G1 a1 r1 q1 => hq.rt v H1 S1 d G1 a1 r1 q1⟩
def dRetN : DTS := fun N _ _ G => N.rt .non G
theorem ds_retN : DS X W (.Return none pos) dRetN := ps_imp ps_retN fun D σV H ⟨S, σ, G, N, R, hc, hee, ht, hx, hq⟩ => hq.rt .non H S .non G hc.aft rfl ht
def dIfS (c : DTT) (t u : DTS) : DTS := fun N R σ G => c σ G (fun b G1 => if b = true then t N R σ G1 else u N R σ G1) R
variable {sa sb : List Stmt}
theorem ds_if (hc : DT X W c t) (ha : DSs X W sa ts) (hb : DSs X W sb us) : DS X W (.If c sa sb pos) (dIfS t ts us) :=
  ps_imp (ps_if hc ha hb) fun D σV H ⟨S, σ, G, N, R, hc, hee, ht, hx, hq⟩ => by
    refine ⟨S, σ, G, _, R, hc, hee, ht, hx, fun k H1 S1 G1 a1 q1 => ?_⟩
    cases k with
    | true => exact ⟨S1, σ, G1, N, R, a1.cn, hee.up a1.sub, q1, hx.aft a1, hq.aft a1⟩
    | false => exact ⟨S1, σ, G1, N, R, a1.cn, hee.up a1.sub, q1, hx.aft a1, hq.aft a1⟩
/-- name = value -/
def dSet (i : Nat) (te : DTE) : DTS := fun N R σ G => te σ G (fun d G1 => N.nx (σ.set i (some d)) G1) R
theorem ds_set {i : Nat} {x : Str} {pos' : Pos} (hN : X.N.Nodup) (hi : X.N[i]? = some x) (hx : Loc X.env.scope x) (he : DE X W e te) (hs : swapsWith e (some (.Name x pos')) pos.line X.env = pure false := by rfl)
    (hf : X.fn x = true ∨ X.env.scope.names.lookup x = some .local := by first | exact .inl rfl | exact .inr rfl | assumption) : DS X W (.Assign [.Name x pos'] e pos) (dSet i te) :=
  ps_imp (ps_set (i := i) hN hi hx he hs hf) fun D σV H ⟨S, σ, G, N, R, hc, hee, ht, hx, hq⟩ =>
    ⟨S, σ, G, _, R, hc, hee, ht, hx, fun v H1 S1 d G1 a1 r1 q1 => hq.nx _ H1 S1 _ G1 a1 ((hee.up a1.sub).set r1 i) q1⟩
end
end DL
set_option Elab.async false
set_option linter.all false
set_option maxRecDepth 100000
set_option maxHeartbeats 4000000
namespace DL
open PySem PyProof.Rows L2

/-! ### what a def promises, over data -/
abbrev DXC := Value → List (Str × D) → GS → Prop
abbrev DSp := List D → GS → DK → DXC → Prop
def conc (K : PySem.W.Frag) (sp : DSp) : Sp := fun vs H Q E => ∃ S G ds QD ED, Cn K S G H ∧ Reps K S ds vs ∧ sp ds G QD ED ∧ (∀ v H' S' d G', Aft K S G H S' G' H' → Rep K S' d v → QD d G' → Q v H') ∧
  ∀ cls dx H' S' fs G', Aft K S G H S' G' H' → XRep K S' H' fs dx → XNew S' G' H dx → ED cls fs G' → E cls dx H'
abbrev dE0 : DXC := fun _ _ _ => False
def dstart (N : List Str) (ds : List D) : Ev := ds.map some ++ List.replicate (N.length - ds.length) none
theorem env_start {K : PySem.W.Frag} {S : Hp} {N : List Str} {ds : List D} {vs : List V} (r : Reps K S ds vs) : EnvR K S (dstart N ds) (L2.start N vs) := by
  have hl := r.length
  refine ⟨by simp [dstart, L2.start, hl], fun i d h => ?_⟩
  unfold dstart at h
  by_cases hi : i < ds.length
  · rw [List.getElem?_append_left (by simpa using hi), List.getElem?_map] at h
    cases e : ds[i]? with
    | none => rw [e] at h; simp at h
    | some x =>
      rw [e] at h
      simp at h
      subst h
      obtain ⟨v, hv, rv⟩ := r.get' e
      refine ⟨v, ?_, rv⟩
      unfold L2.start
      rw [List.getElem?_append_left (by simpa [hl] using hi), List.getElem?_map, hv]
      rfl
  · rw [List.getElem?_append_right (by simpa using Nat.le_of_not_lt hi), List.getElem?_replicate] at h
    split at h <;> cases h

abbrev FnD (P : Program) (w : World) (K : PySem.W.Frag) (mg : Str → Option Value) (base : Heap) (k : Nat) (f : Addr) (fd : FuncData) (ps : List Str) (sp : DSp) : Prop := FnOkG P w K mg base (L2.CX P w) k f fd ps (conc K sp)
section
variable {P : Program} {w : World} {K : PySem.W.Frag} {mg : Str → Option Value} {base : Heap}
theorem FnD.imp {k : Nat} {f : Addr} {fd : FuncData} {ps : List Str} {sp sp' : DSp} (F : FnD P w K mg base k f fd ps sp) (h : ∀ ds G Q E, sp' ds G Q E → sp ds G Q E) : FnD P w K mg base k f fd ps sp' :=
  FnOkG.imp F fun vs H Q E ⟨S, G, ds, QD, ED, a, b, c, d⟩ => ⟨S, G, ds, QD, ED, a, b, h _ _ _ _ c, d⟩
abbrev wE (E : XK) : WX := fun cls d _ H => E cls d H
/-- THE RULE for a def -/
theorem okD {CXX : CXT} {x qual : Str} {st : Stmt} {f : Addr} {fd : FuncData} {N ps : List Str} {k : Nat} {sp : DSp} (F : Fun K x qual st f fd) (S : FnScope N ps (defScope st)) (len : ∀ ds G Q E, sp ds G Q E → ds.length = ps.length)
    (hbody : ∀ (cdv : Value) (A : Around) (outer : List Env) (s : Shared) (H : Hp) (E : XK), RoomG k (A.deeper (envOfC qual (defScope st) s.heap.objs.size f cdv)) → Takes (cxOf (L2.CX P w) P w K mg base N qual (defScope st) f cdv A outer s H E) (wE E) →
      ∃ t, DSs (cxOf (L2.CX P w) P w K mg base N qual (defScope st) f cdv A outer s H E) (wE E) (defBody st) t ∧
        ∀ ds G Q ED, sp ds G Q ED → t { nx := fun _ G' => GhV Q .non G', rt := GhV Q } (fun cls fs _ G' => ED cls fs G') (dstart N ds) G) : FnD P w K mg base (k + 1) f fd ps sp := by
  refine F.okXG S (fun vs H Q E ⟨S0, G, ds, QD, ED, a, b, c, d⟩ => by rw [b.length]; exact len _ _ _ _ c) (fun cdv A outer s H vs Q E hr h => ?_)
  have tk : Takes (cxOf (L2.CX P w) P w K mg base N qual (defScope st) f cdv A outer s H E) (wE E) := takes_of rfl rfl rfl rfl
  obtain ⟨t, hd, ht⟩ := hbody cdv A outer s H E hr tk
  obtain ⟨S0, G, ds, QD, ED, a, b, c, d, e⟩ := h
  refine ⟨_, hd, S0, dstart N ds, G, _, _, a, env_start b, ht ds G QD ED c, fun cls dx σV' H' S' σ' fs G' af er xr xn r => e cls dx H' S' fs G' af xr xn r, ⟨fun σV' H' S' σ' G' af er n => ?_, fun v H' S' d' G' af r n => ?_, fun σV' H' S' σ' G' af er n => n.elim, fun σV' H' S' σ' G' af er n => n.elim⟩⟩
  · obtain ⟨S2, d2, G2, a2, r2, q2⟩ := n.go (v := .non) af.cn rfl
    exact d .non H' S2 d2 G2 (af.trans a2) r2 q2
  · obtain ⟨S2, d2, G2, a2, r2, q2⟩ := n.go af.cn r
    exact d v H' S2 d2 G2 (af.trans a2) r2 q2
end

/-! ### calls -/
/-- a def is called with n of the cells -/
def dRun (sp : DSp) (ds : List D) (σ : Ev) (G : GS) (Q : DK) (R : DXK) : Prop := ∃ n, sp ds (G.take n) (fun d G' => Q d (G' ++ G.drop n)) (fun cls fs G' => R cls fs σ (G' ++ G.drop n))
def dCall (sp : DSp) (t : DTA) (dv : List D) : DTE := fun σ G Q R => t σ G (fun ds G1 => dRun sp (ds ++ dv) σ G1 Q R) R
section
variable {X : Cx} {W : WX} {k : Nat} {f C : Addr} {fd : FuncData} {ps : List Str} {sp : DSp} {x m : Str} {p pos apos : Pos} {e o : Expr} {es : List Expr} {t : DTA} {to : DTE} {dv : List D} {dvs : List V} {ds : List Value}
/-- what the callee is to promise, from what is told of the data -/
theorem run_conc {S : Hp} {G : GS} {H : Hp} {σ : Ev} {σV : L2.St} {Q : DK} {R : DXK} {xs : List D} {vs : List V} {P : VK} (c : Cn X.K S G H) (he : EnvR X.K S σ σV) (hx : XOk X.K W S G H R) (r : Reps X.K S xs vs) (h : dRun sp xs σ G Q R)
    (hq : ∀ v H' S' d G', Aft X.K S G H S' G' H' → Rep X.K S' d v → Q d G' → P v H') : conc X.K sp vs H P (WE W σV) := by
  obtain ⟨n, h⟩ := h
  have c1 : Cn X.K S (G.take n ++ G.drop n) H := by rw [List.take_append_drop]; exact c
  have c0 : Cn X.K S (G.take n) H := c.forget (List.take_sublist n G)
  refine ⟨S, G.take n, xs, _, _, c0, r, h, fun v H' S' d G' af rv q => ?_, fun cls dx H' S' fs G' af xr xn q => ?_⟩
  · have a1 := c1.frame af
    rw [List.take_append_drop] at a1
    exact hq v H' S' d _ a1 rv q
  · have a1 := c1.frame af
    rw [List.take_append_drop] at a1
    exact hx cls dx σV H' S' σ fs _ a1 (he.up a1.sub) xr (fun c hc => ⟨(xn c hc).1, (xn c hc).2.1, fun z => by
      unfold keysG at z
      rw [List.map_append, List.mem_append] at z
      rcases z with z | z
      · exact (xn c hc).2.2 z
      · obtain ⟨p, hp, e⟩ := List.mem_map.mp z
        obtain ⟨o, ho⟩ := (c1.cell p (List.mem_append_right _ hp)).there
        rw [e, (xn c hc).1] at ho
        cases ho⟩) q
/-- as run_fnS, with defaults -/
theorem run_fnSd {CX : CXT} {E : XK} {sp : Sp} {σ : L2.St} {H : Hp} {pins : List (Addr × Obj)} {s : Shared} {Q : VK} {us : List Value} {vs : List V} (F : FnOkG X.prog X.w X.K X.mg X.base CX k f fd ps sp) (hr : RoomG k X.A) (hb : Binds X.K fd ps ds) (hd : Vals dvs ds) (hx : PassesAt CX X σ E)
    (I : Inv X pins σ H s) (r : Vals vs us) (h : sp (vs ++ dvs) H Q E) : wpAny (model X.prog X.w) X.A (call (.ref f) us) (EP X pins σ Q) X.xe s := by
  have r2 : Vals (vs ++ dvs) (us ++ ds) := r.append hd
  have hl : (us ++ ds).length = ps.length := by rw [← r2.length]; exact F.len _ _ _ _ h
  refine wpAny_call (codeAny_mono (F.run X.A X.stack s H ⟨us, []⟩ (us ++ ds) (vs ++ dvs) Q E hr I.env0 (hb s us I.kIn hl) r2 h) fun r s' hq => ?_)
  cases r with
  | error e => exact hx pins H s e s' I hq
  | ok fl =>
    cases fl with
    | ret u => exact I.after hq
    | next => exact False.elim hq
    | brk => exact False.elim hq
    | cont => exact False.elim hq
def tCallSd (sp : Sp) (dvs : List V) (E : L2.St → XK) (t : TA) : TE := fun σ H Q => t σ H fun vs H1 => sp (vs ++ dvs) H1 Q (E σ)
theorem pe_callSd {CX : CXT} {E : L2.St → XK} {sp : Sp} {t : TA} (F : FnOkG X.prog X.w X.K X.mg X.base CX k f fd ps sp) (hr : RoomG k X.A) (hg : Gl X x) (hm : X.mg x = some (.ref f)) (hk : PySem.W.keepIn X.K (.ref f) = true) (hb : Binds X.K fd ps ds) (hd : Vals dvs ds) (hx : ∀ σ, PassesAt CX X σ (E σ))
    (ha : PA X (e :: es) t) (hdb : (x == ("__debug__" : Str)) = false := by decide) (he : starEach (e :: es) X.env = (false, eval e X.env) :: starEach es X.env := by rfl) (hpl : (backTo pos (starEach es X.env)).any (·.1) = false := by rfl) :
    PE X (.Call (.Name x p) (e :: es) [] pos) (tCallSd sp dvs E t) := by
  refine ⟨fun pins s σ H Q I h => ?_⟩
  refine wpAny_Call_Name_kw (ld_glob I hg hm ?_ hdb)
  refine PySem.W.callWith_K (h₀ := X.base) I.ok.mod.kin hk (thn (ha.run pos pins s σ H _ I h) fun us s1 ⟨vs, H1, I1, r, q⟩ => ⟨I1.kIn, ?_⟩) he hpl
  exact run_fnSd F hr hb hd (hx σ) I1 r q
theorem pe_callSd0 {CX : CXT} {E : L2.St → XK} {sp : Sp} (F : FnOkG X.prog X.w X.K X.mg X.base CX k f fd ps sp) (hr : RoomG k X.A) (hg : Gl X x) (hm : X.mg x = some (.ref f)) (hk : PySem.W.keepIn X.K (.ref f) = true) (hb : Binds X.K fd ps ds) (hd : Vals dvs ds) (hx : ∀ σ, PassesAt CX X σ (E σ))
    (hdb : (x == ("__debug__" : Str)) = false := by decide) : PE X (.Call (.Name x p) [] [] pos) (tCallSd sp dvs E tNil) := by
  refine ⟨fun pins s σ H Q I h => ?_⟩
  refine wpAny_Call_Name_kw (ld_glob I hg hm ?_ hdb)
  exact PySem.W.callWith_K0 I.kIn hk (run_fnSd (us := []) F hr hb hd (hx σ) I .nil h)
/-- defaults: data that hang on nothing -/
structure Dfl (K : PySem.W.Frag) (dv : List D) (dvs : List V) (ds : List Value) : Prop where
  rep : ∀ S, Reps K S dv dvs
  val : Vals dvs ds
theorem Dfl.nil {K : PySem.W.Frag} : Dfl K [] [] [] := ⟨fun _ => Reps.nil, .nil⟩
theorem de_callD (F : FnD X.prog X.w X.K X.mg X.base k f fd ps sp) (hr : RoomG k X.A) (hg : Gl X x) (hm : X.mg x = some (.ref f)) (hk : PySem.W.keepIn X.K (.ref f) = true) (hb : Binds X.K fd ps ds) (hd : Dfl X.K dv dvs ds) (tk : Takes X W)
    (ha : DA X W (e :: es) t) (hdb : (x == ("__debug__" : Str)) = false := by decide) (he : starEach (e :: es) X.env = (false, eval e X.env) :: starEach es X.env := by rfl) (hpl : (backTo pos (starEach es X.env)).any (·.1) = false := by rfl) :
    DE X W (.Call (.Name x p) (e :: es) [] pos) (dCall sp t dv) :=
  pe_imp (pe_callSd (E := WE W) F hr hg hm hk hb hd.val (fun σ => passAt tk σ) ha hdb he hpl) fun σV H P ⟨S, σ, G, Q, R, hc, hee, ht, hx, hq⟩ => by
    refine ⟨S, σ, G, _, R, hc, hee, ht, hx, fun vs H1 S1 xs G1 a1 r1 q1 => ?_⟩
    exact run_conc a1.cn (hee.up a1.sub) (hx.aft a1) (r1.app (hd.rep S1)) q1 fun v H2 S2 d G2 a2 r2 q2 => hq v H2 S2 d G2 (a1.trans a2) r2 q2
theorem de_callD0 (F : FnD X.prog X.w X.K X.mg X.base k f fd ps sp) (hr : RoomG k X.A) (hg : Gl X x) (hm : X.mg x = some (.ref f)) (hk : PySem.W.keepIn X.K (.ref f) = true) (hb : Binds X.K fd ps ds) (hd : Dfl X.K dv dvs ds) (tk : Takes X W)
    (hdb : (x == ("__debug__" : Str)) = false := by decide) : DE X W (.Call (.Name x p) [] [] pos) (dCall sp dNil dv) :=
  pe_imp (pe_callSd0 (E := WE W) F hr hg hm hk hb hd.val (fun σ => passAt tk σ) hdb) fun σV H P ⟨S, σ, G, Q, R, hc, hee, ht, hx, hq⟩ => by
    exact run_conc hc hee hx (hd.rep S) ht fun v H2 S2 d G2 a2 r2 q2 => hq v H2 S2 d G2 a2 r2 q2
theorem de_call (F : FnD X.prog X.w X.K X.mg X.base k f fd ps sp) (hr : RoomG k X.A) (hg : Gl X x) (hm : X.mg x = some (.ref f)) (hk : PySem.W.keepIn X.K (.ref f) = true) (hb : Binds X.K fd ps []) (tk : Takes X W)
    (ha : DA X W (e :: es) t) (hdb : (x == ("__debug__" : Str)) = false := by decide) (he : starEach (e :: es) X.env = (false, eval e X.env) :: starEach es X.env := by rfl) (hpl : (backTo pos (starEach es X.env)).any (·.1) = false := by rfl) :
    DE X W (.Call (.Name x p) (e :: es) [] pos) (dCall sp t []) := de_callD F hr hg hm hk hb Dfl.nil tk ha hdb he hpl
theorem de_call0 (F : FnD X.prog X.w X.K X.mg X.base k f fd ps sp) (hr : RoomG k X.A) (hg : Gl X x) (hm : X.mg x = some (.ref f)) (hk : PySem.W.keepIn X.K (.ref f) = true) (hb : Binds X.K fd ps []) (tk : Takes X W)
    (hdb : (x == ("__debug__" : Str)) = false := by decide) : DE X W (.Call (.Name x p) [] [] pos) (dCall sp dNil []) := de_callD0 F hr hg hm hk hb Dfl.nil tk hdb

/-! ### instances -/
/-- o is an instance of the class at C with the attributes ns, vs -/
def isIns (C : Addr) (o : D) (G : GS) (ns : List Str) (vs : List D) : Prop := o = .obj C ns vs ∨ ∃ p, o = .ref p ∧ (p, Cell.ins C ns vs) ∈ G
theorem ins_of {K : PySem.W.Frag} {S : Hp} {G : GS} {H : Hp} {o : D} {v : V} {ns : List Str} {vs : List D} (c : Cn K S G H) (r : Rep K S o v) (h : isIns C o G ns vs) : ∃ a dx fs, v = .ref a ∧ H a = some (.ins C dx fs) ∧ fs.map (·.1) = ns ∧ Reps K S vs (fs.map (·.2)) := by
  rcases h with rfl | ⟨p, rfl, hm⟩
  · obtain ⟨a, dx, fs, h1, h2, h3, h4⟩ := r
    exact ⟨a, dx, fs, h1, c.sub _ _ h2, h3, h4⟩
  · obtain ⟨dx, fs, h1, h2, h3⟩ := c.cell _ hm
    exact ⟨p, dx, fs, r, h1, h2, h3⟩
/-- what stands at f -/
def fldAt (f : Str) : List Str → List D → Option D
  | n :: ns, v :: vs => if f = n then some v else fldAt f ns vs
  | _, _ => none
theorem fld_lookup {K : PySem.W.Frag} {S : Hp} {f : Str} {d : D} : ∀ {ns : List Str} {vs : List D} {fs : List (Str × V)}, fs.map (·.1) = ns → Reps K S vs (fs.map (·.2)) → fldAt f ns vs = some d → ∃ v, fs.lookup f = some v ∧ Rep K S d v
  | [], [], [], _, _, h => by cases h
  | n :: ns, [], fs, _, _, h => by cases h
  | [], v :: vs, fs, _, _, h => by cases h
  | n :: ns, y :: vs, [], h1, _, _ => by cases h1
  | n :: ns, y :: vs, (n', z) :: fs, h1, h2, h => by
    simp only [List.map_cons, List.cons.injEq] at h1
    obtain ⟨rfl, h1⟩ := h1
    obtain ⟨v', r, e, rv, rr⟩ := h2
    simp only [List.map_cons, List.cons.injEq] at e
    obtain ⟨rfl, rfl⟩ := e
    unfold fldAt at h
    by_cases hf : f = n'
    · rw [if_pos hf] at h
      cases h
      exact ⟨z, by simp [List.lookup, hf], rv⟩
    · rw [if_neg hf] at h
      obtain ⟨v, h3, h4⟩ := fld_lookup h1 rr h
      have : (f == n') = false := by simpa using hf
      exact ⟨v, by simp [List.lookup, this, h3], h4⟩
  | [], [], _ :: _, h1, _, _ => by cases h1
theorem lookup_none {f : Str} : ∀ {fs : List (Str × V)}, f ∉ fs.map (·.1) → fs.lookup f = none
  | [], _ => rfl
  | (n, v) :: fs, h => by
    simp only [List.map_cons, List.mem_cons, not_or] at h
    have : (f == n) = false := by simpa using h.1
    simp [List.lookup, this, lookup_none h.2]
/-- what the text tells of a class and its attributes -/
structure Cl (K : PySem.W.Frag) (C : Addr) (ns : List Str) : Prop where
  cl : Cls K C
  no : ∀ f ∈ ns, NoAttr K C f
def dFld (K : PySem.W.Frag) (f : Str) (te : DTE) : DTE := fun σ G Q R => te σ G (fun d G1 => ∃ C ns vs x, isIns C d G1 ns vs ∧ Cls K C ∧ NoAttr K C f ∧ fldAt f ns vs = some x ∧ Q x G1) R
theorem de_fld {fl : Str} (he : DE X W e to) (hb : attributeBase e fl X.env (eval e X.env) = eval e X.env := by rfl) : DE X W (.Attribute e fl pos) (dFld X.K fl to) :=
  pe_imp (L2.pe_fld he hb) fun σV H P ⟨S, σ, G, Q, R, hc, hee, ht, hx, hq⟩ => by
    refine ⟨S, σ, G, _, R, hc, hee, ht, hx, fun v H1 S1 d G1 a1 r1 q1 => ?_⟩
    obtain ⟨C, ns, vs, z, hi, h1, h2, h3, q⟩ := q1
    obtain ⟨a, dx, fs, rfl, h4, h5, h6⟩ := ins_of a1.cn r1 hi
    obtain ⟨u, h7, h8⟩ := fld_lookup h5 h6 h3
    exact ⟨a, C, dx, fs, u, rfl, h4, h1, h2, h7, hq u H1 S1 z G1 a1 h8 q⟩
/-- o.m(..) -/
def dMeth (C : Addr) (m : Str) (sp : DSp) (to : DTE) (t : DTA) (dv : List D) : DTE := fun σ G Q R => to σ G (fun o G1 => (∃ ns vs, isIns C o G1 ns vs ∧ m ∉ ns) ∧ t σ G1 (fun ds G2 => dRun sp (o :: (ds ++ dv)) σ G2 Q R) R) R
def tMethSd (C : Addr) (m : Str) (sp : Sp) (dvs : List V) (E : L2.St → XK) (ta : TE) (t : TA) : TE := fun σ H Q => ta σ H fun x H1 => ∃ a dx fs, x = .ref a ∧ H1 a = some (.ins C dx fs) ∧ fs.lookup m = none ∧ t σ H1 fun vs H2 => sp (x :: (vs ++ dvs)) H2 Q (E σ)
theorem pe_methSd {CX : CXT} {E : L2.St → XK} {sp : Sp} {ta : TE} {t : TA} {pl : Sem Bool} (he : PE X o ta) (c : Cls X.K C) (hm : Meth X.K C m f) (F : FnOkG X.prog X.w X.K X.mg X.base CX k f fd ps sp) (hr : RoomG k X.A) (hb : Binds X.K fd ps ds) (hd : Vals dvs ds) (hx : ∀ σ, PassesAt CX X σ (E σ)) (ha : PA X (e :: es) t)
    (hst : starEach (e :: es) X.env = (false, eval e X.env) :: starEach es X.env := by rfl) (hpl : (backTo pos (starEach es X.env)).any (·.1) = false := by rfl)
    (ht : eval (.Call (.Attribute o m apos) (e :: es) [] pos) X.env = (do
      let ov ← eval o X.env
      standAt apos.atName
      let (f, first) ← holding [ov] (getMethod ov m pl)
      callWith pos f first (backTo pos (starEach (e :: es) X.env)) (backToKw pos (keywordEach [] X.env))) := by rfl) :
    PE X (.Call (.Attribute o m apos) (e :: es) [] pos) (tMethSd C m sp dvs E ta t) := by
  refine ⟨fun pins s σ H Q I h => ?_⟩
  refine PySem.W.methodCall_KW (pl := pl) (thn (he.run pins s σ H _ I h) fun u s1 ⟨x, H1, I1, rx, a, dx, fs, ex, ea, l, q⟩ => ?_) ht
  subst ex
  obtain rfl : u = Value.ref a := rx
  refine getmeth_ok I1 ea c hm l ?_
  refine PySem.W.callWith_K (first := [.ref a]) (h₀ := X.base) I.ok.mod.kin hm.kp (thn (ha.run pos pins s1 σ H1 _ I1 q) fun us s2 ⟨vs, H2, I2, r, q2⟩ => ⟨I2.kIn, ?_⟩) hst hpl
  exact run_fnSd (us := .ref a :: us) (vs := .ref a :: vs) F hr hb hd (hx σ) I2 (.cons rfl r) q2
theorem pe_methSd0 {CX : CXT} {E : L2.St → XK} {sp : Sp} {ta : TE} {pl : Sem Bool} (he : PE X o ta) (c : Cls X.K C) (hm : Meth X.K C m f) (F : FnOkG X.prog X.w X.K X.mg X.base CX k f fd ps sp) (hr : RoomG k X.A) (hb : Binds X.K fd ps ds) (hd : Vals dvs ds) (hx : ∀ σ, PassesAt CX X σ (E σ))
    (ht : eval (.Call (.Attribute o m apos) [] [] pos) X.env = (do
      let ov ← eval o X.env
      standAt apos.atName
      let (f, first) ← holding [ov] (getMethod ov m pl)
      callWith pos f first (backTo pos (starEach [] X.env)) (backToKw pos (keywordEach [] X.env))) := by rfl) :
    PE X (.Call (.Attribute o m apos) [] [] pos) (tMethSd C m sp dvs E ta tNil) := by
  refine ⟨fun pins s σ H Q I h => ?_⟩
  refine PySem.W.methodCall_KW (pl := pl) (thn (he.run pins s σ H _ I h) fun u s1 ⟨x, H1, I1, rx, a, dx, fs, ex, ea, l, q⟩ => ?_) ht
  subst ex
  obtain rfl : u = Value.ref a := rx
  refine getmeth_ok I1 ea c hm l ?_
  exact PySem.W.callWith_K0 (first := [.ref a]) I1.kIn hm.kp (run_fnSd (us := [.ref a]) (vs := [.ref a]) F hr hb hd (hx σ) I1 (.cons rfl .nil) q)
theorem meth_imp {σV : L2.St} {H : Hp} {P : VK} (hd : Dfl X.K dv dvs ds) (h : liftE X.K W (dMeth C m sp to t dv) σV H P) : tMethSd C m (conc X.K sp) dvs (WE W) (liftE X.K W to) (liftA X.K W t) σV H P := by
  obtain ⟨S, σ, G, Q, R, hc, hee, ht, hx, hq⟩ := h
  refine ⟨S, σ, G, _, R, hc, hee, ht, hx, fun v H1 S1 d G1 a1 r1 q1 => ?_⟩
  obtain ⟨⟨ns, vs, hi, hm⟩, q⟩ := q1
  obtain ⟨a, dx, fs, rfl, h4, h5, h6⟩ := ins_of a1.cn r1 hi
  refine ⟨a, dx, fs, rfl, h4, lookup_none (by rw [h5]; exact hm), S1, σ, G1, _, R, a1.cn, hee.up a1.sub, q, hx.aft a1, fun us H2 S2 xs G2 a2 r2 q2 => ?_⟩
  exact run_conc a2.cn (hee.up (a1.trans a2).sub) (hx.aft (a1.trans a2)) (Reps.cons (r1.up a2.sub) (r2.app (hd.rep S2))) q2 fun v H3 S3 d G3 a3 r3 q3 => hq v H3 S3 d G3 ((a1.trans a2).trans a3) r3 q3
theorem de_meth {pl : Sem Bool} (he : DE X W o to) (c : Cls X.K C) (hm : Meth X.K C m f) (F : FnD X.prog X.w X.K X.mg X.base k f fd ps sp) (hr : RoomG k X.A) (hb : Binds X.K fd ps ds) (hd : Dfl X.K dv dvs ds) (tk : Takes X W) (ha : DA X W (e :: es) t)
    (hst : starEach (e :: es) X.env = (false, eval e X.env) :: starEach es X.env := by rfl) (hpl : (backTo pos (starEach es X.env)).any (·.1) = false := by rfl)
    (ht : eval (.Call (.Attribute o m apos) (e :: es) [] pos) X.env = (do
      let ov ← eval o X.env
      standAt apos.atName
      let (f, first) ← holding [ov] (getMethod ov m pl)
      callWith pos f first (backTo pos (starEach (e :: es) X.env)) (backToKw pos (keywordEach [] X.env))) := by rfl) :
    DE X W (.Call (.Attribute o m apos) (e :: es) [] pos) (dMeth C m sp to t dv) :=
  pe_imp (pe_methSd (E := WE W) (pl := pl) he c hm F hr hb hd.val (fun σ => passAt tk σ) ha hst hpl ht) fun σV H P h => meth_imp hd h
theorem de_meth0 {pl : Sem Bool} (he : DE X W o to) (c : Cls X.K C) (hm : Meth X.K C m f) (F : FnD X.prog X.w X.K X.mg X.base k f fd ps sp) (hr : RoomG k X.A) (hb : Binds X.K fd ps ds) (hd : Dfl X.K dv dvs ds) (tk : Takes X W)
    (ht : eval (.Call (.Attribute o m apos) [] [] pos) X.env = (do
      let ov ← eval o X.env
      standAt apos.atName
      let (f, first) ← holding [ov] (getMethod ov m pl)
      callWith pos f first (backTo pos (starEach [] X.env)) (backToKw pos (keywordEach [] X.env))) := by rfl) :
    DE X W (.Call (.Attribute o m apos) [] [] pos) (dMeth C m sp to dNil dv) :=
  pe_imp (pe_methSd0 (E := WE W) (pl := pl) he c hm F hr hb hd.val (fun σ => passAt tk σ) ht) fun σV H P h => by
    obtain ⟨S, σ, G, Q, R, hc, hee, ht, hx, hq⟩ := h
    refine ⟨S, σ, G, _, R, hc, hee, ht, hx, fun v H1 S1 d G1 a1 r1 q1 => ?_⟩
    obtain ⟨⟨ns, vs, hi, hm⟩, q⟩ := q1
    obtain ⟨a, dx, fs, rfl, h4, h5, h6⟩ := ins_of a1.cn r1 hi
    refine ⟨a, dx, fs, rfl, h4, lookup_none (by rw [h5]; exact hm), ?_⟩
    exact run_conc a1.cn (hee.up a1.sub) (hx.aft a1) (Reps.cons r1 (hd.rep S1)) q fun v H3 S3 d G3 a3 r3 q3 => hq v H3 S3 d G3 (a1.trans a3) r3 q3
end
end DL
set_option Elab.async false
set_option linter.all false
set_option maxRecDepth 100000
set_option maxHeartbeats 4000000
namespace DL
open PySem PyProof.Rows L2

/-! ### ints -/
def dI (C : Int → Int → Prop) (g : Int → Int → D) : DOp := fun x y G Q => match x, y with | .int i, .int j => C i j ∧ Q (g i j) G | _, _ => False
section
variable {X : Cx}
theorem opd_int {f : Value → Value → Sem Value} {C : Int → Int → Prop} {g : Int → Int → V} {g' : Int → Int → D} (h : OpR X f (rI C g)) (hg : ∀ i j S, Rep X.K S (g' i j) (g i j)) : OpD X f (dI C g') :=
  OpD.mk h fun S G H x y v u Q P hc rx ry ho hq => by
    cases x <;> cases y <;> first | exact (show False from ho).elim | skip
    obtain ⟨c, q⟩ := ho
    exact ⟨_, _, rx, ry, c, hq _ _ _ _ _ hc.aft (hg _ _ _) q⟩
theorem opd_int0 {f : Value → Value → Sem Value} {g : Int → Int → V} {g' : Int → Int → D} (h : OpR X f (rI0 g)) (hg : ∀ i j S, Rep X.K S (g' i j) (g i j)) : OpD X f (dI (fun _ _ => True) g') :=
  OpD.mk h fun S G H x y v u Q P hc rx ry ho hq => by
    cases x <;> cases y <;> first | exact (show False from ho).elim | skip
    obtain ⟨c, q⟩ := ho
    exact ⟨_, _, rx, ry, hq _ _ _ _ _ hc.aft (hg _ _ _) q⟩
def CDivZ (_ j : Int) : Prop := j ≠ 0 ∧ j.natAbs.log2 < 9000
theorem op_fdivZ : OpR X (binaryOp .FloorDiv) (rI CDivZ fun i j => .int (i.fdiv j)) := opI fun i j _ _ _ _ _ hc q => floordiv_int hc.1 q (.inl (PyProof.noPylong_of_log2 hc.2))

/-! ### lists, tuples, texts -/
theorem list_mulW (l : Addr) (items : Array Value) (n : Nat) (dd : Option Addr) (sl : Array (Option Value)) (x : Int) (u : Tok) (hc0 : ¬(!Builtin.List.listFitsIndex x) = true) (hc1 : ¬items.size * x.toNat > (2 ^ 63 - 1) / 8) (hc2 : ¬Builtin.List.listTooLong (items.size * x.toNat) = true) :
    Meets (Builtin.«list.__mul__» ⟨[.ref l, .int x u], []⟩) (fun _ R s => s.heap.get? l = some { cls := .type "list", dict := dd, data := .seq items n, slots := sl } ∧ R (.ok (.ret (Value.ref s.heap.objs.size))) { s with heap := s.heap.push { cls := Value.type "list", data := Data.seq (List.foldl (fun x1 x2 => x1 ++ x2) #[] (List.replicate (if items.isEmpty = true then 0 else x.toNat) items)) }, toks := s.toks }) :=
  .of_wp fun prog w A R s h => by
    obtain ⟨hp, g, d, tk, os⟩ := s; obtain ⟨hl, h⟩ := h
    have hsz := AutoListH.joined_fits hc2
    wp_walk using AutoSeq1.wpAny_loadPart' hl
    refine wpAny_ite_false (decide_eq_false (Nat.not_lt.mpr hsz)) ?_
    wp_walk using AutoSeq1.wpAny_loadPart' hl
    exact ⟨_, rfl, h⟩
theorem int_rmul_listW (a : Int) (t : Tok) (l : Addr) (items : Array Value) (n : Nat) (dd : Option Addr) (sl : Array (Option Value)) :
    Meets (Builtin.«int.__rmul__» ⟨[.int a t, .ref l], []⟩) (fun _ R s => s.heap.get? l = some { cls := .type "list", dict := dd, data := .seq items n, slots := sl } ∧ R (.ok (.ret Value.notImplemented)) s) :=
  .of_wp fun prog w A R s h => by obtain ⟨hp, g, d, tk, os⟩ := s; obtain ⟨hl, h⟩ := h; wp_walk using AutoSeq1.wpAny_loadPart' hl; exact ⟨_, rfl, h⟩
/-- list * int, whatever list -/
def rRepS (K : PySem.W.Frag) : R2 := fun x y H Q => ∃ l k xs, x = .ref l ∧ y = .int k ∧ SqL K H l xs ∧ -(2 ^ 63) ≤ k ∧ k < 2 ^ 63 ∧ xs.length * k.toNat ≤ sizeLine ∧
  ∀ p, H p = none → Q (.ref p) (upd H p (.lst (List.replicate k.toNat xs).flatten))
theorem op_repS : OpR X (binaryOp .Mult) (rRepS X.K) := by
  intro pins s σ H x y v u Q I rx ry h
  obtain ⟨l, k, xs, rfl, rfl, hH, h1, h2, hz, q⟩ := h
  cases rx
  obtain ⟨t, rfl⟩ := ry
  obtain ⟨its, r, ⟨⟨cls, dd, data, sl⟩, n, e, hc, hd0, hd⟩, hl0⟩ := I.list hH
  simp only at hc hd hd0
  subst hc hd
  have hl : xs.length = its.length := r.length
  have hlen : its.toArray.size * k.toNat ≤ sizeLine := by rw [List.size_toArray, ← hl]; exact hz
  have hcap : ¬ its.toArray.size * k.toNat > (2 ^ 63 - 1) / 8 := by
    have : (sizeLine : Nat) ≤ (2 ^ 63 - 1) / 8 := by decide
    omega
  have hfit : ¬ (!Builtin.List.listFitsIndex k) = true := by
    rw [fitsIndex_both h1 h2]
    exact Bool.false_ne_true
  have hlong : ¬ Builtin.List.listTooLong (its.toArray.size * k.toNat) = true := by
    rw [notLongL hlen]
    exact Bool.false_ne_true
  have hnew : List.foldl (fun x1 x2 => x1 ++ x2) #[] (List.replicate (if its.toArray.isEmpty = true then 0 else k.toNat) its.toArray) = (List.replicate k.toNat its).flatten.toArray := by
    have f0 : ∀ m : Nat, List.foldl (fun x1 x2 => x1 ++ x2) #[] (List.replicate m its.toArray) = (List.replicate m its).flatten.toArray := fun m => by
      have := foldl_rep its m []
      rw [List.nil_append] at this
      exact this
    rw [f0]
    cases its with
    | nil => simp
    | cons a r' => rw [if_neg (by simp)]
  refine wpAny_binaryOp_repeat_ref (T := "list") (U := "int") (by decide) ⟨_, e, rfl⟩ (fun s' => typeIs_int s' k t) noFill_list_mul F.fills_int_mul F.slot_int_rmul repeat_list F.slot_int_index.lookup
    (call_meets F.slot_int_rmul (typeIs_int s k t) F.entry_int_rmul (F.args_int_rmul_2 _ _) (int_rmul_listW k t l its.toArray n dd sl)
      ⟨e, rfl, ⟨_, e, rfl⟩, call_meets F.slot_list_mul ⟨_, e, rfl⟩ F.entry_list_mul (F.args_list_mul_2 _ _) (list_mulW l its.toArray n dd sl k t hfit hcap hlong) ⟨e, ?_⟩⟩)
  rw [hnew]
  exact ⟨.ref _, _, I.lnew (t' := s.toks) (r.rep k.toNat) (by rw [PyProof.Rows.lm_len_rep_flat, Nat.mul_comm]; exact hz), rfl, q _ I.fresh⟩
/-- list + list, whatever lists -/
def rCatS (K : PySem.W.Frag) : R2 := fun x y H Q => ∃ l b xs zs, x = .ref l ∧ y = .ref b ∧ SqL K H l xs ∧ SqL K H b zs ∧ xs.length + zs.length ≤ sizeLine ∧ ∀ p, H p = none → Q (.ref p) (upd H p (.lst (xs ++ zs)))
theorem op_catS : OpR X (binaryOp .Add) (rCatS X.K) := by
  intro pins s σ H x y v u Q I rx ry h
  obtain ⟨l, b, xs, zs, rfl, rfl, hH, hB, hz, q⟩ := h
  cases rx
  cases ry
  obtain ⟨its, r, ⟨⟨cls, dd, data, sl⟩, n, ho, hc, _, hd⟩, hl0⟩ := I.list hH
  obtain ⟨its2, r2, ⟨⟨cls2, dd2, data2, sl2⟩, n2, ho2, hc2, _, hd2⟩, hl02⟩ := I.list hB
  simp only at hc hd hc2 hd2
  subst hc hd hc2 hd2
  have e : its.toArray ++ its2.toArray = (its ++ its2).toArray := by simp
  have l1 := r.length
  have l2 := r2.length
  refine concat_meets ⟨_, ho, rfl⟩ ⟨_, ho2, rfl⟩ noFill_list_add seq_list_add PySem.F.slot_list_add PySem.F.entry_list_add (PySem.F.args_list_add_2 _ _) (list_addW l b its.toArray its2.toArray n n2 dd dd2 sl sl2 (by simp only [List.size_toArray]; omega)) ⟨ho, ho2, ?_⟩
  rw [e]
  exact ⟨.ref _, _, I.lnew (t' := s.toks) (r.append r2) (by rw [List.length_append]; omega), rfl, q _ I.fresh⟩
/-- text * int -/
def repT (x : Str) (n : Int) : Str := ⟨((List.replicate n.toNat x.cps.toList).flatten).toArray⟩
theorem foldl_repT (a : Array Nat) : ∀ (k : Nat) (acc : Array Nat), (List.replicate k a).foldl (· ++ ·) acc = (acc.toList ++ (List.replicate k a.toList).flatten).toArray
  | 0, acc => by simp
  | k + 1, acc => by rw [List.replicate_succ, List.foldl_cons, foldl_repT a k]; simp [List.replicate_succ, List.append_assoc]
theorem op_repT : OpR X (binaryOp .Mult) (fun x y H Q => ∃ z k, x = .str z ∧ y = .int k ∧ 0 ≤ k ∧ k < 2 ^ 63 ∧ z.length * k.toNat ≤ sizeLine ∧ Q (.str (repT z k)) H) := by
  intro pins s σ H x y v u Q I rx ry h
  obtain ⟨z, k, rfl, rfl, h1, h2, hz, q⟩ := h
  obtain ⟨t, rfl⟩ := rx
  obtain ⟨t', rfl⟩ := ry
  have hs : sizeLine = 16777216 := sizeLine_eq
  have e0 : z.length = z.cps.toList.length := by simp [Str.length]
  refine P.mul_str ?_ (fun g1 g2 => ?_) (fun g1 g2 => ?_) ?_
  · have a1 : ¬ k < -(2 ^ 63) := by omega
    have a2 : ¬ k ≥ 2 ^ 63 := by omega
    rw [decide_eq_false a1, decide_eq_false a2]; rfl
  · have hk : 0 < k := by omega
    have e : ((k.toNat : Nat) : Int) = k := by omega
    have hz' : ((z.length * k.toNat : Nat) : Int) ≤ 16777216 := by rw [hs] at hz; exact Int.ofNat_le.mpr hz
    rw [Int.natCast_mul, e] at hz'
    intro c
    have c' : (2 ^ 63 - 1) / k + 1 ≤ (z.length : Int) := c
    have m : ((2 ^ 63 - 1) / k + 1) * k ≤ (z.length : Int) * k := Int.mul_le_mul_of_nonneg_right c' (by omega)
    have := Int.lt_ediv_add_one_mul_self (2 ^ 63 - 1) hk
    omega
  · unfold Builtin.Str.tooLong
    first | exact decide_eq_false (by omega) | (simp; omega)
  · have fin : repT z k = ⟨(List.replicate k.toNat z.cps).foldl (· ++ ·) #[]⟩ := by
      rw [foldl_repT]; rfl
    by_cases g1 : k < 1
    · rw [if_pos g1]
      have hk : k = 0 := by omega
      subst hk
      exact ⟨by decide, .str _, H, I.tok _, ⟨_, rfl⟩, q⟩
    · rw [if_neg g1]
      by_cases g2 : (k == 1 || z.length == 0) = true
      · rw [if_pos g2]
        have : repT z k = z := by
          rw [Bool.or_eq_true, beq_iff_eq, beq_iff_eq] at g2
          rcases g2 with g2 | g2
          · subst g2
            exact TL.ext_tl (by simp [repT, TL.tl])
          · refine TL.ext_tl ?_
            have e1 : z.cps.toList = [] := List.eq_nil_of_length_eq_zero (by omega)
            have : ∀ m : Nat, (List.replicate m ([] : List Nat)).flatten = [] := fun m => by induction m with | zero => rfl | succ m ih => simp
            simp [repT, TL.tl, e1, this]
        exact ⟨.str _, H, I.tok _, ⟨_, rfl⟩, by rw [this] at q; exact q⟩
      · rw [if_neg g2, ← fin]
        refine ⟨?_, .str _, H, I.tok _, ⟨_, rfl⟩, q⟩
        have : (repT z k).length = z.length * k.toNat := by
          simp [repT, Str.length, Nat.mul_comm]
        first | exact (by rw [this]; exact hz) | (show _ ; simp [this]; omega)
end
end DL
set_option Elab.async false
set_option linter.all false
set_option maxRecDepth 100000
set_option maxHeartbeats 4000000
namespace DL
open PySem PyProof.Rows L2

/-! ### the operations over data -/
section
variable {X : Cx} {W : WX}
def dAdd : DOp := fun x y G Q => match x, y with
  | .int i, .int j => Q (.int (i + j)) G
  | .str a, .str b => a.length + b.length ≤ sizeLine ∧ Q (.str (a ++ b)) G
  | .lst a, .lst b => a.length + b.length ≤ sizeLine ∧ Q (.lst (a ++ b)) G
  | .tup a, .tup b => a.length + b.length ≤ sizeLine ∧ Q (.tup (a ++ b)) G
  | _, _ => False
theorem opd_addS : OpD X (binaryOp .Add) (fun x y G Q => ∃ a b, x = .str a ∧ y = .str b ∧ a.length + b.length ≤ sizeLine ∧ Q (.str (a ++ b)) G) :=
  OpD.mk op_add_str fun S G H x y v u Q P hc rx ry ho hq => by
    obtain ⟨a, b, rfl, rfl, hl, q⟩ := ho
    exact ⟨a, b, rx, ry, hl, hq _ _ _ (.str (a ++ b)) _ hc.aft rfl q⟩
theorem opd_addL : OpD X (binaryOp .Add) (fun x y G Q => ∃ a b, x = .lst a ∧ y = .lst b ∧ a.length + b.length ≤ sizeLine ∧ Q (.lst (a ++ b)) G) :=
  OpD.mk op_catS fun S G H x y v u Q P hc rx ry ho hq => by
    obtain ⟨a, b, rfl, rfl, hl, q⟩ := ho
    obtain ⟨p, vs, rfl, h1, r1⟩ := rx
    obtain ⟨p2, us, rfl, h2, r2⟩ := ry
    refine ⟨p, p2, vs, us, rfl, rfl, hc.sub.l h1, hc.sub.l h2, by rw [r1.length, r2.length]; exact hl, fun z hz => ?_⟩
    have a2 := hc.still (o := .lst (vs ++ us)) hz
    exact hq _ _ _ (.lst (a ++ b)) _ a2 ⟨z, _, rfl, SqL.of upd_same, (r1.up a2.sub).app (r2.up a2.sub)⟩ q
theorem opd_addT : OpD X (binaryOp .Add) (fun x y G Q => ∃ a b, x = .tup a ∧ y = .tup b ∧ a.length + b.length ≤ sizeLine ∧ Q (.tup (a ++ b)) G) :=
  OpD.mk op_catA fun S G H x y v u Q P hc rx ry ho hq => by
    obtain ⟨a, b, rfl, rfl, hl, q⟩ := ho
    obtain ⟨p, vs, rfl, h1, r1⟩ := rx
    obtain ⟨p2, us, rfl, h2, r2⟩ := ry
    refine ⟨p, p2, vs, us, rfl, rfl, hc.sub.t h1, hc.sub.t h2, by rw [r1.length, r2.length]; exact hl, fun e => ?_, fun _ e => ?_, fun _ _ z hz => ?_⟩
    · subst e
      have : a = [] := List.eq_nil_of_length_eq_zero r1.length.symm
      subst this
      exact hq _ _ _ (.tup ([] ++ b)) _ hc.aft ⟨p2, us, rfl, h2, r2⟩ q
    · subst e
      have : b = [] := List.eq_nil_of_length_eq_zero r2.length.symm
      subst this
      exact hq _ _ _ (.tup (a ++ [])) _ hc.aft ⟨p, vs, rfl, h1, by rw [List.append_nil]; exact r1⟩ q
    · have a2 := hc.still (o := .tup (vs ++ us)) hz
      exact hq _ _ _ (.tup (a ++ b)) _ a2 ⟨z, _, rfl, SqT.of upd_same, (r1.up a2.sub).app (r2.up a2.sub)⟩ q
theorem opd_add : OpD X (binaryOp .Add) dAdd :=
  ((opd_int0 (g' := fun i j => .int (i + j)) op_add fun _ _ _ => rfl).or (opd_addS.or (opd_addL.or opd_addT))).imp fun x y G Q h => by
    cases x <;> cases y <;> first | exact (show False from h).elim | skip
    · exact .inl ⟨trivial, h⟩
    · exact .inr (.inl ⟨_, _, rfl, rfl, h⟩)
    · exact .inr (.inr (.inr ⟨_, _, rfl, rfl, h⟩))
    · exact .inr (.inr (.inl ⟨_, _, rfl, rfl, h⟩))
def dSub : DOp := dI (fun _ _ => True) fun i j => .int (i - j)
theorem opd_sub : OpD X (binaryOp .Sub) dSub := opd_int0 op_sub fun _ _ _ => rfl
def dMul : DOp := fun x y G Q => match x, y with
  | .int i, .int j => (CMulW i j ∨ CMul i j) ∧ Q (.int (i * j)) G
  | .lst a, .int k => -(2 ^ 63) ≤ k ∧ k < 2 ^ 63 ∧ a.length * k.toNat ≤ sizeLine ∧ Q (.lst (List.replicate k.toNat a).flatten) G
  | .str a, .int k => 0 ≤ k ∧ k < 2 ^ 63 ∧ a.length * k.toNat ≤ sizeLine ∧ Q (.str (repT a k)) G
  | _, _ => False
theorem Reps.flat {K : PySem.W.Frag} {S : Hp} {a : List D} {vs : List V} (r : Reps K S a vs) : ∀ n : Nat, Reps K S (List.replicate n a).flatten (List.replicate n vs).flatten
  | 0 => by simp [Reps]
  | n + 1 => by
    rw [List.replicate_succ, List.replicate_succ, List.flatten_cons, List.flatten_cons]
    exact r.app (Reps.flat r n)
theorem opd_mulL : OpD X (binaryOp .Mult) (fun x y G Q => ∃ a k, x = .lst a ∧ y = .int k ∧ -(2 ^ 63) ≤ k ∧ k < 2 ^ 63 ∧ a.length * k.toNat ≤ sizeLine ∧ Q (.lst (List.replicate k.toNat a).flatten) G) :=
  OpD.mk op_repS fun S G H x y v u Q P hc rx ry ho hq => by
    obtain ⟨a, k, rfl, rfl, h1, h2, h3, q⟩ := ho
    obtain ⟨p, vs, rfl, h4, r1⟩ := rx
    refine ⟨p, k, vs, rfl, ry, hc.sub.l h4, h1, h2, by rw [r1.length]; exact h3, fun z hz => ?_⟩
    have a2 := hc.still (o := .lst (List.replicate k.toNat vs).flatten) hz
    exact hq _ _ _ (.lst _) _ a2 ⟨z, _, rfl, SqL.of upd_same, (r1.up a2.sub).flat k.toNat⟩ q
theorem opd_mulS : OpD X (binaryOp .Mult) (fun x y G Q => ∃ a k, x = .str a ∧ y = .int k ∧ 0 ≤ k ∧ k < 2 ^ 63 ∧ a.length * k.toNat ≤ sizeLine ∧ Q (.str (repT a k)) G) :=
  OpD.mk op_repT fun S G H x y v u Q P hc rx ry ho hq => by
    obtain ⟨a, k, rfl, rfl, h1, h2, h3, q⟩ := ho
    exact ⟨a, k, rx, ry, h1, h2, h3, hq _ _ _ (.str _) _ hc.aft rfl q⟩
theorem opd_mul : OpD X (binaryOp .Mult) dMul :=
  (((opd_int (g' := fun i j => .int (i * j)) op_mulW fun _ _ _ => rfl).or (opd_int (g' := fun i j => .int (i * j)) op_mul fun _ _ _ => rfl)).or (opd_mulL.or opd_mulS)).imp fun x y G Q h => by
    cases x <;> cases y <;> first | exact (show False from h).elim | skip
    · rcases h with ⟨h | h, q⟩
      · exact .inl (.inl ⟨h, q⟩)
      · exact .inl (.inr ⟨h, q⟩)
    · exact .inr (.inr ⟨_, _, rfl, rfl, h⟩)
    · exact .inr (.inl ⟨_, _, rfl, rfl, h⟩)
/-- // by a positive number, by any -/
def dDiv : DOp := dI CDivW fun i j => .int (i / j)
theorem opd_div : OpD X (binaryOp .FloorDiv) dDiv := opd_int op_fdivW fun _ _ _ => rfl
def dDivZ : DOp := dI CDivZ fun i j => .int (i.fdiv j)
theorem opd_divZ : OpD X (binaryOp .FloorDiv) dDivZ := opd_int op_fdivZ fun _ _ _ => rfl
def dMod : DOp := dI (fun _ j => 0 < j) fun i j => .int (i % j)
theorem opd_mod : OpD X (binaryOp .Mod) dMod := opd_int op_mod fun _ _ _ => rfl
def dModZ : DOp := dI (fun _ j => j ≠ 0) fun i j => .int (i.fmod j)
theorem opd_modZ : OpD X (binaryOp .Mod) dModZ := opd_int op_modN fun _ _ _ => rfl
def dPow : DOp := dI CPow fun i j => .int (i ^ j.toNat)
theorem opd_pow : OpD X (binaryOp .Pow) dPow := opd_int op_pow fun _ _ _ => rfl
def dLt : DOp := dI (fun _ _ => True) fun i j => .bl (decide (i < j))
def dLe : DOp := dI (fun _ _ => True) fun i j => .bl (decide (i ≤ j))
def dGt : DOp := dI (fun _ _ => True) fun i j => .bl (decide (j < i))
def dGe : DOp := dI (fun _ _ => True) fun i j => .bl (decide (j ≤ i))
theorem opd_lt : OpD X (compareOp .Lt) dLt := opd_int0 op_lt fun _ _ _ => rfl
theorem opd_le : OpD X (compareOp .LtE) dLe := opd_int0 op_le fun _ _ _ => rfl
theorem opd_gt : OpD X (compareOp .Gt) dGt := opd_int0 op_gt fun _ _ _ => rfl
theorem opd_ge : OpD X (compareOp .GtE) dGe := opd_int0 op_ge fun _ _ _ => rfl

/-! ### == of data -/
mutual
def D.py : D → Option PyData
  | .non => some .none
  | .bl b => some (.bool b)
  | .int i => some (.int i)
  | .str x => some (.str x)
  | .tup xs => (D.pys xs).map .tuple
  | .lst xs => (D.pys xs).map .list
  | _ => none
def D.pys : List D → Option (List PyData)
  | [] => some []
  | x :: xs => match D.py x, D.pys xs with | some p, some ps => some (p :: ps) | _, _ => none
end
mutual
theorem py_dp {K : PySem.W.Frag} {S H : Hp} (e : Sub S H) : ∀ (d : D) (v : V) (p : PyData), Rep K S d v → D.py d = some p → Dp K H v p
  | .non, v, p, r, h => by cases h; cases (show v = .non from r); exact .non
  | .bl b, v, p, r, h => by cases h; cases (show v = .bl b from r); exact .bl b
  | .int i, v, p, r, h => by cases h; cases (show v = .int i from r); exact .int i
  | .str x, v, p, r, h => by cases h; cases (show v = .str x from r); exact .str x
  | .ref a, v, p, r, h => by cases h
  | .ty n, v, p, r, h => by cases h
  | .obj C ns vs, v, p, r, h => by cases h
  | .dic ks vs, v, p, r, h => by cases h
  | .dit ks vs, v, p, r, h => by cases h
  | .tup xs, v, p, r, h => by
    obtain ⟨a, vs, rfl, h1, r1⟩ := r
    simp only [D.py, Option.map_eq_some_iff] at h
    obtain ⟨ps, h2, rfl⟩ := h
    exact .tup (e.t h1) (pys_dp e xs vs ps r1 h2)
  | .lst xs, v, p, r, h => by
    obtain ⟨a, vs, rfl, h1, r1⟩ := r
    simp only [D.py, Option.map_eq_some_iff] at h
    obtain ⟨ps, h2, rfl⟩ := h
    exact .lst (e.l h1) (pys_dp e xs vs ps r1 h2)
theorem pys_dp {K : PySem.W.Frag} {S H : Hp} (e : Sub S H) : ∀ (d : List D) (v : List V) (p : List PyData), Reps K S d v → D.pys d = some p → DpAll K H v p
  | [], v, p, r, h => by cases h; cases (show v = [] from r); exact .nil
  | x :: xs, v, p, r, h => by
    obtain ⟨u, us, rfl, r1, r2⟩ := r
    unfold D.pys at h
    split at h
    · cases h
      rename_i e1 e2
      exact .cons (py_dp e x u _ r1 e1) (pys_dp e xs us _ r2 e2)
    · cases h
end
/-- d is the plain data p: itself, or a list that may change -/
def isPy (G : GS) (d : D) (p : PyData) : Prop := D.py d = some p ∨ ∃ a xs ps, d = .ref a ∧ (a, Cell.lst xs) ∈ G ∧ D.pys xs = some ps ∧ p = .list ps
theorem isPy_dp {K : PySem.W.Frag} {S H : Hp} {G : GS} (c : Cn K S G H) {d : D} {v : V} {p : PyData} (r : Rep K S d v) (h : isPy G d p) : Dp K H v p := by
  rcases h with h | ⟨a, xs, ps, rfl, hm, h, rfl⟩
  · exact py_dp c.sub d v p r h
  · obtain ⟨vs, h1, r1⟩ := c.cell _ hm
    cases (show v = .ref a from r)
    exact .lst (SqL.of h1) (pys_dp c.sub xs vs ps r1 h)
/-- scalars -/
def eqSc : D → D → Option Bool
  | .int i, .int j => some (decide (i = j))
  | .str i, .str j => some (decide (i = j))
  | .bl i, .bl j => some (decide (i = j))
  | .non, .non => some true
  | .non, .int _ | .int _, .non | .non, .bl _ | .bl _, .non | .non, .str _ | .str _, .non => some false
  | .int _, .str _ | .str _, .int _ | .bl _, .str _ | .str _, .bl _ => some false
  | _, _ => none
theorem eqSc_v {K : PySem.W.Frag} {S : Hp} {x y : D} {v u : V} {b : Bool} (rx : Rep K S x v) (ry : Rep K S y u) (h : eqSc x y = some b) : scal v u = true ∧ decide (v = u) = b := by
  cases x <;> cases y <;> first | (cases h; done) | skip
  all_goals (first | (cases (show v = _ from rx); cases (show u = _ from ry); cases h; exact ⟨rfl, by simp⟩) | (cases h; done))
def dEq : DOp := fun x y G Q => match eqSc x y with
  | some b => Q (.bl b) G
  | none => ∃ p q, isPy G x p ∧ isPy G y q ∧ SeqAt.shaped p = true ∧ SeqAt.shaped q = true ∧ Q (.bl (PyData.eqv p q)) G
def dNe : DOp := fun x y G Q => match eqSc x y with
  | some b => Q (.bl (!b)) G
  | none => ∃ p q, isPy G x p ∧ isPy G y q ∧ SeqAt.shaped p = true ∧ SeqAt.shaped q = true ∧ Q (.bl (!PyData.eqv p q)) G
theorem opd_eq (hu : X.A.units + 64 < cLine) : OpD X (compareOp .Eq) dEq :=
  OpD.mk (op_eq.or (op_eqD hu)) fun S G H x y v u Q P hc rx ry ho hq => by
    unfold dEq at ho
    split at ho
    · rename_i b hb
      obtain ⟨h1, h2⟩ := eqSc_v rx ry hb
      exact .inl ⟨h1, by rw [h2]; exact hq _ _ _ (.bl b) _ hc.aft rfl ho⟩
    · obtain ⟨p, q, h1, h2, h3, h4, k⟩ := ho
      exact .inr ⟨p, q, isPy_dp hc rx h1, isPy_dp hc ry h2, h3, h4, hq _ _ _ (.bl _) _ hc.aft rfl k⟩
theorem opd_ne (hu : X.A.units + 64 < cLine) : OpD X (compareOp .NotEq) dNe :=
  OpD.mk (op_ne.or (op_neD hu)) fun S G H x y v u Q P hc rx ry ho hq => by
    unfold dNe at ho
    split at ho
    · rename_i b hb
      obtain ⟨h1, h2⟩ := eqSc_v rx ry hb
      exact .inl ⟨h1, by rw [h2]; exact hq _ _ _ (.bl (!b)) _ hc.aft rfl ho⟩
    · obtain ⟨p, q, h1, h2, h3, h4, k⟩ := ho
      exact .inr ⟨p, q, isPy_dp hc rx h1, isPy_dp hc ry h2, h3, h4, hq _ _ _ (.bl _) _ hc.aft rfl k⟩
def D.isNon : D → Bool | .non => true | _ => false
theorem non_dec {K : PySem.W.Frag} {S : Hp} {x : D} {v : V} (r : Rep K S x v) : decide (v = .non) = x.isNon := by
  cases x with
  | non => cases (show v = .non from r); rfl
  | bl b => cases (show v = .bl b from r); rfl
  | int i => cases (show v = .int i from r); rfl
  | str z => cases (show v = .str z from r); rfl
  | ref a => cases (show v = .ref a from r); rfl
  | ty n => cases (show v = .ty n from r); rfl
  | tup xs => obtain ⟨a, vs, rfl, _⟩ := r; rfl
  | lst xs => obtain ⟨a, vs, rfl, _⟩ := r; rfl
  | obj C ns xs => obtain ⟨a, dx, fs, rfl, _⟩ := r; rfl
  | dic ks xs => obtain ⟨a, ws, rfl, _⟩ := r; rfl
  | dit ks xs => obtain ⟨a, ws, rfl, _⟩ := r; rfl
def dIs : DOp := fun x y G Q => match y with | .non => Q (.bl x.isNon) G | .bl b => (match x with | .bl a => Q (.bl (decide (a = b))) G | _ => False) | _ => False
def dIsNot : DOp := fun x y G Q => match y with | .non => Q (.bl (!x.isNon)) G | .bl b => (match x with | .bl a => Q (.bl (!decide (a = b))) G | _ => False) | _ => False
theorem opd_is : OpD X (compareOp .Is) dIs :=
  OpD.mk (op_isN.or op_isBl) fun S G H x y v u Q P hc rx ry ho hq => by
    cases y <;> first | exact (show False from ho).elim | skip
    · refine .inl ⟨ry, ?_⟩
      rw [non_dec rx]
      exact hq _ _ _ (.bl _) _ hc.aft rfl ho
    · cases x <;> first | exact (show False from ho).elim | skip
      exact .inr ⟨_, _, rx, ry, hq _ _ _ (.bl _) _ hc.aft rfl ho⟩
theorem opd_isNot : OpD X (compareOp .IsNot) dIsNot :=
  OpD.mk (op_notN.or op_notBl) fun S G H x y v u Q P hc rx ry ho hq => by
    cases y <;> first | exact (show False from ho).elim | skip
    · refine .inl ⟨ry, ?_⟩
      rw [non_dec rx]
      exact hq _ _ _ (.bl _) _ hc.aft rfl ho
    · cases x <;> first | exact (show False from ho).elim | skip
      exact .inr ⟨_, _, rx, ry, hq _ _ _ (.bl _) _ hc.aft rfl ho⟩
/-- a sign in a text; plain data in a list or tuple -/
def dIn : DOp := fun x y G Q => (∃ c z, x = .str ⟨#[c]⟩ ∧ y = .str z ∧ Q (.bl (decide (c ∈ z.cps.toList))) G) ∨
  ∃ p q, isPy G x p ∧ isPy G y (.list q) ∧ SeqAt.shaped p = true ∧ SeqAt.shaped (.list q) = true ∧ Q (.bl (q.any fun z => PyData.eqv z p)) G
def dNotIn : DOp := fun x y G Q => (∃ c z, x = .str ⟨#[c]⟩ ∧ y = .str z ∧ Q (.bl (!decide (c ∈ z.cps.toList))) G) ∨
  ∃ p q, isPy G x p ∧ isPy G y (.list q) ∧ SeqAt.shaped p = true ∧ SeqAt.shaped (.list q) = true ∧ Q (.bl (!q.any fun z => PyData.eqv z p)) G
theorem opd_in (hu : X.A.units + 65 < cLine) : OpD X (compareOp .In) dIn :=
  OpD.mk (op_in_sign.or (op_inD hu)) fun S G H x y v u Q P hc rx ry ho hq => by
    rcases ho with ⟨c, z, rfl, rfl, q⟩ | ⟨p, q, h1, h2, h3, h4, k⟩
    · exact .inl ⟨c, z, rx, ry, hq _ _ _ (.bl _) _ hc.aft rfl q⟩
    · exact .inr ⟨p, q, isPy_dp hc rx h1, isPy_dp hc ry h2, h3, h4, hq _ _ _ (.bl _) _ hc.aft rfl k⟩
theorem opd_notIn (hu : X.A.units + 65 < cLine) : OpD X (compareOp .NotIn) dNotIn :=
  OpD.mk (op_notIn_sign.or (op_notInD hu)) fun S G H x y v u Q P hc rx ry ho hq => by
    rcases ho with ⟨c, z, rfl, rfl, q⟩ | ⟨p, q, h1, h2, h3, h4, k⟩
    · exact .inl ⟨c, z, rx, ry, hq _ _ _ (.bl _) _ hc.aft rfl q⟩
    · exact .inr ⟨p, q, isPy_dp hc rx h1, isPy_dp hc ry h2, h3, h4, hq _ _ _ (.bl _) _ hc.aft rfl k⟩

/-! ### chains of comparisons -/
def dChain (o o' : DOp) (ta tb tc : DTE) : DTE := fun σ G Q R => ta σ G (fun x G1 => tb σ G1 (fun y G2 => o x y G2 fun z G3 => match z with | .bl true => tc σ G3 (fun w G4 => o' y w G4 Q) R | .bl false => Q (.bl false) G3 | _ => False) R) R
variable {a b c e : Expr} {ta tb tc te : DTE} {pos : Pos}
theorem chain_imp {r r' : R2} {o o' : DOp} (i : OpI X.K r o) (i' : OpI X.K r' o') {σV : L2.St} {H : Hp} {P : VK} (h : liftE X.K W (dChain o o' ta tb tc) σV H P) : tChain r r' (liftE X.K W ta) (liftE X.K W tb) (liftE X.K W tc) σV H P := by
  obtain ⟨S, σ, G, Q, R, hc, he, ht, hx, hq⟩ := h
  refine ⟨S, σ, G, _, R, hc, he, ht, hx, fun v H1 S1 d G1 a1 r1 q1 => ?_⟩
  refine ⟨S1, σ, G1, _, R, a1.cn, he.up a1.sub, q1, hx.aft a1, fun u H2 S2 e G2 a2 r2 q2 => ?_⟩
  refine i S2 G2 H2 d e v u _ _ a2.cn (r1.up a2.sub) r2 q2 fun w H3 S3 f G3 a3 r3 q3 => ?_
  have a123 := (a1.trans a2).trans a3
  cases f with
  | bl k =>
    refine ⟨k, r3, ?_⟩
    cases k with
    | true =>
      exact ⟨S3, σ, G3, _, R, a3.cn, he.up a123.sub, q3, hx.aft a123, fun u4 H4 S4 e4 G4 a4 r4 q4 => i' S4 G4 H4 e e4 u u4 Q _ a4.cn ((r2.up a3.sub).up a4.sub) r4 q4 fun w5 H5 S5 f5 G5 a5 r5 q5 => hq w5 H5 S5 f5 G5 ((a123.trans a4).trans a5) r5 q5⟩
    | false => exact hq _ H3 S3 (.bl false) G3 a123 rfl q3
  | _ => exact (show False from q3).elim
theorem de_chain {op op' : CmpOp} {o o' : DOp} (ho : OpD X (compareOp op) o) (ho' : OpD X (compareOp op') o') (ha : DE X W a ta) (hb : DE X W b tb) (hc : DE X W c tc) (hm : lastMarks [op, op'] [b, c] = false := by with_unfolding_all rfl) :
    DE X W (.Compare a [op, op'] [b, c] pos) (dChain o o' ta tb tc) := by
  obtain ⟨r, hr, i⟩ := ho
  obtain ⟨r', hr', i'⟩ := ho'
  exact pe_imp (pe_chain hr hr' ha hb hc hm) fun σV H P h => chain_imp i i' h
theorem dt_chain {op op' : CmpOp} {o o' : DOp} (ho : OpD X (compareOp op) o) (ho' : OpD X (compareOp op') o') (ha : DE X W a ta) (hb : DE X W b tb) (hc : DE X W c tc) (hm : lastMarks [op, op'] [b, c] = false := by with_unfolding_all rfl) :
    DT X W (.Compare a [op, op'] [b, c] pos) (dTest (dChain o o' ta tb tc)) := by
  obtain ⟨r, hr, i⟩ := ho
  obtain ⟨r', hr', i'⟩ := ho'
  exact pt_imp (pt_chain hr hr' ha hb hc hm) fun σV H P h => chain_imp i i' (lift_test h)
end
end DL
set_option Elab.async false
set_option linter.all false
set_option maxRecDepth 100000
set_option maxHeartbeats 4000000
namespace DL
open PySem PyProof.Rows L2
section
variable {X : Cx} {W : WX} {a b c e o : Expr} {es : List Expr} {ta tb tc te to : DTE} {t : DTA} {pos p2 : Pos}
theorem pe_or {e : Expr} {t t' : TE} (h : PE X e t) (h' : PE X e t') : PE X e (fun σ H Q => t σ H Q ∨ t' σ H Q) := ⟨fun pins s σ H Q I q => q.elim (h.run pins s σ H Q I) (h'.run pins s σ H Q I)⟩
theorem lift_or {K : PySem.W.Frag} {t t' : DTE} {σV : L2.St} {H : Hp} {P : VK} (h : liftE K W (fun σ G Q R => t σ G Q R ∨ t' σ G Q R) σV H P) : liftE K W t σV H P ∨ liftE K W t' σV H P := by
  obtain ⟨S, σ, G, Q, R, hc, he, ht, hx, hq⟩ := h
  rcases ht with ht | ht
  · exact .inl ⟨S, σ, G, Q, R, hc, he, ht, hx, hq⟩
  · exact .inr ⟨S, σ, G, Q, R, hc, he, ht, hx, hq⟩
theorem de_or {t t' : DTE} (h : DE X W e t) (h' : DE X W e t') : DE X W e (fun σ G Q R => t σ G Q R ∨ t' σ G Q R) := pe_imp (pe_or h h') fun σV H P q => lift_or q

/-! ### a[b] -/
def dIx : DOp := fun x y G Q => match x, y with
  | .lst xs, .int i => ∃ v, atI xs i = some v ∧ Q v G
  | .tup xs, .int i => ∃ v, atI xs i = some v ∧ Q v G
  | .str z, .int i => z.length ≤ sizeLine ∧ ∃ c, atI z.cps.toList i = some c ∧ Q (.str ⟨#[c]⟩) G
  | .ref p, .int i => ∃ xs v, (p, Cell.lst xs) ∈ G ∧ atI xs i = some v ∧ Q v G
  | _, _ => False
theorem Reps.atI {K : PySem.W.Frag} {S : Hp} {xs : List D} {vs : List V} (r : Reps K S xs vs) {i : Int} {d : D} (h : L2.atI xs i = some d) : ∃ v, L2.atI vs i = some v ∧ Rep K S d v := by
  unfold L2.atI at h ⊢
  rw [r.length]
  cases e : ixN xs.length i with
  | none => rw [e] at h; cases h
  | some j =>
    rw [e] at h
    exact r.get' h
theorem de_ix (ha : DE X W a ta) (hb : DE X W b tb) (hs : PlainIx b := by exact fun _ _ => rfl) : DE X W (.Subscript a b pos) (dOp dIx ta tb) :=
  pe_imp (pe_ix ix_seq ha hb hs) fun σV H P h => two_ops (fun S G H x y v u Q P hc rx ry ho hq => by
    cases x <;> cases y <;> first | exact (show False from ho).elim | skip
    · obtain ⟨h1, c, h2, q⟩ := ho
      exact .inr (.inr ⟨_, _, _, rx, ry, h1, h2, hq _ _ _ (.str _) _ hc.aft rfl q⟩)
    · obtain ⟨xs, d, h1, h2, q⟩ := ho
      obtain ⟨vs, h3, r3⟩ := hc.cell _ h1
      obtain ⟨w, h4, r4⟩ := r3.atI h2
      exact .inl ⟨_, vs, _, w, rx, ry, SqL.of h3, h4, hq _ _ _ d _ hc.aft r4 q⟩
    · obtain ⟨d, h2, q⟩ := ho
      obtain ⟨p, vs, rfl, h3, r3⟩ := rx
      obtain ⟨w, h4, r4⟩ := r3.atI h2
      exact .inr (.inl ⟨_, vs, _, w, rfl, ry, hc.sub.t h3, h4, hq _ _ _ d _ hc.aft r4 q⟩)
    · obtain ⟨d, h2, q⟩ := ho
      obtain ⟨p, vs, rfl, h3, r3⟩ := rx
      obtain ⟨w, h4, r4⟩ := r3.atI h2
      exact .inl ⟨_, vs, _, w, rfl, ry, hc.sub.l h3, h4, hq _ _ _ d _ hc.aft r4 q⟩) h

/-! ### a[b:c] -/
abbrev DTO := Ev → GS → (Option Int → GS → Prop) → DXK → Prop
def liftO (K : PySem.W.Frag) (W : WX) (t : DTO) : TO := fun σV H P => ∃ S σ G Q R, Cn K S G H ∧ EnvR K S σ σV ∧ t σ G Q R ∧ XOk K W S G H R ∧ ∀ o H' S' G', Aft K S G H S' G' H' → Q o G' → P o H'
abbrev DO (X : Cx) (W : WX) (e : Option Expr) (t : DTO) : Prop := PO X e (liftO X.K W t)
theorem po_imp {e : Option Expr} {t t' : TO} (h : PO X e t) (i : ∀ σ H Q, t' σ H Q → t σ H Q) : PO X e t' := ⟨fun pins s σ H Q I q => h.run pins s σ H Q I (i _ _ _ q)⟩
def dNoP : DTO := fun _ G Q _ => Q none G
def dPart (t : DTE) : DTO := fun σ G Q R => t σ G (fun d G1 => match d with | .int i => Q (some i) G1 | _ => False) R
theorem do_none : DO X W none dNoP := po_imp po_none fun σV H P ⟨S, σ, G, Q, R, hc, he, ht, hx, hq⟩ => hq none H S G hc.aft ht
theorem do_some (h : DE X W e te) : DO X W (some e) (dPart te) := po_imp (po_some h) fun σV H P ⟨S, σ, G, Q, R, hc, he, ht, hx, hq⟩ => by
  refine ⟨S, σ, G, _, R, hc, he, ht, hx, fun v H1 S1 d G1 a1 r1 q1 => ?_⟩
  cases d <;> first | exact (show False from q1).elim | skip
  exact ⟨_, r1, hq _ H1 S1 G1 a1 q1⟩
def cutD (xs : List D) (lo hi : Option Int) : List D := (xs.drop (HT.sIx xs.length 0 lo)).take (HT.sIx xs.length xs.length hi - HT.sIx xs.length 0 lo)
theorem Reps.cut {K : PySem.W.Frag} {S : Hp} {xs : List D} {vs : List V} (r : Reps K S xs vs) (lo hi : Option Int) : Reps K S (cutD xs lo hi) (cutV vs lo hi) := by
  unfold cutD cutV
  rw [r.length]
  exact (r.drop _).take _
/-- what a slice is -/
def slD (x : D) (lo hi : Option Int) (G : GS) (Q : DK) : Prop := match x with
  | .lst xs => Q (.lst (cutD xs lo hi)) G
  | .tup xs => Q (.tup (cutD xs lo hi)) G
  | .str z => z.length ≤ sizeLine ∧ Q (.str (cutS z lo hi)) G
  | .ref p => ∃ xs, (p, Cell.lst xs) ∈ G ∧ Q (.lst (cutD xs lo hi)) G
  | _ => False
def dSl (te : DTE) (tl th : DTO) : DTE := fun σ G Q R => te σ G (fun x G1 => tl σ G1 (fun l G2 => th σ G2 (fun u G3 => slD x l u G3 Q) R) R) R
variable {lo hi : Option Expr} {tl th : DTO}
theorem cut_whole {K : PySem.W.Frag} {S : Hp} {xs : List D} {vs : List V} {lo hi : Option Int} (r : Reps K S xs vs) (h : HT.sIx vs.length 0 lo = 0 ∧ HT.sIx vs.length vs.length hi = vs.length) : cutD xs lo hi = xs := by
  rw [r.length] at h
  unfold cutD
  rw [h.1, h.2]
  simp
theorem de_slice (he : DE X W e te) (hl : DO X W lo tl) (hh : DO X W hi th) : DE X W (.Subscript e (.Slice lo hi none p2) pos) (dSl te tl th) :=
  pe_imp (pe_slice (sl_list.or (sl_tupA.or sl_str)) he hl hh) fun σV H P ⟨S, σ, G, Q, R, hc, hee, ht, hx, hq⟩ => by
    refine ⟨S, σ, G, _, R, hc, hee, ht, hx, fun v H1 S1 d G1 a1 r1 q1 => ?_⟩
    refine ⟨S1, σ, G1, _, R, a1.cn, hee.up a1.sub, q1, hx.aft a1, fun l H2 S2 G2 a2 q2 => ?_⟩
    have a12 := a1.trans a2
    refine ⟨S2, σ, G2, _, R, a2.cn, hee.up a12.sub, q2, hx.aft a12, fun u H3 S3 G3 a3 q3 => ?_⟩
    have a123 := a12.trans a3
    have r3 := (r1.up a2.sub).up a3.sub
    unfold slD at q3
    cases d <;> first | exact (show False from q3).elim | skip
    · exact .inr (.inr ⟨_, r3, q3.1, hq _ _ _ (.str _) _ a123 rfl q3.2⟩)
    · obtain ⟨xs, h1, q⟩ := q3
      obtain ⟨vs, h2, r4⟩ := a3.cn.cell _ h1
      cases (show v = .ref _ from r3)
      refine .inl ⟨_, vs, rfl, SqL.of h2, fun z hz => ?_⟩
      have a4 := a3.cn.still (o := .lst (cutV vs l u)) hz
      exact hq _ _ _ (.lst _) _ (a123.trans a4) ⟨z, _, rfl, SqL.of upd_same, (r4.up a4.sub).cut l u⟩ q
    · rename_i xs
      obtain ⟨p, vs, rfl, h2, r4⟩ := r3
      refine .inr (.inl ⟨p, vs, rfl, a3.cn.sub.t h2, fun hw => ?_, fun _ z hz => ?_⟩)
      · have q3 : Q (.tup (cutD xs l u)) G3 := q3
        rw [cut_whole r4 hw] at q3
        exact hq _ _ _ (.tup xs) _ a123 ⟨p, vs, rfl, h2, r4⟩ q3
      · have a4 := a3.cn.still (o := .tup (cutV vs l u)) hz
        exact hq _ _ _ (.tup _) _ (a123.trans a4) ⟨z, _, rfl, SqT.of upd_same, (r4.up a4.sub).cut l u⟩ q3
    · obtain ⟨p, vs, rfl, h2, r4⟩ := r3
      refine .inl ⟨_, vs, rfl, a3.cn.sub.l h2, fun z hz => ?_⟩
      have a4 := a3.cn.still (o := .lst (cutV vs l u)) hz
      exact hq _ _ _ (.lst _) _ (a123.trans a4) ⟨z, _, rfl, SqL.of upd_same, (r4.up a4.sub).cut l u⟩ q3
/-- a[::-1], a list -/
def dRevL (te : DTE) : DTE := fun σ G Q R => te σ G (fun d G1 => match d with | .lst xs => Q (.lst xs.reverse) G1 | .ref p => ∃ xs, (p, Cell.lst xs) ∈ G1 ∧ Q (.lst xs.reverse) G1 | _ => False) R
theorem de_revL {k : Nat} {p1 p2 p3 : Pos} (he : DE X W e te) : DE X W (.Subscript e (.Slice none none (some (.UnaryOp .USub (.Constant (.int 1) k p1) p2)) p3) pos) (dRevL te) :=
  pe_imp (pe_revL he) fun σV H P ⟨S, σ, G, Q, R, hc, hee, ht, hx, hq⟩ => by
    refine ⟨S, σ, G, _, R, hc, hee, ht, hx, fun v H1 S1 d G1 a1 r1 q1 => ?_⟩
    cases d <;> first | exact (show False from q1).elim | skip
    · obtain ⟨xs, h1, q⟩ := q1
      obtain ⟨vs, h2, r4⟩ := a1.cn.cell _ h1
      refine ⟨_, vs, r1, SqL.of h2, fun z hz => ?_⟩
      have a4 := a1.cn.still (o := .lst vs.reverse) hz
      exact hq _ _ _ (.lst _) _ (a1.trans a4) ⟨z, _, rfl, SqL.of upd_same, (r4.up a4.sub).rev⟩ q
    · obtain ⟨p, vs, rfl, h2, r4⟩ := r1
      refine ⟨_, vs, rfl, a1.cn.sub.l h2, fun z hz => ?_⟩
      have a4 := a1.cn.still (o := .lst vs.reverse) hz
      exact hq _ _ _ (.lst _) _ (a1.trans a4) ⟨z, _, rfl, SqL.of upd_same, (r4.up a4.sub).rev⟩ q1

/-! ### built-ins by name -/
abbrev DCo := List D → GS → DK → Prop
def CalI (K : PySem.W.Frag) (r : List V → Hp → VK → Prop) (o : DCo) : Prop := ∀ S G H xs vs Q (P : VK), Cn K S G H → Reps K S xs vs → o xs G Q → (∀ w H' S' d G', Aft K S G H S' G' H' → Rep K S' d w → Q d G' → P w H') → r vs H P
def CalD (Y : Cx) (f : Value) (o : DCo) : Prop := ∃ r, CallR Y f r ∧ CalI Y.K r o
theorem CalD.mk {f : Value} {r : List V → Hp → VK → Prop} {o : DCo} (h : CallR X f r) (i : CalI X.K r o) : CalD X f o := ⟨r, h, i⟩
theorem CalD.or {f : Value} {o o' : DCo} (h : CalD X f o) (h' : CalD X f o') : CalD X f (fun x G Q => o x G Q ∨ o' x G Q) := by
  obtain ⟨r, hr, i⟩ := h
  obtain ⟨r', hr', i'⟩ := h'
  refine ⟨_, hr.or hr', fun S G H xs vs Q P hc rx ho hq => ?_⟩
  rcases ho with ho | ho
  · exact .inl (i S G H xs vs Q P hc rx ho hq)
  · exact .inr (i' S G H xs vs Q P hc rx ho hq)
theorem CalD.imp {f : Value} {o o' : DCo} (h : CalD X f o) (k : ∀ x G Q, o' x G Q → o x G Q) : CalD X f o' := by
  obtain ⟨r, hr, i⟩ := h
  exact ⟨r, hr, fun S G H xs vs Q P hc rx ho hq => i S G H xs vs Q P hc rx (k _ _ _ ho) hq⟩
def dCB (o : DCo) (t : DTA) : DTE := fun σ G Q R => t σ G (fun ds G1 => o ds G1 Q) R
theorem cb_imp {r : List V → Hp → VK → Prop} {co : DCo} (i : CalI X.K r co) {σV : L2.St} {H : Hp} {P : VK} (h : liftE X.K W (dCB co t) σV H P) : tCB r (liftA X.K W t) σV H P := by
  obtain ⟨S, σ, G, Q, R, hc, hee, ht, hx, hq⟩ := h
  refine ⟨S, σ, G, _, R, hc, hee, ht, hx, fun vs H1 S1 ds G1 a1 r1 q1 => ?_⟩
  exact i S1 G1 H1 ds vs Q _ a1.cn r1 q1 fun w H2 S2 d G2 a2 r2 q2 => hq w H2 S2 d G2 (a1.trans a2) r2 q2
variable {x : Str} {p : Pos} {bid T : String} {co : DCo}
theorem de_callB (hc : CalD X (.builtin bid) co) (hg : Gl X x) (hm : X.mg x = none) (hv : bootBuiltins x = some (.builtin bid)) (ha : DA X W (e :: es) t) (hn : x ≠ "__name__" := by decide) (hdb : (x == ("__debug__" : Str)) = false := by decide)
    (he : starEach (e :: es) X.env = (false, eval e X.env) :: starEach es X.env := by rfl) (hpl : (backTo pos (starEach es X.env)).any (·.1) = false := by rfl) : DE X W (.Call (.Name x p) (e :: es) [] pos) (dCB co t) := by
  obtain ⟨r, hr, i⟩ := hc
  exact pe_imp (pe_callB hr hg hm hv ha hn hdb he hpl) fun σV H P h => cb_imp i h
theorem de_callTy (hc : CalD X (.type T) co) (hg : Gl X x) (hm : X.mg x = none) (hv : bootBuiltins x = some (.type T)) (ha : DA X W (e :: es) t) (hn : x ≠ "__name__" := by decide) (hdb : (x == ("__debug__" : Str)) = false := by decide)
    (he : starEach (e :: es) X.env = (false, eval e X.env) :: starEach es X.env := by rfl) (hpl : (backTo pos (starEach es X.env)).any (·.1) = false := by rfl) : DE X W (.Call (.Name x p) (e :: es) [] pos) (dCB co t) := by
  obtain ⟨r, hr, i⟩ := hc
  exact pe_imp (pe_callTy hr hg hm hv ha hn hdb he hpl) fun σV H P h => cb_imp i h
/-- len -/
def dLen : DCo := fun ds G Q => match ds with
  | [.lst xs] => Q (.int xs.length) G
  | [.tup xs] => Q (.int xs.length) G
  | [.str z] => z.length ≤ sizeLine ∧ Q (.int z.length) G
  | [.ref p] => ∃ xs, (p, Cell.lst xs) ∈ G ∧ Q (.int xs.length) G
  | _ => False
theorem cd_len : CalD X (.builtin "len") dLen :=
  CalD.mk (call_len_seq.or call_len_str) fun S G H xs vs Q P hc r ho hq => by
    unfold dLen at ho
    split at ho
    · obtain ⟨v, r', rfl, r1, rfl⟩ := r
      obtain ⟨p, us, rfl, h1, r2⟩ := r1
      refine .inl ⟨p, us, rfl, .inl (hc.sub.l h1), ?_⟩
      rw [r2.length]
      exact hq _ _ _ (.int _) _ hc.aft rfl ho
    · obtain ⟨v, r', rfl, r1, rfl⟩ := r
      obtain ⟨p, us, rfl, h1, r2⟩ := r1
      refine .inl ⟨p, us, rfl, .inr (hc.sub.t h1), ?_⟩
      rw [r2.length]
      exact hq _ _ _ (.int _) _ hc.aft rfl ho
    · obtain ⟨v, r', rfl, r1, rfl⟩ := r
      cases r1
      exact .inr ⟨_, rfl, ho.1, hq _ _ _ (.int _) _ hc.aft rfl ho.2⟩
    · obtain ⟨v, r', rfl, r1, rfl⟩ := r
      cases r1
      obtain ⟨xs, h1, q⟩ := ho
      obtain ⟨us, h2, r2⟩ := hc.cell _ h1
      refine .inl ⟨_, us, rfl, .inl (SqL.of h2), ?_⟩
      rw [r2.length]
      exact hq _ _ _ (.int _) _ hc.aft rfl q
    · exact ho.elim
/-- int(..): of a number, a truth -/
def dInt : DCo := fun ds G Q => match ds with
  | [.int i] => Q (.int i) G
  | [.bl k] => Q (.int (if k then 1 else 0)) G
  | [.str z] => ∃ n, PySem.intText? z = some n ∧ z.length ≤ 640 ∧ Q (.int n) G
  | _ => False
theorem cd_int : CalD X (.type "int") dInt :=
  CalD.mk (call_int1.or call_int_str) fun S G H xs vs Q P hc r ho hq => by
    unfold dInt at ho
    split at ho
    · obtain ⟨v, r', rfl, r1, rfl⟩ := r
      cases r1
      exact .inl (.inl ⟨_, rfl, hq _ _ _ (.int _) _ hc.aft rfl ho⟩)
    · obtain ⟨v, r', rfl, r1, rfl⟩ := r
      cases r1
      exact .inl (.inr ⟨_, rfl, hq _ _ _ (.int _) _ hc.aft rfl ho⟩)
    · obtain ⟨v, r', rfl, r1, rfl⟩ := r
      cases r1
      obtain ⟨n, h1, h2, q⟩ := ho
      exact .inr ⟨_, n, rfl, h1, h2, hq _ _ _ (.int _) _ hc.aft rfl q⟩
    · exact ho.elim
def dStr : DCo := fun ds G Q => match ds with
  | [.int i] => i.natAbs.log2 < 1920 ∧ Q (.str (toString i)) G
  | [.str z] => Q (.str z) G
  | _ => False
def dAbs : DCo := fun ds G Q => match ds with | [.int i] => Q (.int (if i < 0 then -i else i)) G | _ => False
theorem cd_abs : CalD X (.builtin "abs") dAbs :=
  CalD.mk call_abs fun S G H xs vs Q P hc r ho hq => by
    unfold dAbs at ho
    split at ho
    · obtain ⟨v, r', rfl, r1, rfl⟩ := r
      cases r1
      exact ⟨_, rfl, hq _ _ _ (.int _) _ hc.aft rfl ho⟩
    · exact ho.elim
def dMax2 : DCo := fun ds G Q => match ds with | [.int i, .int j] => Q (.int (if j > i then j else i)) G | _ => False
def dMin2 : DCo := fun ds G Q => match ds with | [.int i, .int j] => Q (.int (if j < i then j else i)) G | _ => False
theorem cd_max2 (hcm : X.calm = true) : CalD X (.builtin "max") dMax2 :=
  CalD.mk (call_max2 hcm) fun S G H xs vs Q P hc r ho hq => by
    unfold dMax2 at ho
    split at ho
    · obtain ⟨v, r', rfl, r1, v2, r2', rfl, r2, rfl⟩ := r
      cases r1
      cases r2
      exact ⟨_, _, rfl, hq _ _ _ (.int _) _ hc.aft rfl ho⟩
    · exact ho.elim
theorem cd_min2 (hcm : X.calm = true) : CalD X (.builtin "min") dMin2 :=
  CalD.mk (call_min2 hcm) fun S G H xs vs Q P hc r ho hq => by
    unfold dMin2 at ho
    split at ho
    · obtain ⟨v, r', rfl, r1, v2, r2', rfl, r2, rfl⟩ := r
      cases r1
      cases r2
      exact ⟨_, _, rfl, hq _ _ _ (.int _) _ hc.aft rfl ho⟩
    · exact ho.elim
/-- all, any of a list of truths -/
def dAll : DCo := fun ds G Q => ∃ bs : List Bool, ds = [.lst (bs.map D.bl)] ∧ Q (.bl (bs.all id)) G
def dAny : DCo := fun ds G Q => ∃ bs : List Bool, ds = [.lst (bs.map D.bl)] ∧ Q (.bl (bs.any id)) G
theorem cd_all (hcm : X.calm = true) : CalD X (.builtin "all") dAll :=
  CalD.mk (cr_all hcm) fun S G H xs vs Q P hc r ho hq => by
    obtain ⟨bs, rfl, q⟩ := ho
    obtain ⟨v, r', rfl, r1, rfl⟩ := r
    obtain ⟨p, us, rfl, h1, r2⟩ := r1
    cases Reps.bls.mp r2
    exact ⟨p, bs, rfl, hc.sub.l h1, hq _ _ _ (.bl _) _ hc.aft rfl q⟩
theorem cd_any (hcm : X.calm = true) : CalD X (.builtin "any") dAny :=
  CalD.mk (cr_any hcm) fun S G H xs vs Q P hc r ho hq => by
    obtain ⟨bs, rfl, q⟩ := ho
    obtain ⟨v, r', rfl, r1, rfl⟩ := r
    obtain ⟨p, us, rfl, h1, r2⟩ := r1
    cases Reps.bls.mp r2
    exact ⟨p, bs, rfl, hc.sub.l h1, hq _ _ _ (.bl _) _ hc.aft rfl q⟩
/-- list(..), tuple(..) of a list or tuple -/
def seqD (G : GS) (ds : List D) (Z : List D → Prop) : Prop := match ds with
  | [.lst xs] => Z xs
  | [.tup xs] => Z xs
  | [.ref q] => ∃ xs, (q, Cell.lst xs) ∈ G ∧ Z xs
  | _ => False
def dList : DCo := fun ds G Q => seqD G ds fun xs => Q (.lst xs) G
def dListM : DCo := fun ds G Q => seqD G ds fun xs => ∀ p, p ∉ keysG G → Q (.ref p) (G ++ [(p, .lst xs)])
theorem seq_of {K : PySem.W.Frag} {S : Hp} {G : GS} {H : Hp} {ds : List D} {vs : List V} {Z : List D → Prop} (hc : Cn K S G H) (r : Reps K S ds vs) (h : seqD G ds Z) :
    ∃ p us xs, vs = [.ref p] ∧ (SqL K H p us ∨ SqT K H p us) ∧ Reps K S xs us ∧ Z xs := by
  unfold seqD at h
  split at h
  · obtain ⟨v, r', rfl, r1, rfl⟩ := r
    obtain ⟨p, us, rfl, h1, r2⟩ := r1
    exact ⟨p, us, _, rfl, .inl (hc.sub.l h1), r2, h⟩
  · obtain ⟨v, r', rfl, r1, rfl⟩ := r
    obtain ⟨p, us, rfl, h1, r2⟩ := r1
    exact ⟨p, us, _, rfl, .inr (hc.sub.t h1), r2, h⟩
  · obtain ⟨v, r', rfl, r1, rfl⟩ := r
    cases r1
    obtain ⟨xs, h1, q⟩ := h
    obtain ⟨us, h2, r2⟩ := hc.cell _ h1
    exact ⟨_, us, _, rfl, .inl (SqL.of h2), r2, q⟩
  · exact h.elim
theorem cd_list : CalD X (.type "list") dList :=
  CalD.mk call_list_of fun S G H xs vs Q P hc r ho hq => by
    obtain ⟨p, us, xs, rfl, h1, r2, q⟩ := seq_of hc r ho
    refine ⟨p, us, rfl, h1, fun z hz => ?_⟩
    have a4 := hc.still (o := .lst us) hz
    exact hq _ _ _ (.lst xs) _ a4 ⟨z, _, rfl, SqL.of upd_same, r2.up a4.sub⟩ q
theorem cd_listM : CalD X (.type "list") dListM :=
  CalD.mk call_list_of fun S G H xs vs Q P hc r ho hq => by
    obtain ⟨p, us, xs, rfl, h1, r2, q⟩ := seq_of hc r ho
    refine ⟨p, us, rfl, h1, fun z hz => ?_⟩
    have a4 := hc.newCell (o := .lst us) (k := .lst xs) hz ⟨us, upd_same, r2⟩
    exact hq _ _ _ (.ref z) _ a4 rfl (q z (hc.freshG hz))
def dTuple : DCo := fun ds G Q => match ds with
  | [.lst xs] => Q (.tup xs) G
  | [.tup xs] => Q (.tup xs) G
  | [.ref p] => ∃ xs, (p, Cell.lst xs) ∈ G ∧ Q (.tup xs) G
  | _ => False
theorem cd_tuple : CalD X (.type "tuple") dTuple :=
  CalD.mk call_tuple_of fun S G H xs vs Q P hc r ho hq => by
    unfold dTuple at ho
    split at ho
    · obtain ⟨v, r', rfl, r1, rfl⟩ := r
      obtain ⟨p, us, rfl, h1, r2⟩ := r1
      refine ⟨p, us, rfl, .inl ⟨hc.sub.l h1, fun z hz => ?_⟩⟩
      have a4 := hc.still (o := .tup us) hz
      exact hq _ _ _ (.tup _) _ a4 ⟨z, _, rfl, SqT.of upd_same, r2.up a4.sub⟩ ho
    · obtain ⟨v, r', rfl, r1, rfl⟩ := r
      obtain ⟨p, us, rfl, h1, r2⟩ := r1
      exact ⟨p, us, rfl, .inr ⟨hc.sub.t h1, hq _ _ _ (.tup _) _ hc.aft ⟨p, us, rfl, h1, r2⟩ ho⟩⟩
    · obtain ⟨v, r', rfl, r1, rfl⟩ := r
      cases r1
      obtain ⟨xs, h1, q⟩ := ho
      obtain ⟨us, h2, r2⟩ := hc.cell _ h1
      refine ⟨_, us, rfl, .inl ⟨SqL.of h2, fun z hz => ?_⟩⟩
      have a4 := hc.still (o := .tup us) hz
      exact hq _ _ _ (.tup _) _ a4 ⟨z, _, rfl, SqT.of upd_same, r2.up a4.sub⟩ q
    · exact ho.elim
end
end DL
set_option Elab.async false
set_option linter.all false
set_option maxRecDepth 100000
set_option maxHeartbeats 4000000
namespace DL
open PySem PyProof.Rows L2

/-! ### targets -/
abbrev DTG := D → Ev → GS → (Ev → GS → Prop) → DXK → Prop
def liftG (K : PySem.W.Frag) (W : WX) (g : DTG) : TG := fun v σV H P => ∃ S σ G d Q R, Cn K S G H ∧ EnvR K S σ σV ∧ Rep K S d v ∧ g d σ G Q R ∧ XOk K W S G H R ∧ ∀ σV' H' S' σ' G', Aft K S G H S' G' H' → EnvR K S' σ' σV' → Q σ' G' → P σV' H'
abbrev DTGs := List D → Ev → GS → (Ev → GS → Prop) → DXK → Prop
def liftGs (K : PySem.W.Frag) (W : WX) (g : DTGs) : TGs := fun v σV H P => ∃ S σ G d Q R, Cn K S G H ∧ EnvR K S σ σV ∧ Reps K S d v ∧ g d σ G Q R ∧ XOk K W S G H R ∧ ∀ σV' H' S' σ' G', Aft K S G H S' G' H' → EnvR K S' σ' σV' → Q σ' G' → P σV' H'
abbrev DG (X : Cx) (W : WX) (tg : Expr) (g : DTG) : Prop := PG X tg (liftG X.K W g)
abbrev DGs (X : Cx) (W : WX) (tg : List Expr) (g : DTGs) : Prop := PGs X tg (liftGs X.K W g)
section
variable {X : Cx} {W : WX} {pos : Pos} {e : Expr} {es : List Expr} {te : DTE} {g : DTG} {gs : DTGs}
theorem pg_imp {e : Expr} {t t' : TG} (h : PG X e t) (i : ∀ v σ H Q, t' v σ H Q → t v σ H Q) : PG X e t' := ⟨fun pins s σ H v u Q I r q => h.run pins s σ H v u Q I r (i _ _ _ _ q)⟩
theorem pgs_imp {e : List Expr} {t t' : TGs} (h : PGs X e t) (i : ∀ v σ H Q, t' v σ H Q → t v σ H Q) : PGs X e t' := ⟨fun pins s σ H v u Q I r q => h.run pins s σ H v u Q I r (i _ _ _ _ q)⟩
def dgName (i : Nat) : DTG := fun d σ G Q _ => Q (σ.set i (some d)) G
theorem dg_name {i : Nat} {x : Str} (hN : X.N.Nodup) (hi : X.N[i]? = some x) (hx : Loc X.env.scope x) (hf : X.fn x = true ∨ X.env.scope.names.lookup x = some .local := by first | exact .inl rfl | exact .inr rfl | assumption) : DG X W (.Name x pos) (dgName i) :=
  pg_imp (pg_name hN hi hx hf) fun v σV H P ⟨S, σ, G, d, Q, R, hc, he, r, ht, hx, hq⟩ => hq _ H S _ G hc.aft (he.set r i) ht
def dgNil : DTGs := fun ds σ G Q _ => ds = [] ∧ Q σ G
def dgCons (g : DTG) (gs : DTGs) : DTGs := fun ds σ G Q R => match ds with | [] => False | d :: r => g d σ G (fun σ1 G1 => gs r σ1 G1 Q R) R
theorem dgs_nil : DGs X W [] dgNil := pgs_imp pgs_nil fun v σV H P ⟨S, σ, G, d, Q, R, hc, he, r, ht, hx, hq⟩ => by
  obtain ⟨rfl, h⟩ := ht
  cases (show v = [] from r)
  exact ⟨rfl, hq _ H S _ G hc.aft he h⟩
theorem dgs_cons (h1 : DG X W e g) (h2 : DGs X W es gs) (hs : (assignEach (e :: es) X.env).map (·.2) = assign e X.env :: (assignEach es X.env).map (·.2) := by rfl) : DGs X W (e :: es) (dgCons g gs) :=
  pgs_imp (pgs_cons h1 h2 hs) fun v σV H P ⟨S, σ, G, d, Q, R, hc, he, r, ht, hx, hq⟩ => by
    cases d with
    | nil => exact (show False from ht).elim
    | cons d ds =>
      obtain ⟨u, us, rfl, r1, r2⟩ := r
      refine ⟨u, us, rfl, S, σ, G, d, _, R, hc, he, r1, ht, hx, fun σV1 H1 S1 σ1 G1 a1 e1 q1 => ?_⟩
      exact ⟨S1, σ1, G1, ds, Q, R, a1.cn, e1, r2.up a1.sub, q1, hx.aft a1, fun σV2 H2 S2 σ2 G2 a2 e2 q2 => hq σV2 H2 S2 σ2 G2 (a1.trans a2) e2 q2⟩
def dgTup (n : Nat) (gs : DTGs) : DTG := fun d σ G Q R => match d with | .tup ds => ds.length = n ∧ gs ds σ G Q R | _ => False
theorem dg_tup {k n : Nat} (hc : X.calm = true) (h : DGs X W es gs) (hn : (assignEach es X.env).length = n := by rfl) (hst : (assignEach es X.env).findIdx? (·.1) = none := by rfl) : DG X W (.Tuple es k pos) (dgTup n gs) :=
  pg_imp (pg_tup hc h hn hst) fun v σV H P ⟨S, σ, G, d, Q, R, hc, he, r, ht, hx, hq⟩ => by
    cases d <;> first | exact (show False from ht).elim | skip
    obtain ⟨hl, q⟩ := ht
    obtain ⟨a, vs, rfl, h1, r1⟩ := r
    exact ⟨a, vs, rfl, hc.sub.t h1, by rw [r1.length]; exact hl, S, σ, G, _, Q, R, hc, he, r1, q, hx, hq⟩
def dAsg (te : DTE) (g : DTG) : DTS := fun N R σ G => te σ G (fun d G1 => g d σ G1 N.nx R) R
theorem ds_asg {tg : Expr} (he : DE X W e te) (hg : DG X W tg g) (hs : swapsWithSole [tg] e pos.line X.env = pure false := by rfl) (hw : swappedStores [tg] e X.env = pure none := by rfl) (h1 : (assignEach [tg] X.env).map (·.2) = [assign tg X.env] := by rfl) : DS X W (.Assign [tg] e pos) (dAsg te g) :=
  ps_imp (ps_asg he hg hs hw h1) fun D σV H ⟨S, σ, G, N, R, hc, hee, ht, hx, hq⟩ => by
    refine ⟨S, σ, G, _, R, hc, hee, ht, hx, fun v H1 S1 d G1 a1 r1 q1 => ?_⟩
    exact ⟨S1, σ, G1, d, _, R, a1.cn, hee.up a1.sub, r1, q1, hx.aft a1, fun σV' H' S' σ' G' a2 e2 n => hq.nx σV' H' S' σ' G' (a1.trans a2) e2 n⟩
/-- a, b = e, f -/
def dPar (i j : Nat) (t : DTA) : DTS := fun N R σ G => t σ G (fun ds G1 => match ds with | [v, w] => N.nx ((σ.set i (some v)).set j (some w)) G1 | _ => False) R
/-- a[i] = v, a list that may change -/
def dgSub (to ti : DTE) : DTG := fun v σ G Q R => to σ G (fun o G1 => ti σ G1 (fun i G2 => ∃ p n k xs j, o = .ref p ∧ i = .int k ∧ G2[n]? = some (p, Cell.lst xs) ∧ ixN xs.length k = some j ∧ Q σ (G2.set n (p, .lst (xs.set j v)))) R) R
theorem dg_sub {o i : Expr} {to ti : DTE} (ho : DE X W o to) (hi : DE X W i ti)
    (ha : ∀ v, assign (.Subscript o i pos) X.env v = (do
      let ov ← holding [v] (eval o X.env)
      let iv ← holding [v, ov] (eval i X.env)
      standAt pos
      holding [v, ov, iv] (setItem ov iv v)
      release [v, ov, iv] []) := by intro _; rfl) : DG X W (.Subscript o i pos) (dgSub to ti) :=
  pg_imp (pg_sub ho hi set_list ha) fun v σV H P ⟨S, σ, G, d, Q, R, hc, he, r, ht, hx, hq⟩ => by
    refine ⟨S, σ, G, _, R, hc, he, ht, hx, fun ov H1 S1 od G1 a1 r1 q1 => ?_⟩
    refine ⟨S1, σ, G1, _, R, a1.cn, he.up a1.sub, q1, hx.aft a1, fun iv H2 S2 id G2 a2 r2 q2 => ?_⟩
    obtain ⟨p, n, k, xs, j, rfl, rfl, hn, hj, q⟩ := q2
    have hm : (p, Cell.lst xs) ∈ G2 := List.mem_of_getElem? hn
    obtain ⟨vs, h1, r3⟩ := a2.cn.cell _ hm
    have a12 := a1.trans a2
    have a3 := a2.cn.write (k' := .lst (xs.set j d)) (o := .lst (vs.set j v)) hn ⟨vs.set j v, upd_same, r3.set (r.up a12.sub) j⟩
    exact ⟨p, vs, k, j, r1, r2, h1, by rw [r3.length]; exact hj, hq σV _ _ σ _ (a12.trans a3) (he.up (a12.trans a3).sub) q⟩
end

/-! ### what is walked -/
abbrev DTI := Ev → GS → (List D → (GS → Prop) → GS → Prop) → DXK → Prop
/-- the walk gives these, while the source is as ok says -/
def JOk (K : PySem.W.Frag) (J : It) (xs : List D) (ok : GS → Prop) (S' : Hp) : Prop := ∀ (i : Nat) S2 G2 H2, Sub S' S2 → Cn K S2 G2 H2 → ok G2 →
  (∀ d, xs[i]? = some d → J.go i H2 ∧ ∀ x H3, J.yld i H2 x H3 → ∃ S3, Aft K S2 G2 H2 S3 G2 H3 ∧ Rep K S3 d x) ∧ (xs.length ≤ i → J.stop i H2)
def liftI (K : PySem.W.Frag) (W : WX) (t : DTI) : TI := fun σV H P => ∃ S σ G Q R, Cn K S G H ∧ EnvR K S σ σV ∧ t σ G Q R ∧ XOk K W S G H R ∧ ∀ J H' S' xs ok G', Aft K S G H S' G' H' → JOk K J xs ok S' → Q xs ok G' → P J H'
abbrev DI (X : Cx) (W : WX) (tg iter : Expr) (t : DTI) : Prop := PI X tg iter (liftI X.K W t)
section
variable {X : Cx} {W : WX} {pos p : Pos} {e tg : Expr} {es : List Expr} {te : DTE} {t : DTA}
theorem pi_imp {t t' : TI} (h : PI X tg e t) (i : ∀ σ H Q, t' σ H Q → t σ H Q) : PI X tg e t' := ⟨fun pins s σ H Q I q => h.run pins s σ H Q I (i _ _ _ q)⟩
theorem pi_or {t t' : TI} (h : PI X tg e t) (h' : PI X tg e t') : PI X tg e (fun σ H Q => t σ H Q ∨ t' σ H Q) := ⟨fun pins s σ H Q I q => q.elim (h.run pins s σ H Q I) (h'.run pins s σ H Q I)⟩
theorem jok_list {K : PySem.W.Frag} {a : Addr} {S' : Hp} {xs : List D} {vs : List V} {ok : GS → Prop} (h : ∀ S2 G2 H2, Sub S' S2 → Cn K S2 G2 H2 → ok G2 → ∃ vs, SqL K H2 a vs ∧ Reps K S2 xs vs) : JOk K (Itl K a) xs ok S' := fun i S2 G2 H2 hs hc ho => by
  obtain ⟨vs, h1, r⟩ := h S2 G2 H2 hs hc ho
  refine ⟨fun d hd => ?_, fun hl => ⟨vs, h1, by rw [r.length]; exact hl⟩⟩
  obtain ⟨v, hv, rv⟩ := r.get' hd
  refine ⟨⟨vs, v, h1, hv⟩, fun x H3 ⟨e, y⟩ => ?_⟩
  subst e
  have := y vs h1
  rw [hv] at this
  cases this
  exact ⟨S2, hc.aft, rv⟩
theorem jok_tup {K : PySem.W.Frag} {a : Addr} {S' : Hp} {xs : List D} {vs : List V} {ok : GS → Prop} (h1 : SqT K S' a vs) (r0 : Reps K S' xs vs) : JOk K (Itt K a) xs ok S' := fun i S2 G2 H2 hs hc ho => by
  have h2 := hc.sub.t (hs.t h1)
  have r := r0.up hs
  refine ⟨fun d hd => ?_, fun hl => ⟨vs, h2, by rw [r.length]; exact hl⟩⟩
  obtain ⟨v, hv, rv⟩ := r.get' hd
  refine ⟨⟨vs, v, h2, hv⟩, fun x H3 ⟨e, y⟩ => ?_⟩
  subst e
  have := y vs h2
  rw [hv] at this
  cases this
  exact ⟨S2, hc.aft, rv⟩
/-- the signs of a text -/
def signsD (z : Str) : List D := z.cps.toList.map fun c => D.str ⟨#[c]⟩
theorem jok_str {K : PySem.W.Frag} {z : Str} {S' : Hp} {ok : GS → Prop} : JOk K (Its z) (signsD z) ok S' := fun i S2 G2 H2 hs hc ho => by
  refine ⟨fun d hd => ?_, fun hl => by simpa [signsD, Its] using hl⟩
  unfold signsD at hd
  rw [List.getElem?_map] at hd
  cases e : z.cps.toList[i]? with
  | none => rw [e] at hd; cases hd
  | some c =>
    rw [e] at hd
    cases hd
    have e' : z.cps[i]? = some c := by simpa using e
    refine ⟨?_, fun x H3 ⟨e1, c', e2, e3⟩ => ?_⟩
    · show i < z.cps.size
      have := (List.getElem?_eq_some_iff.mp e).1
      simpa using this
    · subst e1
      rw [e'] at e2
      cases e2
      exact ⟨S2, hc.aft, e3⟩
def rngD (lo : Int) (n : Nat) : List D := (List.range n).map fun i => D.int (lo + (i : Nat))
theorem jok_rng {K : PySem.W.Frag} {lo : Int} {n : Nat} {S' : Hp} {ok : GS → Prop} : JOk K (Itr lo n) (rngD lo n) ok S' := fun i S2 G2 H2 hs hc ho => by
  refine ⟨fun d hd => ?_, fun hl => by simpa [rngD, Itr] using hl⟩
  unfold rngD at hd
  rw [List.getElem?_map] at hd
  cases e : (List.range n)[i]? with
  | none => rw [e] at hd; cases hd
  | some c =>
    rw [e] at hd
    cases hd
    have hi := (List.getElem?_eq_some_iff.mp e)
    obtain ⟨h1, h2⟩ := hi
    simp at h1 h2
    subst h2
    exact ⟨h1, fun x H3 ⟨e1, e2⟩ => by subst e1; exact ⟨S2, hc.aft, e2⟩⟩
/-- over a list, a tuple, a text -/
def dIter (te : DTE) : DTI := fun σ G Q R => te σ G (fun d G1 => match d with
  | .lst xs => Q xs (fun _ => True) G1
  | .tup xs => Q xs (fun _ => True) G1
  | .str z => Q (signsD z) (fun _ => True) G1
  | .ref p => ∃ xs, (p, Cell.lst xs) ∈ G1 ∧ Q xs (fun G => (p, Cell.lst xs) ∈ G) G1
  | _ => False) R
/-- what is walked, by its value -/
theorem pi_seq {l : Expr} {tl : TE} (hl : PE X l tl) : PI X tg l (fun σ H R => tl σ H fun x H1 => (∃ a, x = .ref a ∧ (∃ xs, SqL X.K H1 a xs) ∧ R (Itl X.K a) H1) ∨ (∃ a, x = .ref a ∧ (∃ xs, SqT X.K H1 a xs) ∧ R (Itt X.K a) H1) ∨ ∃ z, x = .str z ∧ R (Its z) H1) := by
  refine ⟨fun pins s σ H R I h => ?_⟩
  refine thn (hl.run pins s σ H _ I h) fun v s1 ⟨x, H1, I1, r1, q1⟩ => ?_
  rcases q1 with ⟨a, e, ⟨xs, hq⟩, q⟩ | ⟨a, e, ⟨xs, hq⟩, q⟩ | ⟨z, e, q⟩
  · subst e
    cases r1
    obtain ⟨its, rv, p, hz⟩ := I1.list hq
    refine wpAny_pyIter_list p.isList ?_
    refine ⟨s1.heap.objs.size, [s1.heap.objs.size], _, _, H1, rfl, I1.kept (t' := s1.toks) fun b o e => Heap.get?_push_of_some _ e, turn_list a _, ⟨_, Heap.get?_push_size _ rfl, rfl, rfl⟩, fun b hb => ?_, q⟩
    have e : b = s1.heap.objs.size := by simpa using hb
    subst e
    exact I1.fpOk (Nat.le_refl _) (I1.hok.fresh (Nat.le_refl _))
  · subst e
    cases r1
    obtain ⟨its, rv, p, hz⟩ := I1.tuple hq
    refine wpAny_pyIter_tuple (show s1.heap.IsTuple a its.toArray from p) ?_
    refine ⟨s1.heap.objs.size, [s1.heap.objs.size], _, _, H1, rfl, I1.kept (t' := s1.toks) fun b o e => Heap.get?_push_of_some _ e, turn_tuple a _, ⟨_, Heap.get?_push_size _ rfl, rfl, rfl⟩, fun b hb => ?_, q⟩
    have e : b = s1.heap.objs.size := by simpa using hb
    subst e
    exact I1.fpOk (Nat.le_refl _) (I1.hok.fresh (Nat.le_refl _))
  · subst e
    obtain ⟨t, rfl⟩ := r1
    cases ha : z.cps.all (· < 128)
    · exact wpAny_pyIter_wide ha (pi_one (tk := s1.toks) I1 _ (turn_str _ z t "str_iterator" (.inr rfl)) ⟨_, Heap.get?_push_size _ rfl, rfl, rfl⟩ q)
    · exact wpAny_pyIter_ascii ha (pi_one (tk := s1.toks) I1 _ (turn_str _ z t "str_ascii_iterator" (.inl rfl)) ⟨_, Heap.get?_push_size _ rfl, rfl, rfl⟩ q)
theorem di_iter (he : DE X W e te) : DI X W tg e (dIter te) :=
  pi_imp (pi_seq he) fun σV H P ⟨S, σ, G, Q, R, hc, hee, ht, hx, hq⟩ => by
    refine ⟨S, σ, G, _, R, hc, hee, ht, hx, fun v H1 S1 d G1 a1 r1 q1 => ?_⟩
    cases d <;> first | exact (show False from q1).elim | skip
    · cases (show v = .str _ from r1)
      exact .inr (.inr ⟨_, rfl, hq _ H1 S1 _ _ G1 a1 jok_str q1⟩)
    · obtain ⟨xs, h1, q⟩ := q1
      cases (show v = .ref _ from r1)
      obtain ⟨vs, h2, r2⟩ := a1.cn.cell _ h1
      refine .inl ⟨_, rfl, ⟨vs, SqL.of h2⟩, hq _ H1 S1 _ _ G1 a1 (jok_list (vs := vs) fun S2 G2 H2 hs hc2 ho => ?_) q⟩
      obtain ⟨us, h3, r3⟩ := hc2.cell _ ho
      exact ⟨us, SqL.of h3, r3⟩
    · obtain ⟨a, vs, rfl, h2, r2⟩ := r1
      exact .inr (.inl ⟨a, rfl, ⟨vs, a1.cn.sub.t h2⟩, hq _ H1 S1 _ _ G1 a1 (jok_tup h2 r2) q1⟩)
    · obtain ⟨a, vs, rfl, h2, r2⟩ := r1
      refine .inl ⟨a, rfl, ⟨vs, a1.cn.sub.l h2⟩, hq _ H1 S1 _ _ G1 a1 (jok_list (vs := vs) fun S2 G2 H2 hs hc2 ho => ?_) q1⟩
      exact ⟨vs, hc2.sub.l (hs.l h2), r2.up hs⟩
def dRng1 (t : DTA) : DTI := fun σ G Q R => t σ G (fun ds G1 => match ds with
  | [.int j] => -(2 ^ 62) ≤ j ∧ j < 2 ^ 62 ∧ Q (rngD 0 j.toNat) (fun _ => True) G1
  | _ => False) R
def dRng2 (t : DTA) : DTI := fun σ G Q R => t σ G (fun ds G1 => match ds with
  | [.int i, .int j] => (-(2 ^ 62) ≤ i ∧ i < 2 ^ 62 ∧ -(2 ^ 62) ≤ j ∧ j < 2 ^ 62) ∧ Q (rngD i (j - i).toNat) (fun _ => True) G1
  | _ => False) R
theorem di_range1 {a : Expr} (hg : Gl X "range") (hm : X.mg "range" = none) (ha : DA X W [a] t) (hs : starEach [a] X.env = [(false, eval a X.env)] := by rfl) : DI X W tg (.Call (.Name "range" p) [a] [] pos) (dRng1 t) :=
  pi_imp (pi_range1 hg hm ha hs) fun σV H P ⟨S, σ, G, Q, R, hc, hee, ht, hx, hq⟩ => by
    refine ⟨S, σ, G, _, R, hc, hee, ht, hx, fun vs H1 S1 ds G1 a1 r1 q1 => ?_⟩
    split at q1
    · obtain ⟨v, r', rfl, r2, rfl⟩ := r1
      cases r2
      exact ⟨_, rfl, q1.1, q1.2.1, hq _ H1 S1 _ _ G1 a1 jok_rng q1.2.2⟩
    · exact q1.elim
theorem di_range2 {a b : Expr} (hg : Gl X "range") (hm : X.mg "range" = none) (ha : DA X W [a, b] t) (hs : starEach [a, b] X.env = [(false, eval a X.env), (false, eval b X.env)] := by rfl) (hs2 : starEach [b] X.env = [(false, eval b X.env)] := by rfl) : DI X W tg (.Call (.Name "range" p) [a, b] [] pos) (dRng2 t) :=
  pi_imp (pi_range2 hg hm ha hs hs2) fun σV H P ⟨S, σ, G, Q, R, hc, hee, ht, hx, hq⟩ => by
    refine ⟨S, σ, G, _, R, hc, hee, ht, hx, fun vs H1 S1 ds G1 a1 r1 q1 => ?_⟩
    split at q1
    · obtain ⟨v, r', rfl, r2, v2, r2', rfl, r3, rfl⟩ := r1
      cases r2
      cases r3
      exact ⟨_, _, rfl, q1.1, hq _ H1 S1 _ _ G1 a1 jok_rng q1.2⟩
    · exact q1.elim
/-- a list as it stands at each turn -/
def srcL (G : GS) (d : D) (Q : List D → (GS → Prop) → Prop) : Prop := match d with
  | .lst xs => Q xs (fun _ => True)
  | .ref p => ∃ xs, (p, Cell.lst xs) ∈ G ∧ Q xs (fun G => (p, Cell.lst xs) ∈ G)
  | _ => False
theorem srcL_of {K : PySem.W.Frag} {S : Hp} {G : GS} {H : Hp} {d : D} {v : V} {Q : List D → (GS → Prop) → Prop} (hc : Cn K S G H) (r : Rep K S d v) (h : srcL G d Q) : ∃ a vs xs ok, v = .ref a ∧ SqL K H a vs ∧ Q xs ok ∧
    ∀ S2 G2 H2, Sub S S2 → Cn K S2 G2 H2 → ok G2 → ∃ us, SqL K H2 a us ∧ Reps K S2 xs us := by
  cases d <;> first | exact (show False from h).elim | skip
  · obtain ⟨xs, h1, q⟩ := h
    obtain ⟨vs, h2, r2⟩ := hc.cell _ h1
    refine ⟨_, vs, xs, _, r, SqL.of h2, q, fun S2 G2 H2 hs hc2 ho => ?_⟩
    obtain ⟨us, h3, r3⟩ := hc2.cell _ ho
    exact ⟨us, SqL.of h3, r3⟩
  · obtain ⟨a, vs, rfl, h2, r2⟩ := r
    exact ⟨a, vs, _, _, rfl, hc.sub.l h2, h, fun S2 G2 H2 hs hc2 ho => ⟨vs, hc2.sub.l (hs.l h2), r2.up hs⟩⟩
def enumD (xs : List D) : List D := xs.zipIdx.map fun p => .tup [.int (p.2 : Nat), p.1]
def zipD (xs ys : List D) : List D := (xs.zip ys).map fun p => .tup [p.1, p.2]
def dEnum (t : DTA) : DTI := fun σ G Q R => t σ G (fun ds G1 => match ds with | [d] => srcL G1 d fun xs ok => Q (enumD xs) ok G1 | _ => False) R
def dZip (t : DTA) : DTI := fun σ G Q R => t σ G (fun ds G1 => match ds with | [d, e] => srcL G1 d fun xs ok => srcL G1 e fun ys ok2 => Q (zipD xs ys) (fun G => ok G ∧ ok2 G) G1 | _ => False) R
theorem di_enum {tpos : Pos} {elts : List Expr} {kk : Nat} (hg : Gl X "enumerate") (hm : X.mg "enumerate" = none) (ha : DA X W [e] t) (hs : starEach [e] X.env = [(false, eval e X.env)] := by rfl) : DI X W (.Tuple elts kk tpos) (.Call (.Name "enumerate" p) [e] [] pos) (dEnum t) :=
  pi_imp (pi_enum hg hm ha hs) fun σV H P ⟨S, σ, G, Q, R, hc, hee, ht, hx, hq⟩ => by
    refine ⟨S, σ, G, _, R, hc, hee, ht, hx, fun vs H1 S1 ds G1 a1 r1 q1 => ?_⟩
    split at q1
    · obtain ⟨v, r', rfl, r2, rfl⟩ := r1
      obtain ⟨a, us, xs, ok, rfl, h1, q, st⟩ := srcL_of a1.cn r2 q1
      refine ⟨a, us, rfl, h1, hq _ H1 S1 _ _ G1 a1 (fun i S2 G2 H2 hs hc2 ho => ?_) q⟩
      obtain ⟨ws, h3, r3⟩ := st S2 G2 H2 hs hc2 ho
      refine ⟨fun d hd => ?_, fun hl => ⟨ws, h3, by rw [r3.length]; simpa [enumD] using hl⟩⟩
      unfold enumD at hd
      rw [List.getElem?_map, List.getElem?_zipIdx] at hd
      cases e0 : xs[i]? with
      | none => rw [e0] at hd; cases hd
      | some x =>
        rw [e0] at hd
        simp at hd
        subst hd
        obtain ⟨w, hw, rw'⟩ := r3.get' e0
        refine ⟨⟨ws, w, h3, hw⟩, fun y H3 ⟨T, z, e1, e2, e3, e4⟩ => ?_⟩
        subst e1 e3
        have := e4 ws h3
        rw [hw] at this
        cases this
        have a4 := hc2.still (o := .tup [.int (i : Nat), w]) e2
        exact ⟨_, a4, T, _, rfl, SqT.of upd_same, Reps.cons rfl (Reps.cons (rw'.up a4.sub) Reps.nil)⟩
    · exact q1.elim
theorem di_zip {e2 : Expr} {tpos : Pos} {elts : List Expr} {kk : Nat} (hg : Gl X "zip") (hm : X.mg "zip" = none) (ha : DA X W [e, e2] t)
    (hs : starEach [e, e2] X.env = (false, eval e X.env) :: starEach [e2] X.env := by rfl) (hpl : (backTo pos (starEach [e2] X.env)).any (·.1) = false := by rfl) : DI X W (.Tuple elts kk tpos) (.Call (.Name "zip" p) [e, e2] [] pos) (dZip t) :=
  pi_imp (pi_zip hg hm ha hs hpl) fun σV H P ⟨S, σ, G, Q, R, hc, hee, ht, hx, hq⟩ => by
    refine ⟨S, σ, G, _, R, hc, hee, ht, hx, fun vs H1 S1 ds G1 a1 r1 q1 => ?_⟩
    split at q1
    · obtain ⟨v, r', rfl, r2, v2, r2', rfl, r3, rfl⟩ := r1
      obtain ⟨a, us, xs, ok, rfl, h1, q, st⟩ := srcL_of a1.cn r2 q1
      obtain ⟨b, us2, ys, ok2, rfl, h2, q', st2⟩ := srcL_of a1.cn r3 q
      refine ⟨a, b, us, us2, rfl, h1, h2, hq _ H1 S1 _ _ G1 a1 (fun i S2 G2 H2 hs hc2 ho => ?_) q'⟩
      obtain ⟨ws, h3, r4⟩ := st S2 G2 H2 hs hc2 ho.1
      obtain ⟨zs, h5, r5⟩ := st2 S2 G2 H2 hs hc2 ho.2
      refine ⟨fun d hd => ?_, fun hl => ⟨ws, zs, h3, h5, by
        rw [r4.length, r5.length]
        have : min xs.length ys.length ≤ i := by simpa [zipD] using hl
        omega⟩⟩
      unfold zipD at hd
      rw [List.getElem?_map] at hd
      cases e0 : (xs.zip ys)[i]? with
      | none => rw [e0] at hd; cases hd
      | some x =>
        rw [e0] at hd
        simp at hd
        subst hd
        obtain ⟨g1, g2⟩ := List.getElem?_zip_eq_some.mp e0
        obtain ⟨w, hw, rw'⟩ := r4.get' g1
        obtain ⟨w2, hw2, rw2⟩ := r5.get' g2
        refine ⟨⟨ws, zs, w, w2, h3, h5, hw, hw2⟩, fun y H3 ⟨T, z, z2, e1, e2, e3, e4, e5⟩ => ?_⟩
        subst e1 e3
        have t1 := e4 ws h3
        rw [hw] at t1
        cases t1
        have t2 := e5 zs h5
        rw [hw2] at t2
        cases t2
        have a4 := hc2.still (o := .tup [w, w2]) e2
        exact ⟨_, a4, T, _, rfl, SqT.of upd_same, Reps.cons (rw'.up a4.sub) (Reps.cons (rw2.up a4.sub) Reps.nil)⟩
    · exact q1.elim

/-! ### for -/
/-- I: what holds ahead of each turn -/
def dFor (ti : DTI) (g : DTG) (tb : DTS) : DTS := fun N R σ G => ti σ G (fun xs ok G1 => ∃ I : Nat → Ev → GS → Prop, I 0 σ G1 ∧ (∀ i σ G, i ≤ xs.length → I i σ G → ok G) ∧
  (∀ i d σ G, xs[i]? = some d → I i σ G → g d σ G (fun σ' G' => tb { N with nx := Gh (I (i + 1)), ct := Gh (I (i + 1)), bk := N.nx } R σ' G') R) ∧ ∀ σ G, I xs.length σ G → N.nx σ G) R
variable {iter : Expr} {ti : DTI} {g : DTG} {body : List Stmt} {tb : DTS}
theorem ds_for (hp : PassesOwn (model X.prog X.w) X.A X.env X.xe) (hc : X.calm = true) (hi : DI X W tg iter ti) (hg : DG X W tg g) (hb : DSs X W body tb) (hfs : ∀ x, foldedSetIterable iter X.env x = pure x := by intro _; rfl) : DS X W (.For tg iter body [] pos) (dFor ti g tb) :=
  ps_imp (ps_for hp hc hi hg hb (hs := hfs)) fun D σV H ⟨S, σ, G, N, R, hc, hee, ht, hx, hq⟩ => by
    refine ⟨S, σ, G, _, R, hc, hee, ht, hx, fun J H1 S1 xs ok G1 a1 jo q1 => ?_⟩
    obtain ⟨I, h0, hok, hs, hd⟩ := q1
    refine ⟨fun i m σV2 H2 => m = xs.length - i ∧ i ≤ xs.length ∧ ∃ S2 σ2 G2, Aft X.K S1 G1 H1 S2 G2 H2 ∧ EnvR X.K S2 σ2 σV2 ∧ I i σ2 G2, ⟨xs.length, by simp, Nat.zero_le _, S1, σ, G1, a1.cn.aft, hee.up a1.sub, h0⟩, ?_⟩
    rintro i m σV2 H2 ⟨rfl, hi, S2, σ2, G2, a2, e2, hI⟩
    have ho := hok i σ2 G2 hi hI
    obtain ⟨j1, j2⟩ := jo i S2 G2 H2 a2.sub a2.cn ho
    have a12 := a1.trans a2
    by_cases hlt : i < xs.length
    · obtain ⟨g1, g2⟩ := j1 xs[i] (by simp [hlt])
      refine .inr ⟨g1, fun σV3 H3 => ∃ S3 σ3 G3, Aft X.K S1 G1 H1 S3 G3 H3 ∧ EnvR X.K S3 σ3 σV3 ∧ I (i + 1) σ3 G3, fun σV3 H3 ⟨S3, σ3, G3, a3, e3, h3⟩ => ⟨xs.length - (i + 1), by omega, rfl, hlt, S3, σ3, G3, a3, e3, h3⟩, fun x H3 hy => ?_⟩
      obtain ⟨S3, a3, r3⟩ := g2 x H3 hy
      have a23 := a2.trans a3
      have a123 := a12.trans a3
      refine ⟨S3, σ2, G2, xs[i], _, R, a3.cn, e2.up a3.sub, r3, hs i xs[i] σ2 G2 (by simp [hlt]) hI, hx.aft a123, fun σV4 H4 S4 σ4 G4 a4 e4 q4 => ?_⟩
      have a1234 := a123.trans a4
      refine ⟨S4, σ4, G4, _, R, a4.cn, e4, q4, hx.aft a1234, ⟨fun σV5 H5 S5 σ5 G5 a5 e5 n => ?_, fun v H5 S5 d5 G5 a5 r5 n => hq.rt v H5 S5 d5 G5 (a1234.trans a5) r5 n, fun σV5 H5 S5 σ5 G5 a5 e5 n => hq.nx σV5 H5 S5 σ5 G5 (a1234.trans a5) e5 n, fun σV5 H5 S5 σ5 G5 a5 e5 n => ?_⟩⟩
      · obtain ⟨S6, σ6, G6, a6, e6, z6⟩ := n.go a5.cn e5
        exact ⟨S6, σ6, G6, ((a23.trans a4).trans a5).trans a6, e6, z6⟩
      · obtain ⟨S6, σ6, G6, a6, e6, z6⟩ := n.go a5.cn e5
        exact ⟨S6, σ6, G6, ((a23.trans a4).trans a5).trans a6, e6, z6⟩
    · have e : i = xs.length := by omega
      subst e
      exact .inl ⟨j2 (Nat.le_refl _), hq.nx σV2 H2 S2 σ2 G2 a12 e2 (hd σ2 G2 hI)⟩
end
end DL
set_option Elab.async false
set_option linter.all false
set_option maxRecDepth 100000
set_option maxHeartbeats 4000000
namespace DL
open PySem PyProof.Rows L2

/-! ### list comprehensions -/
abbrev W0 : WX := fun _ _ _ _ => False
abbrev dX0 : DXK := fun _ _ _ _ => False
abbrev DPTs (X : Cx) (W : WX) (ifs : List Expr) (t : DTT) : Prop := PTs X ifs (liftT X.K W t)
def dYes : DTT := fun _ G Q _ => Q true G
section
variable {X : Cx} {W : WX}
theorem pts_imp {es : List Expr} {t t' : TT} (h : PTs X es t) (i : ∀ σ H Q, t' σ H Q → t σ H Q) : PTs X es t' := ⟨fun pins s σ H Q I q => h.run pins s σ H Q I (i _ _ _ q)⟩
theorem dts_nil : DPTs X W [] dYes := pts_imp pts_nil fun σV H P ⟨S, σ, G, Q, R, hc, he, ht, hx, hq⟩ => hq true H S G hc.aft ht
theorem dts_one {c : Expr} {t : DTT} (h : DT X W c t) : DPTs X W [c] t := pts_one h
end
/-- the targets of a comprehension: one name, a tuple of names -/
inductive CTg where | one (i : Nat) | tup (js : List Nat)
def gNames : List Nat → TGs
  | [] => gNil
  | j :: js => gCons (gName j) (gNames js)
def gC (K : PySem.W.Frag) : CTg → TG
  | .one i => gName i
  | .tup js => gTup K js.length (gNames js)
def CTg.ins (c : CTg) (vs : List Nat) : Bool := match c with | .one i => vs.contains i | .tup js => js.all vs.contains
def setAll : List Nat → List D → Ev → Ev
  | j :: js, d :: ds, σ => setAll js ds (σ.set j (some d))
  | _, _, σ => σ
def bindC (c : CTg) (d : D) (σ : Ev) (Q : Ev → Prop) : Prop := match c with
  | .one i => Q (σ.set i (some d))
  | .tup js => match d with | .tup ds => ds.length = js.length ∧ Q (setAll js ds σ) | _ => False
def wipeD (σ : Ev) : List Nat → Ev
  | [] => σ
  | v :: vs => (wipeD σ vs).set v none
theorem wipe_env {K : PySem.W.Frag} {S : Hp} {σ : Ev} {σV : L2.St} (e : EnvR K S σ σV) : ∀ vs : List Nat, EnvR K S (wipeD σ vs) (wipe σV vs)
  | [] => e
  | v :: vs => by
    have ih := wipe_env e vs
    refine ⟨by simp [wipeD, wipe, ih.1], fun i d h => ?_⟩
    unfold wipeD at h
    unfold wipe
    by_cases hi : v = i
    · subst hi
      by_cases hv : v < (wipeD σ vs).length
      · rw [List.getElem?_set_self hv] at h; cases h
      · rw [List.getElem?_eq_none (by simpa using hv)] at h; cases h
    · rw [List.getElem?_set_ne hi] at h ⊢
      exact ih.2 i d h
theorem wipe_set {vs : List Nat} : ∀ {σV : L2.St} {i : Nat} {x : Option V}, i ∈ vs → wipe (σV.set i x) vs = wipe σV vs := by
  induction vs with
  | nil => intro σV i x h; cases h
  | cons v vs ih =>
    intro σV i x h
    by_cases hm : i ∈ vs
    · unfold wipe; rw [ih hm]
    · have e : i = v := by simpa [hm] using h
      subst e
      have : ∀ (vs : List Nat), i ∉ vs → wipe (σV.set i x) vs = (wipe σV vs).set i x := fun vs => by
        induction vs with
        | nil => intro _; rfl
        | cons u us ih2 =>
          intro hn
          simp only [List.mem_cons, not_or] at hn
          unfold wipe
          rw [ih2 hn.2, List.set_comm _ _ hn.1]
      unfold wipe
      rw [this vs hm, List.set_set]
theorem wipe_none {σV : L2.St} {v : Nat} : ∀ {us : List Nat}, v ∈ us → (wipe σV us).set v none = wipe σV us
  | [], h => by cases h
  | u :: us, h => by
    show (List.set (wipe σV us) u none).set v none = List.set (wipe σV us) u none
    by_cases e : v = u
    · subst e; rw [List.set_set]
    · have hm : v ∈ us := by simpa [e] using h
      rw [List.set_comm _ _ (fun z => e z.symm), wipe_none hm]
theorem wipe_wipe (σV : L2.St) (vs : List Nat) : wipe (wipe σV vs) vs = wipe σV vs := by
  have key : ∀ (ws us : List Nat), (∀ v ∈ ws, v ∈ us) → wipe (wipe σV us) ws = wipe σV us := fun ws => by
    induction ws with
    | nil => intro us _; rfl
    | cons v ws ih =>
      intro us h
      show (wipe (wipe σV us) ws).set v none = wipe σV us
      rw [ih us fun z hz => h z (List.mem_cons_of_mem _ hz)]
      exact wipe_none (h v List.mem_cons_self)
  exact key vs vs fun _ h => h
theorem gNames_run {K : PySem.W.Frag} {S : Hp} {vs : List Nat} : ∀ {js : List Nat} {ds : List D} {us : List V} {σ : Ev} {σV : L2.St} {H : Hp} {P : L2.St → Hp → Prop}, js.all vs.contains = true → Reps K S ds us → ds.length = js.length → EnvR K S σ σV →
    (∀ σV', EnvR K S (setAll js ds σ) σV' → wipe σV' vs = wipe σV vs → P σV' H) → gNames js us σV H P
  | [], [], us, σ, σV, H, P, _, r, _, e, h => by
    cases (show us = [] from r)
    exact ⟨rfl, h σV e rfl⟩
  | j :: js, d :: ds, us, σ, σV, H, P, hj, r, hl, e, h => by
    obtain ⟨v, r', rfl, r1, r2⟩ := r
    simp only [List.all_cons, Bool.and_eq_true] at hj
    refine ⟨v, r', rfl, ?_⟩
    refine gNames_run (σ := σ.set j (some d)) hj.2 r2 (by simpa using hl) (e.set r1 j) fun σV' e' w => h σV' e' (w.trans (wipe_set (by simpa using hj.1)))
  | [], _ :: _, _, _, _, _, _, _, _, hl, _, _ => by cases hl
  | _ :: _, [], _, _, _, _, _, _, _, hl, _, _ => by cases hl
theorem gC_run {K : PySem.W.Frag} {S : Hp} {vs : List Nat} {c : CTg} {d : D} {u : V} {σ : Ev} {σV : L2.St} {G : GS} {H : Hp} {P : L2.St → Hp → Prop} {Q : Ev → Prop} (hc : Cn K S G H) (hi : c.ins vs = true) (r : Rep K S d u) (e : EnvR K S σ σV) (h : bindC c d σ Q)
    (k : ∀ σ' σV', EnvR K S σ' σV' → wipe σV' vs = wipe σV vs → Q σ' → P σV' H) : gC K c u σV H P := by
  cases c with
  | one i => exact k _ _ (e.set r i) (wipe_set (by simpa [CTg.ins] using hi)) h
  | tup js =>
    unfold bindC at h
    cases d <;> first | exact (show False from h).elim | skip
    obtain ⟨hl, q⟩ := h
    obtain ⟨a, us, rfl, h1, r1⟩ := r
    refine ⟨a, us, rfl, hc.sub.t h1, by rw [r1.length]; exact hl, ?_⟩
    exact gNames_run (by simpa [CTg.ins] using hi) r1 hl e fun σV' e' w => k _ σV' e' w q
/-- an object that nothing tells of is changed -/
theorem Cn.junkW {K : PySem.W.Frag} {S : Hp} {G : GS} {H : Hp} (c : Cn K S G H) {p : Addr} {o : HO} (hs : S p = none) (hg : p ∉ keysG G) : Cn K S G (upd H p o) :=
  ⟨fun a u e => by
    rw [upd_ne (fun z => by rw [z, hs] at e; cases e)]; exact c.sub a u e, c.nd, c.sep, fun q hq => (c.cell q hq).up (Sub.refl S) (upd_ne fun z => hg (by rw [← z]; exact List.mem_map_of_mem hq))⟩

/-- the turns of a comprehension: I tells what holds ahead of each, of the list so far -/
def lcTurns (vs : List Nat) (c : CTg) (tt : DTT) (te : DTE) (xs : List D) (ok : GS → Prop) (σ : Ev) (G1 : GS) (K : List D → GS → Prop) : Prop := ∃ I : Nat → List D → GS → Prop, I 0 [] G1 ∧ (∀ i acc G, i ≤ xs.length → I i acc G → ok G) ∧
  (∀ i d acc G, xs[i]? = some d → I i acc G → bindC c d (wipeD σ vs) fun σ2 => tt σ2 G (fun b G2 => if b = true then te σ2 G2 (fun y G3 => acc.length < sizeLine ∧ I (i + 1) (acc ++ [y]) G3) dX0 else I (i + 1) acc G2) dX0) ∧
  ∀ acc G, I xs.length acc G → K acc G
def dLc (vs : List Nat) (c : CTg) (ti : DTI) (tt : DTT) (te : DTE) : DTE := fun σ G Q R => ti σ G (fun xs ok G1 => lcTurns vs c tt te xs ok σ G1 fun acc G2 => Q (.lst acc) G2) R
def dLcM (vs : List Nat) (c : CTg) (ti : DTI) (tt : DTT) (te : DTE) : DTE := fun σ G Q R => ti σ G (fun xs ok G1 => lcTurns vs c tt te xs ok σ G1 fun acc G2 => ∀ p, p ∉ keysG G2 → Q (.ref p) (G2 ++ [(p, .lst acc)])) R
section
variable {X : Cx} {W : WX} {pos p : Pos} {elt tg iter : Expr} {ifs : List Expr} {scope : Scope} {own : List (Str × Nat)} {ti : DTI} {c : CTg} {tt : DTT} {te : DTE}
theorem lc_imp {hv : c.ins (own.map (·.2)) = true} {Z : List D → GS → DK → Prop} (hZ : ∀ acc S G H D us Q (P : VK), Cn X.K S G H → H D = some (.lst us) → D ∉ keysG G → S D = none → Reps X.K S acc us → Z acc G Q →
      (∀ S' d G', Sub S S' → Cn X.K S' G' H → (∀ a, a ≠ D → S a = none → S' a = none) → (∀ a, a ≠ D → a ∉ keysG G → a ∉ keysG G') → Rep X.K S' d (.ref D) → Q d G' → P (.ref D) H) → P (.ref D) H)
    {σV : L2.St} {H : Hp} {P : VK} (h : liftE X.K W (fun σ G Q R => ti σ G (fun xs ok G1 => lcTurns (own.map (·.2)) c tt te xs ok σ G1 fun acc G2 => Z acc G2 Q) R) σV H P) :
    tLc (liftI X.K W ti) (gC X.K c) (liftT X.K W0 tt) (liftE X.K W0 te) (own.map (·.2)) σV H P := by
  obtain ⟨S, σ, G, Q, R, hc, hee, ht, hx, hq⟩ := h
  refine ⟨S, σ, G, _, R, hc, hee, ht, hx, fun J H1 S1 xs ok G1 a1 jo q1 => ?_⟩
  obtain ⟨I, h0, hok, hs, hd⟩ := q1
  intro D hD
  have j0 := a1.cn.junk (o := .lst []) hD
  refine ⟨fun i m H2 => m = xs.length - i ∧ i ≤ xs.length ∧ ∃ S2 G2 acc us, Cn X.K S2 G2 H2 ∧ Sub S1 S2 ∧ (∀ H3 S3 G3, Aft X.K S2 G2 H2 S3 G3 H3 → Aft X.K S1 G1 H1 S3 G3 H3) ∧ H2 D = some (.lst us) ∧ D ∉ keysG G2 ∧ S2 D = none ∧ Reps X.K S2 acc us ∧ I i acc G2,
    ⟨xs.length, by simp, Nat.zero_le _, S1, G1, [], [], j0.cn, Sub.refl S1, fun H3 S3 G3 a => j0.trans a, upd_same, a1.cn.freshG hD, a1.cn.freshS hD, Reps.nil, h0⟩, ?_⟩
  rintro i m H2 ⟨rfl, hi, S2, G2, acc, us, c2, s12, back, hDu, hDg, hDs, rA, hI⟩
  have ho := hok i acc G2 hi hI
  obtain ⟨j1, j2⟩ := jo i S2 G2 H2 s12 c2 ho
  by_cases hlt : i < xs.length
  · obtain ⟨g1, g2⟩ := j1 xs[i] (by simp [hlt])
    refine .inr ⟨g1, fun H3 => ∃ S3 G3 acc us, Cn X.K S3 G3 H3 ∧ Sub S1 S3 ∧ (∀ H4 S4 G4, Aft X.K S3 G3 H3 S4 G4 H4 → Aft X.K S1 G1 H1 S4 G4 H4) ∧ H3 D = some (.lst us) ∧ D ∉ keysG G3 ∧ S3 D = none ∧ Reps X.K S3 acc us ∧ I (i + 1) acc G3,
      fun H3 ⟨S3, G3, acc3, us3, e⟩ => ⟨xs.length - (i + 1), by omega, rfl, hlt, S3, G3, acc3, us3, e⟩, fun x H3 hy => ?_⟩
    obtain ⟨S3, a3, r3⟩ := g2 x H3 hy
    have hb := hs i xs[i] acc G2 (by simp [hlt]) hI
    have eW : EnvR X.K S3 (wipeD σ (own.map (·.2))) (wipe σV (own.map (·.2))) := wipe_env (hee.up ((a1.sub.trans s12).trans a3.sub)) _
    refine gC_run a3.cn hv r3 eW hb fun σ2 σV2 e2 w2 q2 => ?_
    refine ⟨w2.trans (wipe_wipe _ _), S3, σ2, G2, _, dX0, a3.cn, e2, q2, fun _ _ _ _ _ _ _ _ _ _ _ _ z => z, fun b H4 S4 G4 a4 q4 => ?_⟩
    have a34 := a3.trans a4
    cases b with
    | false =>
      obtain ⟨d1, d2⟩ := a34.stp D _ hDu hDg
      exact ⟨S4, G4, acc, us, a4.cn, s12.trans a34.sub, fun H5 S5 G5 a5 => back H5 S5 G5 (a34.trans a5), d1, d2, a34.old D _ hDu hDg hDs, rA.up a34.sub, q4⟩
    | true =>
      refine ⟨S4, σ2, G4, _, dX0, a4.cn, e2.up a4.sub, q4, fun _ _ _ _ _ _ _ _ _ _ _ _ z => z, fun y H5 S5 d5 G5 a5 r5 q5 => ?_⟩
      have a345 := a34.trans a5
      obtain ⟨d1, d2⟩ := a345.stp D _ hDu hDg
      have d3 := a345.old D _ hDu hDg hDs
      refine ⟨us, d1, by rw [rA.length]; exact q5.1, S5, G5, acc ++ [d5], us ++ [y], a5.cn.junkW d3 d2, s12.trans a345.sub, fun H6 S6 G6 a6 => ?_, upd_same, d2, d3, (rA.up a345.sub).app (Reps.cons r5 Reps.nil), q5.2⟩
      -- H5 with D changed: behind it, seen from H1 (where D was not)
      have b5 := back H5 S5 G5 a345
      refine ⟨b5.sub.trans a6.sub, a6.cn, fun a o e n => ?_, fun a o e n z => ?_, fun a h => a6.there a (there_upd a (b5.there a h))⟩
      · obtain ⟨e5, n5⟩ := b5.stp a o e n
        exact a6.stp a o (by rw [upd_ne (ne_of_none e hD)]; exact e5) n5
      · obtain ⟨e5, n5⟩ := b5.stp a o e n
        exact a6.old a o (by rw [upd_ne (ne_of_none e hD)]; exact e5) n5 (b5.old a o e n z)
  · have e : i = xs.length := by omega
    subst e
    refine .inl ⟨j2 (Nat.le_refl _), ?_⟩
    exact hZ acc S2 G2 H2 D us Q P c2 hDu hDg hDs rA (hd acc G2 hI) fun S' d G' s' c' n1 n2 rv q => by
      have b2 := back H2 S2 G2 c2.aft
      refine hq (.ref D) H2 S' d G' (a1.trans ⟨b2.sub.trans s', c', fun a o e n => ?_, fun a o e n z => ?_, fun a h => b2.there a h⟩) rv q
      · obtain ⟨e1, e2⟩ := b2.stp a o e n
        exact ⟨e1, n2 a (ne_of_none e hD) e2⟩
      · exact n1 a (ne_of_none e hD) (b2.old a o e n z)
theorem lc_still {acc : List D} {S : Hp} {G : GS} {H : Hp} {D : Addr} {us : List V} {Q : DK} {P : VK} (hc : Cn X.K S G H) (hD : H D = some (.lst us)) (hg : D ∉ keysG G) (hs : S D = none) (r : Reps X.K S acc us) (q : Q (.lst acc) G)
    (hq : ∀ S' d G', Sub S S' → Cn X.K S' G' H → (∀ a, a ≠ D → S a = none → S' a = none) → (∀ a, a ≠ D → a ∉ keysG G → a ∉ keysG G') → Rep X.K S' d (.ref D) → Q d G' → P (.ref D) H) : P (.ref D) H := by
  have sn : Sub S (upd S D (.lst us)) := Sub.new hs
  refine hq (upd S D (.lst us)) (.lst acc) G sn ⟨fun a u e => ?_, hc.nd, fun a ha => ?_, fun q hq => (hc.cell q hq).up sn rfl⟩ (fun a ha z => by rw [upd_ne ha]; exact z) (fun a _ n => n) ⟨D, us, rfl, SqL.of upd_same, r.up sn⟩ q
  · by_cases ha : a = D
    · subst ha; rw [upd_same] at e; cases e; exact hD
    · rw [upd_ne ha] at e; exact hc.sub a u e
  · rw [upd_ne (fun z => hg (by rw [← z]; exact ha))]; exact hc.sep a ha
theorem lc_cell {acc : List D} {S : Hp} {G : GS} {H : Hp} {D : Addr} {us : List V} {Q : DK} {P : VK} (hc : Cn X.K S G H) (hD : H D = some (.lst us)) (hg : D ∉ keysG G) (hs : S D = none) (r : Reps X.K S acc us) (q : ∀ p, p ∉ keysG G → Q (.ref p) (G ++ [(p, .lst acc)]))
    (hq : ∀ S' d G', Sub S S' → Cn X.K S' G' H → (∀ a, a ≠ D → S a = none → S' a = none) → (∀ a, a ≠ D → a ∉ keysG G → a ∉ keysG G') → Rep X.K S' d (.ref D) → Q d G' → P (.ref D) H) : P (.ref D) H := by
  refine hq S (.ref D) (G ++ [(D, .lst acc)]) (Sub.refl S) ⟨hc.sub, ?_, fun a ha => ?_, fun q hq => ?_⟩ (fun a _ z => z) (fun a h n z => ?_) rfl (q D hg)
  · unfold keysG
    rw [List.map_append, List.nodup_append]
    refine ⟨hc.nd, by simp, fun a ha b hb => ?_⟩
    simp at hb
    subst hb
    exact fun z => hg (by rw [← z]; exact ha)
  · unfold keysG at ha
    rw [List.map_append, List.mem_append] at ha
    rcases ha with ha | ha
    · exact hc.sep a ha
    · simp at ha; subst ha; exact hs
  · rw [List.mem_append] at hq
    rcases hq with hq | hq
    · exact hc.cell q hq
    · simp at hq; subst hq; exact ⟨us, hD, r⟩
  · unfold keysG at z
    rw [List.map_append, List.mem_append] at z
    rcases z with z | z
    · exact n z
    · simp at z; exact h z
/-- [elt for target in iter if ..] -/
theorem de_lc (hc : X.calm = true) (hN : X.N.Nodup) (hv : c.ins (own.map (·.2)) = true) (hi : DI X W tg iter ti) (ok : BlkOk X.N X.env.scope scope own)
    (hg : ∀ (s : Shared) (H : Hp) (C : Addr) (cl : List (Str × Addr)) (fp : List Addr), PG (X.blk s H scope (compEnvC scope cl C X.env) fp) tg (gC X.K c)) (ht : ∀ (s : Shared) (H : Hp) (C : Addr) (cl : List (Str × Addr)) (fp : List Addr), DPTs (X.blk s H scope (compEnvC scope cl C X.env) fp) W0 ifs tt)
    (he : ∀ (s : Shared) (H : Hp) (C : Addr) (cl : List (Str × Addr)) (fp : List Addr), DE (X.blk s H scope (compEnvC scope cl C X.env) fp) W0 elt te) (hs : ∀ x, foldedSetIterable iter X.env x = pure x := by intro _; rfl) :
    DE X W (.ListComp elt [⟨tg, iter, ifs, 0⟩] scope pos) (dLc (own.map (·.2)) c ti tt te) :=
  pe_imp (pe_lc hc hN hi ok hg ht he hs) fun σV H P h => lc_imp (hv := hv) (Z := fun (acc : List DL.D) (G : GS) (Q : DK) => Q (DL.D.lst acc) G) (fun acc S G H D0 us Q P h1 h2 h3 h4 h5 h6 h7 => lc_still h1 h2 h3 h4 h5 h6 h7) h
theorem de_lcM (hc : X.calm = true) (hN : X.N.Nodup) (hv : c.ins (own.map (·.2)) = true) (hi : DI X W tg iter ti) (ok : BlkOk X.N X.env.scope scope own)
    (hg : ∀ (s : Shared) (H : Hp) (C : Addr) (cl : List (Str × Addr)) (fp : List Addr), PG (X.blk s H scope (compEnvC scope cl C X.env) fp) tg (gC X.K c)) (ht : ∀ (s : Shared) (H : Hp) (C : Addr) (cl : List (Str × Addr)) (fp : List Addr), DPTs (X.blk s H scope (compEnvC scope cl C X.env) fp) W0 ifs tt)
    (he : ∀ (s : Shared) (H : Hp) (C : Addr) (cl : List (Str × Addr)) (fp : List Addr), DE (X.blk s H scope (compEnvC scope cl C X.env) fp) W0 elt te) (hs : ∀ x, foldedSetIterable iter X.env x = pure x := by intro _; rfl) :
    DE X W (.ListComp elt [⟨tg, iter, ifs, 0⟩] scope pos) (dLcM (own.map (·.2)) c ti tt te) :=
  pe_imp (pe_lc hc hN hi ok hg ht he hs) fun σV H P h => lc_imp (hv := hv) (Z := fun (acc : List DL.D) (G : GS) (Q : DK) => ∀ p, p ∉ keysG G → Q (DL.D.ref p) (G ++ [(p, Cell.lst acc)])) (fun acc S G H D0 us Q P h1 h2 h3 h4 h5 h6 h7 => lc_cell h1 h2 h3 h4 h5 h6 h7) h
/-- name = [..] on one line -/
theorem ds_setLc {i : Nat} {y : Str} {py spos : Pos} (hc : X.calm = true) (hN : X.N.Nodup) (hy : X.N[i]? = some y) (hyl : X.env.scope.names.lookup y = some .local)
    (hsw : swapsWith (.ListComp elt [⟨tg, iter, ifs, 0⟩] scope pos) (some (.Name y py)) spos.line X.env = pure true) (hv : c.ins (own.map (·.2)) = true) (hi : DI X W tg iter ti) (ok : BlkOk X.N X.env.scope scope own)
    (hg : ∀ (s : Shared) (H : Hp) (C : Addr) (cl : List (Str × Addr)) (fp : List Addr), PG (X.blk s H scope (compEnvC scope cl C X.env) fp) tg (gC X.K c)) (ht : ∀ (s : Shared) (H : Hp) (C : Addr) (cl : List (Str × Addr)) (fp : List Addr), DPTs (X.blk s H scope (compEnvC scope cl C X.env) fp) W0 ifs tt)
    (he : ∀ (s : Shared) (H : Hp) (C : Addr) (cl : List (Str × Addr)) (fp : List Addr), DE (X.blk s H scope (compEnvC scope cl C X.env) fp) W0 elt te) (hs : ∀ x, foldedSetIterable iter X.env x = pure x := by intro _; rfl) :
    DS X W (.Assign [.Name y py] (.ListComp elt [⟨tg, iter, ifs, 0⟩] scope pos) spos) (dSet i (dLc (own.map (·.2)) c ti tt te)) :=
  ps_imp (L2.ps_setLc hc hN hy hyl hsw hi ok hg ht he hs) fun N0 σV H ⟨S, σ, G, N, R, hcn, hee, ht, hx, hq⟩ =>
    lc_imp (W := W) (c := c) (ti := ti) (tt := tt) (te := te) (hv := hv) (Z := fun (acc : List DL.D) (G : GS) (Q : DK) => Q (DL.D.lst acc) G) (fun acc S G H D0 us Q P h1 h2 h3 h4 h5 h6 h7 => lc_still h1 h2 h3 h4 h5 h6 h7)
      ⟨S, σ, G, fun d G1 => N.nx (σ.set i (some d)) G1, R, hcn, hee, ht, hx, fun v H1 S1 d G1 a1 r1 q1 => hq.nx _ H1 S1 _ G1 a1 ((hee.up a1.sub).set r1 i) q1⟩
theorem ds_setLcM {i : Nat} {y : Str} {py spos : Pos} (hc : X.calm = true) (hN : X.N.Nodup) (hy : X.N[i]? = some y) (hyl : X.env.scope.names.lookup y = some .local)
    (hsw : swapsWith (.ListComp elt [⟨tg, iter, ifs, 0⟩] scope pos) (some (.Name y py)) spos.line X.env = pure true) (hv : c.ins (own.map (·.2)) = true) (hi : DI X W tg iter ti) (ok : BlkOk X.N X.env.scope scope own)
    (hg : ∀ (s : Shared) (H : Hp) (C : Addr) (cl : List (Str × Addr)) (fp : List Addr), PG (X.blk s H scope (compEnvC scope cl C X.env) fp) tg (gC X.K c)) (ht : ∀ (s : Shared) (H : Hp) (C : Addr) (cl : List (Str × Addr)) (fp : List Addr), DPTs (X.blk s H scope (compEnvC scope cl C X.env) fp) W0 ifs tt)
    (he : ∀ (s : Shared) (H : Hp) (C : Addr) (cl : List (Str × Addr)) (fp : List Addr), DE (X.blk s H scope (compEnvC scope cl C X.env) fp) W0 elt te) (hs : ∀ x, foldedSetIterable iter X.env x = pure x := by intro _; rfl) :
    DS X W (.Assign [.Name y py] (.ListComp elt [⟨tg, iter, ifs, 0⟩] scope pos) spos) (dSet i (dLcM (own.map (·.2)) c ti tt te)) :=
  ps_imp (L2.ps_setLc hc hN hy hyl hsw hi ok hg ht he hs) fun N0 σV H ⟨S, σ, G, N, R, hcn, hee, ht, hx, hq⟩ =>
    lc_imp (W := W) (c := c) (ti := ti) (tt := tt) (te := te) (hv := hv) (Z := fun (acc : List DL.D) (G : GS) (Q : DK) => ∀ p, p ∉ keysG G → Q (DL.D.ref p) (G ++ [(p, Cell.lst acc)])) (fun acc S G H D0 us Q P h1 h2 h3 h4 h5 h6 h7 => lc_cell h1 h2 h3 h4 h5 h6 h7)
      ⟨S, σ, G, fun d G1 => N.nx (σ.set i (some d)) G1, R, hcn, hee, ht, hx, fun v H1 S1 d G1 a1 r1 q1 => hq.nx _ H1 S1 _ G1 a1 ((hee.up a1.sub).set r1 i) q1⟩
end
end DL
set_option Elab.async false
set_option linter.all false
set_option maxRecDepth 100000
set_option maxHeartbeats 4000000
/-! ### int(text, 10) of figures -/
namespace DL
namespace Dc
open PySem PyProof.Rows L2 L2.Hx PySem.NumText PySem.Calls
def IsDec (c : Nat) : Prop := 48 ≤ c ∧ c ≤ 57
def decNum (l : List Nat) : Nat := l.foldl (fun a c => a * 10 + (c - 48)) 0
theorem digit_dec {c : Nat} (h : IsDec c) : digit? c = some (c - 48) := by
  unfold IsDec at h
  unfold digit?
  rw [if_pos (bb h.1 h.2)]
theorem step_dec {ds : Array Nat} {b : Bool} {c : Nat} (h : IsDec c) : PySem.NumText.step 10 (ds, b) c = some (ds.push (c - 48), true) := by
  have hr := h
  unfold IsDec at hr
  unfold PySem.NumText.step
  rw [if_neg (by rw [beq_iff_eq]; omega), digit_dec h]
  exact if_pos (by omega)
theorem foldl_dec : ∀ (cs : List Nat) (ds : Array Nat), (∀ c ∈ cs, IsDec c) → cs.foldlM (PySem.NumText.step 10) (ds, true) = some (cs.foldl (fun acc c => acc.push (c - 48)) ds, true)
  | [], _, _ => rfl
  | c :: cs, ds, h => by
    rw [List.foldlM_cons, step_dec (h c (List.mem_cons_self ..))]
    show cs.foldlM (PySem.NumText.step 10) (ds.push (c - 48), true) = _
    exact foldl_dec cs (ds.push (c - 48)) fun d hd => h d (List.mem_cons_of_mem _ hd)
theorem digits_dec {cs : List Nat} (h : ∀ c ∈ cs, IsDec c) (hne : cs ≠ []) : digits? 10 cs = some (cs.foldl (fun acc c => acc.push (c - 48)) #[]) := by
  cases cs with
  | nil => exact absurd rfl hne
  | cons c cs =>
    unfold digits?
    rw [List.foldlM_cons, step_dec (h c (List.mem_cons_self ..))]
    show (cs.foldlM (PySem.NumText.step 10) ((#[] : Array Nat).push (c - 48), true)).bind _ = _
    rw [foldl_dec cs _ fun d hd => h d (List.mem_cons_of_mem _ hd)]
    rfl
theorem push_dec : ∀ (cs : List Nat) (ds : Array Nat), (cs.foldl (fun acc c => acc.push (c - 48)) ds).foldl (fun acc d => acc * 10 + d) 0 = cs.foldl (fun a c => a * 10 + (c - 48)) (ds.foldl (fun acc d => acc * 10 + d) 0)
  | [], _ => rfl
  | c :: cs, ds => by
    rw [List.foldl_cons, push_dec cs (ds.push (c - 48)), List.foldl_cons]
    congr 1
    simp
theorem dropB {cs : List Nat} (h : ∀ c ∈ cs, IsDec c) : cs.dropWhile blank = cs := by
  cases cs with
  | nil => rfl
  | cons c cs => exact dropWhile_of (by have := h c (List.mem_cons_self ..); unfold IsDec at this; omega)
theorem signH {cs : List Nat} (h : ∀ c ∈ cs, IsDec c) : sign cs = (false, cs) := by
  cases cs with
  | nil => rfl
  | cons c cs =>
    have := h c (List.mem_cons_self ..)
    unfold IsDec at this
    exact sign_of (by omega) (by omega)
theorem read_dec {cs : List Nat} (h : ∀ c ∈ cs, IsDec c) (hne : cs ≠ []) (hl : cs.length ≤ 640) : (int_private% "readNumeral") 0 10 cs = (int_private% "Numeral.value") ((decNum cs : Nat) : Int) := by
  have hr : ∀ c ∈ cs.reverse, IsDec c := fun c hc => h c (List.mem_reverse.mp hc)
  refine (readNumeral_ten 0 cs).trans ?_
  have e1 : core cs = cs := by
    show (((sign (cs.dropWhile blank)).2.reverse.dropWhile blank).reverse) = cs
    rw [dropB h, signH h]
    show (cs.reverse.dropWhile blank).reverse = cs
    rw [dropB hr, List.reverse_reverse]
  rw [e1, dropB h, signH h, digits_dec h hne]
  have hsz : ¬ (cs.foldl (fun acc c => acc.push (c - 48)) (#[] : Array Nat)).size > 6000 := by
    have key : ∀ (l : List Nat) (a : Array Nat), (l.foldl (fun acc c => acc.push (c - 48)) a).size = a.size + l.length := fun l => by
      induction l with
      | nil => intro a; simp
      | cons x xs ih => intro a; rw [List.foldl_cons, ih]; simp; omega
    rw [key]
    simp
    omega
  show judge 0 false 10 false (some (cs.foldl (fun acc c => acc.push (c - 48)) (#[] : Array Nat))) = _
  unfold judge
  simp only [hsz, Nat.reduceBEq, Bool.and_false, Bool.false_and, bne_self_eq_false, decide_false, Bool.true_and, if_false, Bool.false_eq_true]
  show (int_private% "Numeral.value") (((cs.foldl (fun acc c => acc.push (c - 48)) (#[] : Array Nat)).foldl (fun acc d => acc * 10 + d) 0 : Nat) : Int) = _
  have z : (#[] : Array Nat).foldl (fun acc d => acc * 10 + d) 0 = 0 := by first | rfl | simp
  rw [push_dec, z] <;> rfl
theorem seen_dec {x : Str} (h : ∀ c ∈ x.cps.toList, IsDec c) : numTextOf x = x.cps.toList ∧ numSeenOf x = x.cps.toList := by
  have e1 : numTextOf x = x.cps.toList := by
    refine if_pos ?_
    rw [← Array.all_toList, List.all_eq_true]
    intro c hc
    have := h c hc
    unfold IsDec at this
    exact decide_eq_true (by omega)
  refine ⟨e1, ?_⟩
  show (numTextOf x).takeWhile _ = _
  rw [e1]
  refine takeWhile_all fun c hc => ?_
  have := h c hc
  unfold IsDec at this
  exact bne_iff_ne.mpr (by omega)
theorem gives_dec {x : PySem.Str} {u t : Tok} (hl : x.length ≤ 640) (h : ∀ c ∈ x.cps.toList, IsDec c) (hne : x.cps.toList ≠ []) :
    Gives (Builtin.«int.__new__» ⟨[.type "int", .str x u, .int 10 t], []⟩) (.int ((decNum x.cps.toList : Nat) : Int)) :=
  .of_wp fun M A E s Q hQ => by
    obtain ⟨hp, g, d, tk, os⟩ := s
    have f1 := F.conv_sub_int
    have f2 := F.madeHere_int
    have f6 : typeOf (.str x u) = pure (.type "str") := rfl
    obtain ⟨e1, e2⟩ := seen_dec h
    have hs : (numSeenOf x).length ≤ 640 := by
      rw [e2, Array.length_toList]
      exact hl
    have hr : (int_private% "readNumeral") 0 10 (numSeenOf x) = (int_private% "Numeral.value") ((decNum x.cps.toList : Nat) : Int) := by
      rw [e2]
      exact read_dec h hne (by rw [Array.length_toList]; exact hl)
    have ha : ((numSeenOf x).length == (numTextOf x).length) = true := by
      rw [e1, e2]
      exact beq_self_eq_true _
    have hk := Hid.mk (And.intro hs (And.intro hr ha))
    clear hs hr ha e1 e2 hl hne h
    repeat (any_goals (first
      | assumption
      | ((with_reducible show wpAny _ _ ((int_private% "intFromText") _ _ _) _ _ _); refine wp_textB hk.out.1 hk.out.2.1 hk.out.2.2 ?_)
      | wp_step))
    all_goals first | exact ⟨_, rfl, hQ⟩ | skip
theorem call_dec {prog : Program} {w : World} {A : Around} {E : Value → Shared → Prop} {s : Shared} {Q : Value → Shared → Prop} {x : PySem.Str} {u t : Tok} (hl : x.length ≤ 640) (h : ∀ c ∈ x.cps.toList, IsDec c) (hne : x.cps.toList ≠ [])
    (hQ : Q (.int ((decNum x.cps.toList : Nat) : Int) s.toks) { s with toks := s.toks + 1 }) : wpAny (model prog w) A (call (.type "int") [.str x u, .int 10 t]) Q E s :=
  callType_new F.called_int F.newNe_int (typeCall_int_2 _ _) (newCall_int_2 _ _) (fun obj => F.initArgs_range_2 obj _ _) F.entry_int_new (gives_dec hl h hne).meets (show (Made.int ((decNum x.cps.toList : Nat) : Int)).post _ s from ⟨rfl, hQ⟩)
theorem call_int_dec {X : Cx} : CallR X (.type "int") (fun xs H Q => ∃ z : Str, xs = [.str z, .int 10] ∧ z.cps.toList ≠ [] ∧ z.length ≤ 640 ∧ (∀ c ∈ z.cps.toList, IsDec c) ∧ Q (.int ((decNum z.cps.toList : Nat) : Int)) H) := by
  intro pins s σ H xs us Q I r h
  obtain ⟨z, rfl, hne, hl, hx, q⟩ := h
  obtain ⟨u, w', rfl, r1, r2⟩ := vals2 r
  obtain ⟨t1, rfl⟩ := r1
  obtain ⟨t2, rfl⟩ := r2
  exact call_dec hl hx hne ⟨.int _, H, I.tok _, ⟨_, rfl⟩, q⟩
end Dc
end DL
namespace DL
open PySem PyProof.Rows L2
section
variable {X : Cx} {W : WX} {a b c e o : Expr} {es : List Expr} {ta tb tc te to : DTE} {t : DTA} {pos p p2 : Pos}
def dInt2 : DCo := fun ds G Q => match ds with
  | [.str z, .int 10] => z.cps.toList ≠ [] ∧ z.length ≤ 640 ∧ (∀ c ∈ z.cps.toList, Dc.IsDec c) ∧ Q (.int ((Dc.decNum z.cps.toList : Nat) : Int)) G
  | _ => False
theorem cd_int2 : CalD X (.type "int") dInt2 :=
  CalD.mk Dc.call_int_dec fun S G H xs vs Q P hc r ho hq => by
    unfold dInt2 at ho
    split at ho
    · obtain ⟨v, r', rfl, r1, v2, r2', rfl, r2, rfl⟩ := r
      cases r1
      cases r2
      exact ⟨_, rfl, ho.1, ho.2.1, ho.2.2.1, hq _ _ _ (.int _) _ hc.aft rfl ho.2.2.2⟩
    · exact ho.elim
/-! ### str of a number, of a text -/
theorem cd_str : CalD X (.type "str") dStr :=
  CalD.mk (call_str_int.or (r' := fun xs H Q => ∃ z, xs = [.str z] ∧ Q (.str z) H) (by
    intro pins s σ H xs us Q I r h
    obtain ⟨z, rfl, q⟩ := h
    obtain ⟨u, rfl, r1⟩ := vals1 r
    obtain ⟨t, rfl⟩ := r1
    exact PySem.P.str_of_str ⟨.str z, H, I.tok _, ⟨_, rfl⟩, q⟩)) fun S G H xs vs Q P hc r ho hq => by
    unfold dStr at ho
    split at ho
    · obtain ⟨v, r', rfl, r1, rfl⟩ := r
      cases r1
      exact .inl ⟨_, rfl, ho.1, hq _ _ _ (.str _) _ hc.aft rfl ho.2⟩
    · obtain ⟨v, r', rfl, r1, rfl⟩ := r
      cases r1
      exact .inr ⟨_, rfl, hq _ _ _ (.str _) _ hc.aft rfl ho⟩
    · exact ho.elim
end
end DL
set_option Elab.async false
set_option linter.all false
set_option maxRecDepth 100000
set_option maxHeartbeats 4000000
namespace DL
open PySem PyProof.Rows L2
/-! ### isinstance -/
/-- what isinstance asks of an own class -/
structure ClI (K : PySem.W.Frag) (C : Addr) : Prop where
  cl : Cls K C
  ha : PySem.W.findIn K (.ref C) "__class__" = some (some (.builtin "object.__class__"))
  hn : PySem.W.specialIn K (.builtin "object.__class__") "__get__" = some (some (.builtin "getset_descriptor.__get__"))
  tk : PySem.W.takesIn K (.builtin "object.__class__") = some true
  hm : PySem.W.mroIn K C (.type "object") = some true
inductive TyD (K : PySem.W.Frag) (G : GS) : D → Value → Prop
  | non : TyD K G .non (.type "NoneType")
  | bl (b : Bool) : TyD K G (.bl b) (.type "bool")
  | int (i : Int) : TyD K G (.int i) (.type "int")
  | str (x : Str) : TyD K G (.str x) (.type "str")
  | tup (xs : List D) : TyD K G (.tup xs) (.type "tuple")
  | lst (xs : List D) : TyD K G (.lst xs) (.type "list")
  | obj {C : Addr} {ns : List Str} {vs : List D} (h : ClI K C) : TyD K G (.obj C ns vs) (.ref C)
  | dic (ks : List Key) (vs : List D) : TyD K G (.dic ks vs) (.type "dict")
  | dit (ks : List (List Key)) (vs : List D) : TyD K G (.dit ks vs) (.type "dict")
  | clst {p : Addr} {xs : List D} (h : (p, Cell.lst xs) ∈ G) : TyD K G (.ref p) (.type "list")
  | cdk {p : Addr} {xs : List (Key × D)} (h : (p, Cell.dk xs) ∈ G) : TyD K G (.ref p) (.type "dict")
  | cdt {p : Addr} {xs : List (List Key × D)} (h : (p, Cell.dt xs) ∈ G) : TyD K G (.ref p) (.type "dict")
  | cins {p C : Addr} {ns : List Str} {vs : List D} (h : (p, Cell.ins C ns vs) ∈ G) (hc : ClI K C) : TyD K G (.ref p) (.ref C)
theorem TyD.x {K : PySem.W.Frag} {S : Hp} {G : GS} {H : Hp} {d : D} {v : V} {t : Value} (c : Cn K S G H) (r : Rep K S d v) (h : TyD K G d t) : TyX K H v t := by
  cases h with
  | non => cases (show v = .non from r); exact .base .non
  | bl b => cases (show v = .bl b from r); exact .base (.bl b)
  | int i => cases (show v = .int i from r); exact .base (.int i)
  | str x => cases (show v = .str x from r); exact .base (.str x)
  | tup xs =>
    obtain ⟨a, vs, rfl, h1, _⟩ := r
    rcases c.sub.t h1 with (h1 | ⟨o, h1⟩) | ⟨o, its, n, h1, h2, _⟩
    · exact .base (.tup h1)
    · exact .fTuple h1
    · exact .kTuple h1 h2
  | lst xs =>
    obtain ⟨a, vs, rfl, h1, _⟩ := r
    rcases c.sub.l h1 with (h1 | ⟨o, h1⟩) | ⟨o, its, n, h1, h2, _⟩
    · exact .base (.lst h1)
    · exact .base (.frz h1)
    · exact .kList h1 h2
  | obj h =>
    obtain ⟨a, dx, fs, rfl, h1, _⟩ := r
    exact .base (.ins (c.sub _ _ h1) h.cl h.ha h.hn h.tk h.hm)
  | dic ks vs =>
    obtain ⟨a, ws, rfl, h1, _⟩ := r
    exact .base (.dK (c.sub _ _ h1))
  | dit ks vs =>
    obtain ⟨a, ws, rfl, h1, _⟩ := r
    exact .base (.dT (c.sub _ _ h1))
  | clst h =>
    cases (show v = .ref _ from r)
    obtain ⟨vs, h1, _⟩ := c.cell _ h
    exact .base (.lst h1)
  | cdk h =>
    cases (show v = .ref _ from r)
    obtain ⟨vs, h1, _⟩ := c.cell _ h
    exact .base (.dK h1)
  | cdt h =>
    cases (show v = .ref _ from r)
    obtain ⟨vs, h1, _⟩ := c.cell _ h
    exact .base (.dT h1)
  | cins h hc =>
    cases (show v = .ref _ from r)
    obtain ⟨dx, fs, h1, _⟩ := c.cell _ h
    exact .base (.ins h1 hc.cl hc.ha hc.hn hc.tk hc.hm)
inductive ClsD : D → Value → Prop
  | ty (n : String) : ClsD (.ty n) (.type n)
  | own (C : Addr) : ClsD (.ref C) (.ref C)
theorem ClsD.v {K : PySem.W.Frag} {S : Hp} {d : D} {v : V} {u : Value} (h : ClsD d u) (r : Rep K S d v) : ClsV v u := by
  cases h with
  | ty n => cases (show v = .ty n from r); exact .ty n
  | own C => cases (show v = .ref C from r); exact .own C
section
variable {X : Cx} {W : WX} {a b c e o : Expr} {es : List Expr} {ta tb tc te to : DTE} {t tr : DTA} {pos p p2 : Pos}
def dIsi (K : PySem.W.Frag) : DCo := fun ds G Q => match ds with
  | [x, c] => ∃ t u b, TyD K G x t ∧ ClsD c u ∧ PySem.W.kitOne K t u = some b ∧ Q (.bl b) G
  | _ => False
theorem cd_isi : CalD X (.builtin "isinstance") (dIsi X.K) :=
  CalD.mk call_isi fun S G H xs vs Q P hc r ho hq => by
    unfold dIsi at ho
    split at ho
    · obtain ⟨v, r', rfl, r1, v2, r2', rfl, r2, rfl⟩ := r
      obtain ⟨t, u, b, h1, h2, h3, q⟩ := ho
      exact ⟨v, v2, t, u, b, rfl, h2.v r2, h1.x hc r1, h3, hq _ _ _ (.bl b) _ hc.aft rfl q⟩
    · exact ho.elim
inductive ClsDs : List D → List Value → Prop
  | nil : ClsDs [] []
  | cons {d : D} {u : Value} {ds : List D} {us : List Value} (h : ClsD d u) (r : ClsDs ds us) : ClsDs (d :: ds) (u :: us)
theorem ClsDs.v {K : PySem.W.Frag} {S : Hp} : ∀ {ds : List D} {vs : List V} {us : List Value}, ClsDs ds us → Reps K S ds vs → Paired ClsV vs us
  | _, vs, _, .nil, r => by cases (show vs = [] from r); exact .nil
  | _, vs, _, .cons h t, r => by
    obtain ⟨v, r', rfl, r1, r2⟩ := r
    exact .cons (h.v r1) (ClsDs.v t r2)
/-- isinstance(x, (A, B, ..)), the tuple written there -/
def dIsiT (K : PySem.W.Frag) (te : DTE) (tr : DTA) : DTE := fun σ G Q R => te σ G (fun x G1 => tr σ G1 (fun cs G2 => cs.length ≤ sizeLine ∧ ∃ t us b, TyD K G2 x t ∧ ClsDs cs us ∧ PySem.W.kitAny K t us = some b ∧ Q (.bl b) G2) R) R
theorem de_isiT {k : Nat} (hg : Gl X "isinstance") (hm : X.mg "isinstance" = none) (he : DE X W e te) (ha : DA X W es tr)
    (hst : starEach [e, .Tuple es k p2] X.env = (false, eval e X.env) :: starEach [.Tuple es k p2] X.env := by rfl) (hst2 : starEach [.Tuple es k p2] X.env = (false, eval (.Tuple es k p2) X.env) :: starEach [] X.env := by rfl)
    (hpl : (backTo pos (starEach [.Tuple es k p2] X.env)).any (·.1) = false := by rfl) : DE X W (.Call (.Name "isinstance" p) [e, .Tuple es k p2] [] pos) (dIsiT X.K te tr) :=
  pe_imp (pe_callB call_isiT hg hm (by decide +kernel) (pa_cons he (pa_cons (pe_tup ha) pa_nil hst2) hst) (by decide) (by decide) hst hpl) fun σV H P ⟨S, σ, G, Q, R, hc, hee, ht, hx, hq⟩ => by
    refine ⟨S, σ, G, _, R, hc, hee, ht, hx, fun v H1 S1 d G1 a1 r1 q1 => ?_⟩
    refine ⟨S1, σ, G1, _, R, a1.cn, hee.up a1.sub, q1, hx.aft a1, fun vs H2 S2 cs G2 a2 r2 q2 => ?_⟩
    obtain ⟨hl, t, us, b, h1, h2, h3, q⟩ := q2
    have a12 := a1.trans a2
    refine ⟨by rw [r2.length]; exact hl, fun z hz => ?_⟩
    have a3 := a2.cn.junk (o := .tup vs) hz
    exact ⟨v, z, vs, t, us, b, rfl, upd_same, h2.v r2, h1.x a3.cn (r1.up a2.sub), h3, hq _ _ _ (.bl b) _ (a12.trans a3) rfl q⟩

/-! ### methods of built-in types -/
abbrev DMo := D → List D → GS → DK → Prop
def MtI (K : PySem.W.Frag) (r : V → List V → Hp → VK → Prop) (o : DMo) : Prop := ∀ S G H x xs v vs Q (P : VK), Cn K S G H → Rep K S x v → Reps K S xs vs → o x xs G Q → (∀ w H' S' d G', Aft K S G H S' G' H' → Rep K S' d w → Q d G' → P w H') → r v vs H P
def MtD (Y : Cx) (id : String) (o : DMo) : Prop := ∃ r, MtR Y id r ∧ MtI Y.K r o
theorem MtD.mk {id : String} {r : V → List V → Hp → VK → Prop} {o : DMo} (h : MtR X id r) (i : MtI X.K r o) : MtD X id o := ⟨r, h, i⟩
/-- of that built-in type -/
def tyM (T : String) (x : D) (G : GS) : Prop := match x with
  | .str _ => T = "str"
  | .lst _ => T = "list"
  | .ref p => (T = "list" ∧ ∃ xs, (p, Cell.lst xs) ∈ G) ∨ (T = "dict" ∧ ((∃ kvs, (p, Cell.dk kvs) ∈ G) ∨ ∃ kvs, (p, Cell.dt kvs) ∈ G))
  | _ => False
theorem tyM_v {K : PySem.W.Frag} {S : Hp} {G : GS} {H : Hp} {T : String} {x : D} {v : V} (c : Cn K S G H) (r : Rep K S x v) (h : tyM T x G) : tyV K T v H := by
  cases x <;> first | exact (show False from h).elim | skip
  · cases (show v = .str _ from r); exact h
  · cases (show v = .ref _ from r)
    rcases h with ⟨h, xs, hm⟩ | ⟨h, ⟨kvs, hm⟩ | ⟨kvs, hm⟩⟩
    · obtain ⟨vs, h1, _⟩ := c.cell _ hm
      exact .inl ⟨h, vs, SqL.of h1⟩
    · obtain ⟨vs, h1, _⟩ := c.cell _ hm
      exact .inr (.inr (.inl ⟨h, .inl ⟨vs, h1⟩⟩))
    · obtain ⟨vs, h1, _⟩ := c.cell _ hm
      exact .inr (.inr (.inl ⟨h, .inr ⟨vs, h1⟩⟩))
  · obtain ⟨a, vs, rfl, h1, _⟩ := r
    exact .inl ⟨h, vs, c.sub.l h1⟩
def dBM (T : String) (o : DMo) (to : DTE) (t : DTA) : DTE := fun σ G Q R => to σ G (fun x G1 => tyM T x G1 ∧ t σ G1 (fun ds G2 => o x ds G2 Q) R) R
variable {name : Str} {apos cpos : Pos} {T id : String} {mo : DMo}
theorem de_bm0 (pa : PlainAttrs T) (slot : Slot T name id) (hty : typeOf (.builtin id) = pure (.type "method_descriptor")) (hm : MtD X id mo) (ho : DE X W o to)
    (hbase : attributeBase o name X.env (eval o X.env) = eval o X.env := by rfl) (hline : (apos.endLine == cpos.line) = true := by rfl) : DE X W (.Call (.Attribute o name apos) [] [] cpos) (dBM T mo to dNil) := by
  obtain ⟨r, hr, i⟩ := hm
  exact pe_imp (pe_bm0 pa slot hty hr ho hbase hline) fun σV H P ⟨S, σ, G, Q, R, hc, hee, ht, hx, hq⟩ => by
    refine ⟨S, σ, G, _, R, hc, hee, ht, hx, fun v H1 S1 d G1 a1 r1 q1 => ⟨tyM_v a1.cn r1 q1.1, ?_⟩⟩
    exact i S1 G1 H1 d [] v [] Q _ a1.cn r1 Reps.nil q1.2 fun w H2 S2 d2 G2 a2 r2 q2 => hq w H2 S2 d2 G2 (a1.trans a2) r2 q2
theorem de_bm (pa : PlainAttrs T) (slot : Slot T name id) (hty : typeOf (.builtin id) = pure (.type "method_descriptor")) (hm : MtD X id mo) (ho : DE X W o to) (ha : DA X W (e :: es) t)
    (hbase : attributeBase o name X.env (eval o X.env) = eval o X.env := by rfl)
    (hfew : ((backTo cpos (starEach (e :: es) X.env)).all (fun x => !x.1) && (backToKw cpos (keywordEach [] X.env)).all (fun x => x.1.isSome)
      && decide ((e :: es).length + ([] : List Keyword).length + (if ([] : List Keyword).isEmpty then 0 else 1) < 30)) = true := by rfl)
    (hline : (apos.endLine == cpos.line) = true := by rfl) (hs : starEach (e :: es) X.env = (false, eval e X.env) :: starEach es X.env := by rfl) (hplain : (backTo cpos (starEach es X.env)).any (·.1) = false := by rfl) :
    DE X W (.Call (.Attribute o name apos) (e :: es) [] cpos) (dBM T mo to t) := by
  obtain ⟨r, hr, i⟩ := hm
  exact pe_imp (pe_bm pa slot hty hr ho ha hbase hfew hline hs hplain) fun σV H P ⟨S, σ, G, Q, R, hc, hee, ht, hx, hq⟩ => by
    refine ⟨S, σ, G, _, R, hc, hee, ht, hx, fun v H1 S1 d G1 a1 r1 q1 => ⟨tyM_v a1.cn r1 q1.1, ?_⟩⟩
    refine ⟨S1, σ, G1, _, R, a1.cn, hee.up a1.sub, q1.2, hx.aft a1, fun vs H2 S2 ds G2 a2 r2 q2 => ?_⟩
    exact i S2 G2 H2 d ds v vs Q _ a2.cn (r1.up a2.sub) r2 q2 fun w H3 S3 d3 G3 a3 r3 q3 => hq w H3 S3 d3 G3 ((a1.trans a2).trans a3) r3 q3
/-- a list that may change, the n-th cell -/
def cellL (x : D) (G : GS) (Z : Nat → Addr → List D → Prop) : Prop := ∃ p n xs, x = .ref p ∧ G[n]? = some (p, Cell.lst xs) ∧ Z n p xs
def mAppend : DMo := fun x ds G Q => match ds with | [y] => cellL x G fun n p xs => xs.length < sizeLine ∧ Q .non (G.set n (p, .lst (xs ++ [y]))) | _ => False
theorem md_append : MtD X "list.append" mAppend :=
  MtD.mk mt_append fun S G H x xs v vs Q P hc rx rs ho hq => by
    unfold mAppend at ho
    split at ho
    · obtain ⟨w, r', rfl, r1, rfl⟩ := rs
      obtain ⟨p, n, xs, rfl, hn, hl, q⟩ := ho
      cases (show v = .ref p from rx)
      obtain ⟨us, h1, r2⟩ := hc.cell _ (List.mem_of_getElem? hn)
      refine ⟨p, us, w, rfl, rfl, h1, by rw [r2.length]; exact hl, ?_⟩
      exact hq _ _ _ .non _ (hc.write (k' := .lst _) (o := .lst _) hn ⟨us ++ [w], upd_same, r2.app (Reps.cons r1 Reps.nil)⟩) rfl q
    · exact ho.elim
def mReverse : DMo := fun x ds G Q => ds = [] ∧ cellL x G fun n p xs => Q .non (G.set n (p, .lst xs.reverse))
theorem md_reverse : MtD X "list.reverse" mReverse :=
  MtD.mk mt_reverse fun S G H x xs v vs Q P hc rx rs ho hq => by
    obtain ⟨rfl, p, n, xs, rfl, hn, q⟩ := ho
    cases (show vs = [] from rs)
    cases (show v = .ref p from rx)
    obtain ⟨us, h1, r2⟩ := hc.cell _ (List.mem_of_getElem? hn)
    refine ⟨p, us, rfl, rfl, h1, ?_⟩
    exact hq _ _ _ .non _ (hc.write (k' := .lst _) (o := .lst _) hn ⟨us.reverse, upd_same, r2.rev⟩) rfl q
def mClear : DMo := fun x ds G Q => ds = [] ∧ cellL x G fun n p xs => Q .non (G.set n (p, .lst []))
theorem md_clear : MtD X "list.clear" mClear :=
  MtD.mk mt_clear fun S G H x xs v vs Q P hc rx rs ho hq => by
    obtain ⟨rfl, p, n, xs, rfl, hn, q⟩ := ho
    cases (show vs = [] from rs)
    cases (show v = .ref p from rx)
    obtain ⟨us, h1, r2⟩ := hc.cell _ (List.mem_of_getElem? hn)
    refine ⟨p, us, rfl, rfl, h1, ?_⟩
    exact hq _ _ _ .non _ (hc.write (k' := .lst _) (o := .lst _) hn ⟨[], upd_same, Reps.nil⟩) rfl q
def mPopAt : DMo := fun x ds G Q => match ds with
  | [.int i] => cellL x G fun n p xs => -(2 ^ 63) ≤ i ∧ i < 2 ^ 63 ∧ ∃ k y, seqIndex? i xs.length = some k ∧ xs[k]? = some y ∧ Q y (G.set n (p, .lst (xs.eraseIdx k)))
  | _ => False
theorem md_popAt : MtD X "list.pop" mPopAt :=
  MtD.mk mt_popAt fun S G H x xs v vs Q P hc rx rs ho hq => by
    unfold mPopAt at ho
    split at ho
    · obtain ⟨w, r', rfl, r1, rfl⟩ := rs
      obtain ⟨p, n, xs, rfl, hn, hl, hu, k, y, h2, h3, q⟩ := ho
      cases (show v = .ref p from rx)
      obtain ⟨us, h1, r2⟩ := hc.cell _ (List.mem_of_getElem? hn)
      obtain ⟨z, h4, r4⟩ := r2.get' h3
      refine ⟨p, us, _, k, z, rfl, by rw [show w = V.int _ from r1], h1, hl, hu, by rw [r2.length]; exact h2, h4, ?_⟩
      exact hq _ _ _ y _ (hc.write (k' := .lst _) (o := .lst _) hn ⟨us.eraseIdx k, upd_same, r2.erase k⟩) r4 q
    · exact ho.elim
/-- methods of texts -/
def mJoin : DMo := fun x ds G Q => match x with
  | .str a => ∃ ys : List Str, (ds = [.lst (ys.map D.str)] ∨ ds = [.tup (ys.map D.str)]) ∧ (ys.map (·.length)).sum + ys.length * a.length ≤ 16777216 ∧ Q (.str (Txt.join a ys)) G
  | _ => False
theorem md_join : MtD X "str.join" mJoin :=
  MtD.mk mt_join fun S G H x xs v vs Q P hc rx rs ho hq => by
    cases x <;> first | exact (show False from ho).elim | skip
    obtain ⟨ys, h1, h2, q⟩ := ho
    cases (show v = .str _ from rx)
    rcases h1 with rfl | rfl
    · obtain ⟨w, r', rfl, r1, rfl⟩ := rs
      obtain ⟨p, us, rfl, h3, r2⟩ := r1
      cases Reps.strs.mp r2
      exact ⟨_, p, ys, rfl, rfl, .inl (hc.sub.l h3), h2, hq _ _ _ (.str _) _ hc.aft rfl q⟩
    · obtain ⟨w, r', rfl, r1, rfl⟩ := rs
      obtain ⟨p, us, rfl, h3, r2⟩ := r1
      cases Reps.strs.mp r2
      exact ⟨_, p, ys, rfl, rfl, .inr (hc.sub.t h3), h2, hq _ _ _ (.str _) _ hc.aft rfl q⟩
def mUpper : DMo := fun x ds G Q => match x, ds with | .str a, [] => a.length ≤ 5592405 ∧ Q (.str (Txt.upper a)) G | _, _ => False
theorem md_upper : MtD X "str.upper" mUpper :=
  MtD.mk mt_upper fun S G H x xs v vs Q P hc rx rs ho hq => by
    unfold mUpper at ho
    split at ho
    · cases (show v = .str _ from rx)
      cases (show vs = [] from rs)
      exact ⟨_, rfl, rfl, ho.1, hq _ _ _ (.str _) _ hc.aft rfl ho.2⟩
    · exact ho.elim
def mLower : DMo := fun x ds G Q => match x, ds with | .str a, [] => a.length ≤ 5592405 ∧ Q (.str (Txt.lower a)) G | _, _ => False
theorem md_lower : MtD X "str.lower" mLower :=
  MtD.mk mt_lower fun S G H x xs v vs Q P hc rx rs ho hq => by
    unfold mLower at ho
    split at ho
    · cases (show v = .str _ from rx)
      cases (show vs = [] from rs)
      exact ⟨_, rfl, rfl, ho.1, hq _ _ _ (.str _) _ hc.aft rfl ho.2⟩
    · exact ho.elim

/-! ### and, or, not as values, by truth -/
def truQ (x : D) (Q : Bool → Prop) : Prop := match x with
  | .non => Q false
  | .bl b => Q b
  | .int i => Q (i != 0)
  | .str y => y.length ≤ sizeLine ∧ Q ((y.length : Int) != 0)
  | .lst xs => Q (!xs.isEmpty)
  | .tup xs => Q (!xs.isEmpty)
  | _ => False
theorem isEmpty_len {α β : Type} {a : List α} {b : List β} (h : a.length = b.length) : a.isEmpty = b.isEmpty := by
  cases a <;> cases b <;> simp at h <;> rfl
theorem truQ_v {K : PySem.W.Frag} {S : Hp} {G : GS} {H : Hp} {x : D} {v : V} {Q : Bool → Prop} (c : Cn K S G H) (r : Rep K S x v) (h : truQ x Q) : ∃ k, TruV K v H k ∧ Q k := by
  cases x <;> first | exact (show False from h).elim | skip
  · cases (show v = .non from r); exact ⟨false, rfl, h⟩
  · cases (show v = .bl _ from r); exact ⟨_, rfl, h⟩
  · cases (show v = .int _ from r); exact ⟨_, rfl, h⟩
  · cases (show v = .str _ from r); exact ⟨_, ⟨h.1, rfl⟩, h.2⟩
  · obtain ⟨a, vs, rfl, h1, r1⟩ := r
    exact ⟨_, .inr (.inl ⟨vs, c.sub.t h1, (by rw [isEmpty_len r1.length])⟩), h⟩
  · obtain ⟨a, vs, rfl, h1, r1⟩ := r
    exact ⟨_, .inl ⟨vs, c.sub.l h1, (by rw [isEmpty_len r1.length])⟩, h⟩
def dOrT (ta tb : DTE) : DTE := fun σ G Q R => ta σ G (fun x G1 => truQ x fun k => if k = true then Q x G1 else tb σ G1 Q R) R
def dAndT (ta tb : DTE) : DTE := fun σ G Q R => ta σ G (fun x G1 => truQ x fun k => if k = true then tb σ G1 Q R else Q x G1) R
def dNotT (ta : DTE) : DTE := fun σ G Q R => ta σ G (fun x G1 => truQ x fun k => Q (.bl (!k)) G1) R
def dTru (te : DTE) : DTT := fun σ G Q R => te σ G (fun x G1 => truQ x fun k => Q k G1) R
variable {rest : List Expr}
theorem de_one {op : BoolOp} (h : DE X W a ta) : DE X W (.BoolOp op [a] pos) ta := pe_one h
theorem de_orT (ha : DE X W a ta) (hb : DE X W (.BoolOp .Or (b :: rest) pos) tb) : DE X W (.BoolOp .Or (a :: b :: rest) pos) (dOrT ta tb) :=
  pe_imp (pe_orT ha hb) fun σV H P ⟨S, σ, G, Q, R, hc, hee, ht, hx, hq⟩ => by
    refine ⟨S, σ, G, _, R, hc, hee, ht, hx, fun v H1 S1 d G1 a1 r1 q1 => ?_⟩
    obtain ⟨k, h1, q⟩ := truQ_v a1.cn r1 q1
    refine ⟨k, h1, ?_⟩
    cases k with
    | true => exact hq v H1 S1 d G1 a1 r1 q
    | false => exact ⟨S1, σ, G1, _, R, a1.cn, hee.up a1.sub, q, hx.aft a1, fun v2 H2 S2 d2 G2 a2 r2 q2 => hq v2 H2 S2 d2 G2 (a1.trans a2) r2 q2⟩
theorem de_andT (ha : DE X W a ta) (hb : DE X W (.BoolOp .And (b :: rest) pos) tb) : DE X W (.BoolOp .And (a :: b :: rest) pos) (dAndT ta tb) :=
  pe_imp (pe_andT ha hb) fun σV H P ⟨S, σ, G, Q, R, hc, hee, ht, hx, hq⟩ => by
    refine ⟨S, σ, G, _, R, hc, hee, ht, hx, fun v H1 S1 d G1 a1 r1 q1 => ?_⟩
    obtain ⟨k, h1, q⟩ := truQ_v a1.cn r1 q1
    refine ⟨k, h1, ?_⟩
    cases k with
    | false => exact hq v H1 S1 d G1 a1 r1 q
    | true => exact ⟨S1, σ, G1, _, R, a1.cn, hee.up a1.sub, q, hx.aft a1, fun v2 H2 S2 d2 G2 a2 r2 q2 => hq v2 H2 S2 d2 G2 (a1.trans a2) r2 q2⟩
theorem de_notT (ha : DE X W a ta) : DE X W (.UnaryOp .Not a pos) (dNotT ta) :=
  pe_imp (pe_notT ha) fun σV H P ⟨S, σ, G, Q, R, hc, hee, ht, hx, hq⟩ => by
    refine ⟨S, σ, G, _, R, hc, hee, ht, hx, fun v H1 S1 d G1 a1 r1 q1 => ?_⟩
    obtain ⟨k, h1, q⟩ := truQ_v a1.cn r1 q1
    exact ⟨k, h1, hq _ H1 S1 (.bl _) G1 a1 rfl q⟩
/-- a test by its value's truth -/
theorem dt_tru (he : DE X W e te) (hp : ∀ whole, isTrue e X.env whole = (do let v ← whole; standAt e.pos; holding [v] (truthy v)) := by intro _; rfl) : DT X W e (dTru te) :=
  pt_imp (pt_truth he hp) fun σV H P ⟨S, σ, G, Q, R, hc, hee, ht, hx, hq⟩ => by
    refine ⟨S, σ, G, _, R, hc, hee, ht, hx, fun v H1 S1 d G1 a1 r1 q1 => ?_⟩
    obtain ⟨k, h1, q⟩ := truQ_v a1.cn r1 q1
    exact ⟨k, h1, hq k H1 S1 G1 a1 q⟩
end
end DL
set_option Elab.async false
set_option linter.all false
set_option maxRecDepth 100000
set_option maxHeartbeats 4000000
namespace DL
open PySem PyProof.Rows L2
section
variable {X : Cx} {W : WX} {a b c e o : Expr} {es : List Expr} {ta tb tc te to : DTE} {t tr : DTA} {pos p p2 : Pos}
/-- the name in the i-th slot -/
theorem dv (i : Nat) {x : Str} {pos : Pos} (hN : X.N[i]? = some x := by rfl) (hv : Vis X.env.scope x := by first | exact Or.inl rfl | exact Or.inr (Or.inl rfl) | exact Or.inr (Or.inr rfl)) (hd : (x == ("__debug__" : Str)) = false := by decide)
    (hcd : (x == ("__classdict__" : Str)) = false := by decide) : DE X W (.Name x pos) (dName i) := de_name hN hv hd hcd
theorem de_globE {x : Str} {v : V} {d : D} {pos : Pos} (hg : Gl X x) (hm : ∃ u, X.mg x = some u ∧ RelV v u) (q : ∀ S, Rep X.K S d v) (hd : (x == ("__debug__" : Str)) = false := by decide) : DE X W (.Name x pos) (dC d) := by
  obtain ⟨u, h1, h2⟩ := hm
  exact de_glob hg h1 h2 q hd
/-- a built-in class as a value -/
theorem de_ty {x : Str} {n : String} {pos : Pos} (hg : Gl X x) (hm : X.mg x = none) (hv : bootBuiltins x = some (.type n)) (hn : x ≠ "__name__" := by decide) (hd : (x == ("__debug__" : Str)) = false := by decide) : DE X W (.Name x pos) (dC (.ty n)) :=
  de_bltn hg hm hv (v := .ty n) rfl (fun _ => rfl) hn hd
/-- a class or a def of the text as a value -/
theorem de_ref {x : Str} {C : Addr} {pos : Pos} (hg : Gl X x) (hm : X.mg x = some (.ref C)) (hd : (x == ("__debug__" : Str)) = false := by decide) : DE X W (.Name x pos) (dC (.ref C)) :=
  de_glob hg hm (v := .ref C) rfl (fun _ => rfl) hd
theorem bt_int : bootBuiltins "int" = some (.type "int") := by decide +kernel
theorem bt_str : bootBuiltins "str" = some (.type "str") := by decide +kernel
theorem bt_bool : bootBuiltins "bool" = some (.type "bool") := by decide +kernel
theorem bt_list : bootBuiltins "list" = some (.type "list") := by decide +kernel
theorem bt_tuple : bootBuiltins "tuple" = some (.type "tuple") := by decide +kernel
theorem bt_dict : bootBuiltins "dict" = some (.type "dict") := by decide +kernel
theorem bt_len : bootBuiltins "len" = some (.builtin "len") := by decide +kernel
theorem bt_isinstance : bootBuiltins "isinstance" = some (.builtin "isinstance") := by decide +kernel
theorem bt_abs : bootBuiltins "abs" = some (.builtin "abs") := by decide +kernel
theorem bt_max : bootBuiltins "max" = some (.builtin "max") := by decide +kernel
theorem bt_min : bootBuiltins "min" = some (.builtin "min") := by decide +kernel
theorem bt_all : bootBuiltins "all" = some (.builtin "all") := by decide +kernel
theorem bt_any : bootBuiltins "any" = some (.builtin "any") := by decide +kernel
/-- the unary minus -/
def dNeg (ta : DTE) : DTE := fun σ G Q R => ta σ G (fun d G1 => match d with | .int i => Q (.int (-i)) G1 | _ => False) R
theorem de_neg (ha : DE X W a ta) : DE X W (.UnaryOp .USub a pos) (dNeg ta) :=
  pe_imp (pe_un un_neg ha) fun σV H P ⟨S, σ, G, Q, R, hc, hee, ht, hx, hq⟩ => by
    refine ⟨S, σ, G, _, R, hc, hee, ht, hx, fun v H1 S1 d G1 a1 r1 q1 => ?_⟩
    cases d <;> first | exact (show False from q1).elim | skip
    exact ⟨_, r1, hq _ H1 S1 (.int _) G1 a1 rfl q1⟩
/-- isinstance of built-in classes, shown by two names -/
theorem kit_b {K : PySem.W.Frag} {a b : String} {r : Bool} (h : kitB a b = some r) : PySem.W.kitOne K (.type a) (.type b) = some r := kit_ty h
end
/-- name = a while -/
def dWhile (c : DTT) (tb : DTS) : DTS := fun N R σ G => ∃ (I : Ev → GS → Prop) (m : Ev → GS → Nat), I σ G ∧ ∀ σ G, I σ G → c σ G (fun k G1 => if k = true then tb { N with nx := Gh (fun σ' G' => I σ' G' ∧ m σ' G' < m σ G), ct := Gh (fun σ' G' => I σ' G' ∧ m σ' G' < m σ G), bk := N.nx } R σ G1 else N.nx σ G1) R
section
variable {X : Cx} {W : WX} {c : Expr} {body : List Stmt} {tc : DTT} {tb : DTS} {pos : Pos}
theorem ds_while (hp : PassesOwn (model X.prog X.w) X.A X.env X.xe) (hc : DT X W c tc) (hb : DSs X W body tb) : DS X W (.While c body [] pos) (dWhile tc tb) :=
  ps_imp (ps_while hp hc hb) fun D σV H ⟨S, σ, G, N, R, hcn, hee, ht, hx, hq⟩ => by
    obtain ⟨I, m, h0, hs⟩ := ht
    refine ⟨fun k σV2 H2 => ∃ S2 σ2 G2, Aft X.K S G H S2 G2 H2 ∧ EnvR X.K S2 σ2 σV2 ∧ I σ2 G2 ∧ k = m σ2 G2, ⟨_, S, σ, G, hcn.aft, hee, h0, rfl⟩, ?_⟩
    rintro k σV2 H2 ⟨S2, σ2, G2, a2, e2, h2, rfl⟩
    refine ⟨S2, σ2, G2, _, R, a2.cn, e2, hs σ2 G2 h2, hx.aft a2, fun b H3 S3 G3 a3 q3 => ?_⟩
    have a23 := a2.trans a3
    cases b with
    | false => exact hq.nx σV2 H3 S3 σ2 G3 a23 (e2.up a3.sub) q3
    | true =>
      refine ⟨fun σV4 H4 => ∃ S4 σ4 G4, Aft X.K S G H S4 G4 H4 ∧ EnvR X.K S4 σ4 σV4 ∧ I σ4 G4 ∧ m σ4 G4 < m σ2 G2, fun σV4 H4 ⟨S4, σ4, G4, a4, e4, h4, l4⟩ => ⟨_, l4, S4, σ4, G4, a4, e4, h4, rfl⟩, ?_⟩
      refine ⟨S3, σ2, G3, _, R, a3.cn, e2.up a3.sub, q3, hx.aft a23, ⟨fun σV4 H4 S4 σ4 G4 a4 e4 n => ?_, fun v H4 S4 d4 G4 a4 r4 n => hq.rt v H4 S4 d4 G4 (a23.trans a4) r4 n, fun σV4 H4 S4 σ4 G4 a4 e4 n => hq.nx σV4 H4 S4 σ4 G4 (a23.trans a4) e4 n, fun σV4 H4 S4 σ4 G4 a4 e4 n => ?_⟩⟩
      · obtain ⟨S6, σ6, G6, a6, e6, z6⟩ := n.go a4.cn e4
        exact ⟨S6, σ6, G6, (a23.trans a4).trans a6, e6, z6.1, z6.2⟩
      · obtain ⟨S6, σ6, G6, a6, e6, z6⟩ := n.go a4.cn e4
        exact ⟨S6, σ6, G6, (a23.trans a4).trans a6, e6, z6.1, z6.2⟩
end
end DL
set_option Elab.async false
set_option linter.all false
set_option maxRecDepth 100000
set_option maxHeartbeats 4000000
namespace DL
open PySem PyProof.Rows L2
section
variable {P : Program} {w : World} {K : PySem.W.Frag} {mg : Str → Option Value} {base : Heap}
/-- THE RULE for a def, with its defaults -/
theorem okF {x qual : Str} {st : Stmt} {dvs : List V} {kws : List (Str × V)} {f : Addr} {fd : FuncData} {N ps : List Str} {k : Nat} {sp : DSp} (F : FunD K x qual (defArgs st) (defBody st) (defScope st) dvs kws f fd) (S : FnScope N ps (defScope st)) (len : ∀ ds G Q E, sp ds G Q E → ds.length = ps.length)
    (hbody : ∀ (cdv : Value) (A : Around) (outer : List Env) (s : Shared) (H : Hp) (E : XK), RoomG k (A.deeper (envOfC qual (defScope st) s.heap.objs.size f cdv)) → Takes (cxOf (L2.CX P w) P w K mg base N qual (defScope st) f cdv A outer s H E) (wE E) →
      ∃ t, DSs (cxOf (L2.CX P w) P w K mg base N qual (defScope st) f cdv A outer s H E) (wE E) (defBody st) t ∧
        ∀ ds G Q ED, sp ds G Q ED → t { nx := fun _ G' => GhV Q .non G', rt := GhV Q } (fun cls fs _ G' => ED cls fs G') (dstart N ds) G) : FnD P w K mg base (k + 1) f fd ps sp := by
  refine F.okG S (fun vs H Q E ⟨S0, G, ds, QD, ED, a, b, c, d⟩ => by rw [b.length]; exact len _ _ _ _ c) (fun cdv A outer s H vs Q E hr h => ?_)
  have tk : Takes (cxOf (L2.CX P w) P w K mg base N qual (defScope st) f cdv A outer s H E) (wE E) := takes_of rfl rfl rfl rfl
  obtain ⟨t, hd, ht⟩ := hbody cdv A outer s H E hr tk
  obtain ⟨S0, G, ds, QD, ED, a, b, c, d, e⟩ := h
  refine ⟨_, hd, S0, dstart N ds, G, _, _, a, env_start b, ht ds G QD ED c, fun cls dx σV' H' S' σ' fs G' af er xr xn r => e cls dx H' S' fs G' af xr xn r, ⟨fun σV' H' S' σ' G' af er n => ?_, fun v H' S' d' G' af r n => ?_, fun σV' H' S' σ' G' af er n => n.elim, fun σV' H' S' σ' G' af er n => n.elim⟩⟩
  · obtain ⟨S2, d2, G2, a2, r2, q2⟩ := n.go (v := .non) af.cn rfl
    exact d .non H' S2 d2 G2 (af.trans a2) r2 q2
  · obtain ⟨S2, d2, G2, a2, r2, q2⟩ := n.go af.cn r
    exact d v H' S2 d2 G2 (af.trans a2) r2 q2
/-- what is known of a def that may be called: its promise, its defaults -/
structure Pm (P : Program) (w : World) (K : PySem.W.Frag) (mg : Str → Option Value) (base : Heap) (k : Nat) (f : Addr) (ps : List Str) (dv : List D) (sp : DSp) : Prop where
  ex : ∃ fd, FnD P w K mg base k f fd ps sp ∧ ∀ j, j ≤ dv.length → ∃ dvs ds, Binds K fd ps ds ∧ Dfl K (dv.drop j) dvs ds
  kp : PySem.W.keepIn K (.ref f) = true
theorem Pm.mk0 {x qual : Str} {st : Stmt} {kws : List (Str × V)} {f : Addr} {fd : FuncData} {ps : List Str} {k : Nat} {sp : DSp} (F : FunD K x qual (defArgs st) (defBody st) (defScope st) [] kws f fd) (h : FnD P w K mg base k f fd ps sp)
    (hb : ∀ (kV doc pm : Value) (an : Option Addr) (cdv ct : Value) (us : List Value), us.length = ps.length → bindArgs (PySem.W.fnOf x qual (defArgs st) (defBody st) (defScope st) .none kV doc pm an cdv ct) ⟨us, []⟩ = pure (ps.zip us)) : Pm P w K mg base k f ps [] sp :=
  ⟨⟨fd, h, fun j hj => ⟨[], [], F.bindsN hb, by simpa using Dfl.nil⟩⟩, F.kp⟩
theorem Pm.mkD {x qual : Str} {st : Stmt} {dvs : List V} {kws : List (Str × V)} {f : Addr} {fd : FuncData} {ps : List Str} {k : Nat} {sp : DSp} {dv : List D} (F : FunD K x qual (defArgs st) (defBody st) (defScope st) dvs kws f fd) (h : FnD P w K mg base k f fd ps sp) (hd : dvs ≠ []) (hl : dv.length = dvs.length)
    (hr : ∀ S, Reps K S dv dvs)
    (hb : ∀ j, j ≤ dv.length → ∃ n, n + (dvs.length - j) = ps.length ∧ ∀ (T : Addr) (kV doc pm : Value) (an : Option Addr) (cdv ct : Value) (us its : List Value), us.length = n → its.length = dvs.length →
      ∃ k, bindArgs (PySem.W.fnOf x qual (defArgs st) (defBody st) (defScope st) (.ref T) kV doc pm an cdv ct) ⟨us, []⟩ = seqItems? (.ref T) >>= k ∧ k (some its.toArray) = pure (ps.zip (us ++ its.drop j))) : Pm P w K mg base k f ps dv sp :=
  ⟨⟨fd, h, fun j hj => by
    obtain ⟨n, hn, hh⟩ := hb j hj
    obtain ⟨ds, h1, h2⟩ := F.binds1 n j hd hn hh
    exact ⟨dvs.drop j, ds, h2, ⟨fun S => (hr S).drop j, h1⟩⟩⟩, F.kp⟩
theorem Pm.imp {f : Addr} {ps : List Str} {k : Nat} {sp sp' : DSp} {dv : List D} (p : Pm P w K mg base k f ps dv sp) (h : ∀ ds G Q E, sp' ds G Q E → sp ds G Q E) : Pm P w K mg base k f ps dv sp' := by
  obtain ⟨fd, h1, h2⟩ := p.ex
  exact ⟨⟨fd, h1.imp h, h2⟩, p.kp⟩
end
section
variable {X : Cx} {W : WX} {k : Nat} {f : Addr} {ps : List Str} {sp : DSp} {x : Str} {p pos : Pos} {e : Expr} {es : List Expr} {t : DTA} {dv : List D}
theorem de_callP (F : Pm X.prog X.w X.K X.mg X.base k f ps dv sp) (j : Nat) (hr : RoomG k X.A) (hg : Gl X x) (hm : X.mg x = some (.ref f)) (tk : Takes X W) (ha : DA X W (e :: es) t) (hj : j ≤ dv.length := by decide)
    (hdb : (x == ("__debug__" : Str)) = false := by decide) (he : starEach (e :: es) X.env = (false, eval e X.env) :: starEach es X.env := by rfl) (hpl : (backTo pos (starEach es X.env)).any (·.1) = false := by rfl) :
    DE X W (.Call (.Name x p) (e :: es) [] pos) (dCall sp t (dv.drop j)) := by
  obtain ⟨fd, h1, h2⟩ := F.ex
  obtain ⟨dvs, ds, h3, h4⟩ := h2 j hj
  exact de_callD h1 hr hg hm F.kp h3 h4 tk ha hdb he hpl
theorem de_callP0 (F : Pm X.prog X.w X.K X.mg X.base k f ps dv sp) (hr : RoomG k X.A) (hg : Gl X x) (hm : X.mg x = some (.ref f)) (tk : Takes X W) (hdb : (x == ("__debug__" : Str)) = false := by decide) :
    DE X W (.Call (.Name x p) [] [] pos) (dCall sp dNil dv) := by
  obtain ⟨fd, h1, h2⟩ := F.ex
  obtain ⟨dvs, ds, h3, h4⟩ := h2 0 (Nat.zero_le _)
  exact de_callD0 h1 hr hg hm F.kp h3 h4 tk hdb
end
end DL
set_option Elab.async false
set_option linter.all false
set_option maxRecDepth 100000
set_option maxHeartbeats 4000000
namespace DL
open PySem PyProof.Rows L2
/-! ### dict displays with keys ints and texts -/
def keyD : D → Option Key
  | .int i => some (.inl i)
  | .str x => some (.inr x)
  | _ => none
theorem keyD_v {K : PySem.W.Frag} {S : Hp} {d : D} {v : V} {k : Key} (r : Rep K S d v) (h : keyD d = some k) : v = kV k := by
  cases d <;> first | (cases h; done) | skip
  · cases h; cases (show v = _ from r); rfl
  · cases h; cases (show v = _ from r); rfl
theorem mergeK_nd : ∀ {more acc : List (Key × V)}, ((acc ++ more).map (·.1)).Nodup → mergeK acc more = acc ++ more := by
  intro more
  induction more with
  | nil => intro acc _; simp [mergeK]
  | cons p r ih =>
    intro acc h
    have hp : (acc.any fun kv => decide (kv.1 = p.1)) = false := by
      rw [Bool.eq_false_iff]
      intro z
      obtain ⟨q, hq, e⟩ := List.any_eq_true.mp z
      have e := of_decide_eq_true e
      rw [List.map_append, List.nodup_append] at h
      exact h.2.2 q.1 (List.mem_map_of_mem hq) p.1 (by simp) e
    have e1 : putK acc p.1 p.2 = acc ++ [p] := by unfold putK; rw [if_neg (by rw [hp]; decide)]
    show mergeK (putK acc p.1 p.2) r = _
    rw [e1, ih (by simpa using h)]
    simp
def dPairs : List (DTE × DTE) → Ev → GS → (List (D × D) → GS → Prop) → DXK → Prop
  | [], _, G, Q, _ => Q [] G
  | (tk, tv) :: r, σ, G, Q, R => tk σ G (fun x G1 => tv σ G1 (fun y G2 => dPairs r σ G2 (fun ps G3 => Q ((x, y) :: ps) G3) R) R) R
abbrev DPPs (X : Cx) (W : WX) (pos : Pos) (keys : List (Option Expr)) (values : List Expr) (trs : List (DTE × DTE)) : Prop := PPs X pos keys values (trs.map fun p => (liftE X.K W p.1, liftE X.K W p.2))
section
variable {X : Cx} {W : WX} {pos : Pos} {k v : Expr} {keys : List (Option Expr)} {values : List Expr} {trs : List (DTE × DTE)} {tk tv : DTE}
theorem dpp_nil : DPPs X W pos [] [] [] := pps_nil
theorem dpp_cons (hk : DE X W k tk) (hv : DE X W v tv) (hr : DPPs X W pos keys values trs) : DPPs X W pos (some k :: keys) (v :: values) ((tk, tv) :: trs) := pps_cons hk hv hr
theorem pairs_run {R : DXK} {σ : Ev} {σV : L2.St} : ∀ {trs : List (DTE × DTE)} {S : Hp} {G : GS} {H : Hp} {Q : List (D × D) → GS → Prop} {P : List (V × V) → Hp → Prop}, Cn X.K S G H → EnvR X.K S σ σV → XOk X.K W S G H R → dPairs trs σ G Q R →
    (∀ ps ds H' S' G', Aft X.K S G H S' G' H' → Reps X.K S' (ds.map (·.1)) (ps.map (·.1)) → Reps X.K S' (ds.map (·.2)) (ps.map (·.2)) → ds.length = trs.length → Q ds G' → P ps H') → tPairs (trs.map fun p => (liftE X.K W p.1, liftE X.K W p.2)) σV H P
  | [], S, G, H, Q, P, c, e, x, h, q => q [] [] H S G c.aft rfl rfl rfl h
  | (tk, tv) :: r, S, G, H, Q, P, c, e, x, h, q => by
    refine ⟨S, σ, G, _, R, c, e, h, x, fun u H1 S1 d1 G1 a1 r1 h1 => ?_⟩
    refine ⟨S1, σ, G1, _, R, a1.cn, e.up a1.sub, h1, x.aft a1, fun u2 H2 S2 d2 G2 a2 r2 h2 => ?_⟩
    have a12 := a1.trans a2
    refine pairs_run a2.cn (e.up a12.sub) (x.aft a12) h2 fun ps ds H3 S3 G3 a3 k1 k2 kl h3 => ?_
    exact q ((u, u2) :: ps) ((d1, d2) :: ds) H3 S3 G3 (a12.trans a3) (Reps.cons ((r1.up a2.sub).up a3.sub) k1) (Reps.cons (r2.up a3.sub) k2) (congrArg Nat.succ kl) h3
theorem keysD_v {K : PySem.W.Frag} {S : Hp} : ∀ {ds : List (D × D)} {ps : List (V × V)} {ks : List Key}, Reps K S (ds.map (·.1)) (ps.map (·.1)) → ds.map (fun p => keyD p.1) = ks.map some → ps.map (·.1) = ks.map kV
  | [], ps, ks, r, h => by
    have : ps = [] := by simpa using (show ps.map (·.1) = [] from r)
    subst this
    cases ks with
    | nil => rfl
    | cons k ks => cases h
  | d :: ds, ps, ks, r, h => by
    obtain ⟨v, r', e, r1, r2⟩ := r
    cases ps with
    | nil => cases e
    | cons p ps =>
      cases ks with
      | nil => cases h
      | cons k ks =>
        simp only [List.map_cons, List.cons.injEq] at e h ⊢
        obtain ⟨rfl, rfl⟩ := e
        exact ⟨keyD_v r1 h.1, keysD_v r2 h.2⟩
theorem zip_kv : ∀ {ps : List (V × V)} {ks : List Key}, ps.map (·.1) = ks.map kV → ps = (ks.zip (ps.map (·.2))).map (fun kv => (kV kv.1, kv.2))
  | [], [], _ => rfl
  | [], _ :: _, h => by cases h
  | _ :: _, [], h => by cases h
  | p :: ps, k :: ks, h => by
    simp only [List.map_cons, List.cons.injEq] at h
    simp only [List.map_cons, List.zip_cons_cons, List.cons.injEq]
    exact ⟨by rw [← h.1], zip_kv h.2⟩
/-- the keys of a display -/
def dDisp (trs : List (DTE × DTE)) : DTE := fun σ G Q R => dPairs trs σ G (fun ds G1 => ∃ ks : List Key, ds.map (fun p => keyD p.1) = ks.map some ∧ ks.Nodup ∧ Q (.dic ks (ds.map (·.2))) G1) R
def dDispM (trs : List (DTE × DTE)) : DTE := fun σ G Q R => dPairs trs σ G (fun ds G1 => ∃ ks : List Key, ds.map (fun p => keyD p.1) = ks.map some ∧ ks.Nodup ∧ ∀ p, p ∉ keysG G1 → Q (.ref p) (G1 ++ [(p, .dk (ks.zip (ds.map (·.2))))])) R
theorem disp_imp {Z : List Key → List DL.D → GS → DK → Prop} {σV : L2.St} {H : Hp} {P : VK} (h15 : trs.length ≤ 15)
    (hZ : ∀ ks ds ws S G H p Q (P : VK), Cn X.K S G H → H p = some (.dK []) → p ∉ keysG G → S p = none → ws.map (·.1) = ks → Reps X.K S ds (ws.map (·.2)) → Z ks ds G Q → (∀ S' d G', Sub S S' → Cn X.K S' G' (upd H p (.dK ws)) → (∀ a, a ≠ p → S a = none → S' a = none) → (∀ a, a ≠ p → a ∉ keysG G → a ∉ keysG G') → Rep X.K S' d (.ref p) → Q d G' → P (.ref p) (upd H p (.dK ws))) → P (.ref p) (upd H p (.dK ws)))
    (h : liftE X.K W (fun σ G Q R => dPairs trs σ G (fun ds G1 => ∃ ks : List Key, ds.map (fun p => keyD p.1) = ks.map some ∧ ks.Nodup ∧ Z ks (ds.map (·.2)) G1 Q) R) σV H P) : tDisp (trs.map fun p => (liftE X.K W p.1, liftE X.K W p.2)) σV H P := by
  obtain ⟨S, σ, G, Q, R, hc, hee, ht, hx, hq⟩ := h
  intro p hp
  have j0 := hc.junk (o := .dK []) hp
  refine pairs_run j0.cn hee (hx.aft j0) ht fun ps ds H1 S1 G1 a1 r1 r2 h3 q1 => ?_
  obtain ⟨ks, h1, h2, q⟩ := q1
  have g0 := hc.freshG hp
  obtain ⟨e1, n1⟩ := a1.stp p _ upd_same g0
  have s1 := a1.old p _ upd_same g0 (hc.freshS hp)
  have hk := keysD_v r1 h1
  have hl : ps.length = ds.length := by simpa using r2.length
  have hkl : ks.length = ds.length := by have := congrArg List.length h1; simpa using this.symm
  refine ⟨e1, ks.zip (ps.map (·.2)), zip_kv hk, by rw [List.length_zip, List.length_map, hl, hkl]; omega, ?_⟩
  have e2 : (ks.zip (ps.map (·.2))).map (·.1) = ks := by rw [List.map_fst_zip]; rw [List.length_map, hl, hkl]; exact Nat.le_refl _
  have e3 : (ks.zip (ps.map (·.2))).map (·.2) = ps.map (·.2) := by rw [List.map_snd_zip]; rw [List.length_map, hl, hkl]; exact Nat.le_refl _
  rw [mergeK_nd (by simpa [e2] using h2), List.nil_append]
  refine hZ ks _ _ S1 G1 H1 p Q P a1.cn e1 n1 s1 e2 (by rw [e3]; exact r2) q fun S' d G' s' c' m1 m2 rv q => ?_
  have b1 := j0.trans a1
  refine hq _ _ S' d G' ⟨b1.sub.trans s', c', fun a o e n => ?_, fun a o e n z => ?_, fun a h => there_upd a (b1.there a h)⟩ rv q
  · obtain ⟨f1, f2⟩ := b1.stp a o e n
    exact ⟨by rw [upd_ne (ne_of_none e hp)]; exact f1, m2 a (ne_of_none e hp) f2⟩
  · exact m1 a (ne_of_none e hp) (b1.old a o e n z)
theorem de_disp {k0 : Option Expr} (h : DPPs X W pos (k0 :: keys) values trs) (hall : (k0 :: keys).all (·.isSome) = true) (hl : (k0 :: keys).length = values.length) (h15 : (k0 :: keys).length ≤ 15) (ht : trs.length ≤ 15) : DE X W (.Dict (k0 :: keys) values pos) (dDisp trs) :=
  pe_imp (pe_disp h hall hl (by simp) h15) fun σV H P q => disp_imp (Z := fun (ks : List Key) (ds : List DL.D) (G : GS) (Q : DK) => Q (DL.D.dic ks ds) G) ht (fun ks ds ws S G H p Q P c e n s ek r q hq => by
    have sn : Sub S (upd S p (.dK ws)) := Sub.new s
    have c2 := c.junkW (o := .dK ws) s n
    refine hq (upd S p (.dK ws)) (.dic ks ds) G sn ⟨fun a u e => ?_, c2.nd, fun a ha => ?_, fun q hq => (c2.cell q hq).up sn rfl⟩ (fun a ha z => by rw [upd_ne ha]; exact z) (fun a _ m => m) ⟨p, ws, rfl, upd_same, ek, r.up sn⟩ q
    · by_cases ha : a = p
      · subst ha; rw [upd_same] at e ⊢; exact e
      · rw [upd_ne ha] at e; exact c2.sub a u e
    · rw [upd_ne (fun z => n (by rw [← z]; exact ha))]; exact c2.sep a ha) q
theorem de_dispM {k0 : Option Expr} (h : DPPs X W pos (k0 :: keys) values trs) (hall : (k0 :: keys).all (·.isSome) = true) (hl : (k0 :: keys).length = values.length) (h15 : (k0 :: keys).length ≤ 15) (ht : trs.length ≤ 15) : DE X W (.Dict (k0 :: keys) values pos) (dDispM trs) :=
  pe_imp (pe_disp h hall hl (by simp) h15) fun σV H P q => disp_imp (Z := fun (ks : List Key) (ds : List DL.D) (G : GS) (Q : DK) => ∀ p, p ∉ keysG G → Q (DL.D.ref p) (G ++ [(p, Cell.dk (ks.zip ds))])) ht (fun ks ds ws S G H p Q P c e n s ek r q hq => by
    have c2 := c.junkW (o := .dK ws) s n
    have hkl : ks.length = ds.length := by rw [← ek, List.length_map]; simpa using r.length
    refine hq S (.ref p) (G ++ [(p, .dk (ks.zip ds))]) (Sub.refl S) ⟨c2.sub, ?_, fun a ha => ?_, fun q hq => ?_⟩ (fun a _ z => z) (fun a h m z => ?_) rfl (q p n)
    · unfold keysG
      rw [List.map_append, List.nodup_append]
      refine ⟨c2.nd, by simp, fun a ha b hb => ?_⟩
      simp at hb
      subst hb
      exact fun z => n (by rw [← z]; exact ha)
    · unfold keysG at ha
      rw [List.map_append, List.mem_append] at ha
      rcases ha with ha | ha
      · exact c2.sep a ha
      · simp at ha; subst ha; exact s
    · rw [List.mem_append] at hq
      rcases hq with hq | hq
      · exact c2.cell q hq
      · simp at hq; subst hq
        refine ⟨ws, upd_same, by rw [ek, List.map_fst_zip]; rw [hkl]; exact Nat.le_refl _, by rw [List.map_snd_zip]; exact r; rw [hkl]; exact Nat.le_refl _⟩
    · unfold keysG at z
      rw [List.map_append, List.mem_append] at z
      rcases z with z | z
      · exact m z
      · simp at z; exact h z) q
end
end DL
set_option Elab.async false
set_option linter.all false
set_option maxRecDepth 100000
set_option maxHeartbeats 4000000
namespace DL
open PySem PyProof.Rows L2
/-! ### specs by the number of arguments; calls -/
def sp1 (B : D → GS → DK → DXC → Prop) : DSp := fun ds G Q E => match ds with | [a] => B a G Q E | _ => False
def sp2 (B : D → D → GS → DK → DXC → Prop) : DSp := fun ds G Q E => match ds with | [a, b] => B a b G Q E | _ => False
def sp3 (B : D → D → D → GS → DK → DXC → Prop) : DSp := fun ds G Q E => match ds with | [a, b, c] => B a b c G Q E | _ => False
def sp4 (B : D → D → D → D → GS → DK → DXC → Prop) : DSp := fun ds G Q E => match ds with | [a, b, c, d] => B a b c d G Q E | _ => False
def sp5 (B : D → D → D → D → D → GS → DK → DXC → Prop) : DSp := fun ds G Q E => match ds with | [a, b, c, d, e] => B a b c d e G Q E | _ => False
def sp6 (B : D → D → D → D → D → D → GS → DK → DXC → Prop) : DSp := fun ds G Q E => match ds with | [a, b, c, d, e, f] => B a b c d e f G Q E | _ => False
def sp7 (B : D → D → D → D → D → D → D → GS → DK → DXC → Prop) : DSp := fun ds G Q E => match ds with | [a, b, c, d, e, f, g] => B a b c d e f g G Q E | _ => False
def sp8 (B : D → D → D → D → D → D → D → D → GS → DK → DXC → Prop) : DSp := fun ds G Q E => match ds with | [a, b, c, d, e, f, g, h] => B a b c d e f g h G Q E | _ => False
theorem sp1_of {B ds G Q E} (h : sp1 B ds G Q E) : ∃ a, ds = [a] ∧ B a G Q E := by unfold sp1 at h; split at h <;> first | exact ⟨_, rfl, h⟩ | exact h.elim
theorem sp2_of {B ds G Q E} (h : sp2 B ds G Q E) : ∃ a b, ds = [a, b] ∧ B a b G Q E := by unfold sp2 at h; split at h <;> first | exact ⟨_, _, rfl, h⟩ | exact h.elim
theorem sp3_of {B ds G Q E} (h : sp3 B ds G Q E) : ∃ a b c, ds = [a, b, c] ∧ B a b c G Q E := by unfold sp3 at h; split at h <;> first | exact ⟨_, _, _, rfl, h⟩ | exact h.elim
theorem sp4_of {B ds G Q E} (h : sp4 B ds G Q E) : ∃ a b c d, ds = [a, b, c, d] ∧ B a b c d G Q E := by unfold sp4 at h; split at h <;> first | exact ⟨_, _, _, _, rfl, h⟩ | exact h.elim
theorem sp5_of {B ds G Q E} (h : sp5 B ds G Q E) : ∃ a b c d e, ds = [a, b, c, d, e] ∧ B a b c d e G Q E := by unfold sp5 at h; split at h <;> first | exact ⟨_, _, _, _, _, rfl, h⟩ | exact h.elim
theorem sp6_of {B ds G Q E} (h : sp6 B ds G Q E) : ∃ a b c d e f, ds = [a, b, c, d, e, f] ∧ B a b c d e f G Q E := by unfold sp6 at h; split at h <;> first | exact ⟨_, _, _, _, _, _, rfl, h⟩ | exact h.elim
theorem sp7_of {B ds G Q E} (h : sp7 B ds G Q E) : ∃ a b c d e f g, ds = [a, b, c, d, e, f, g] ∧ B a b c d e f g G Q E := by unfold sp7 at h; split at h <;> first | exact ⟨_, _, _, _, _, _, _, rfl, h⟩ | exact h.elim
theorem sp8_of {B ds G Q E} (h : sp8 B ds G Q E) : ∃ a b c d e f g i, ds = [a, b, c, d, e, f, g, i] ∧ B a b c d e f g i G Q E := by unfold sp8 at h; split at h <;> first | exact ⟨_, _, _, _, _, _, _, _, rfl, h⟩ | exact h.elim
theorem sp1_len {B ds G Q E} (h : sp1 B ds G Q E) : ds.length = 1 := by obtain ⟨a, rfl, _⟩ := sp1_of h; rfl
theorem sp2_len {B ds G Q E} (h : sp2 B ds G Q E) : ds.length = 2 := by obtain ⟨a, b, rfl, _⟩ := sp2_of h; rfl
theorem sp3_len {B ds G Q E} (h : sp3 B ds G Q E) : ds.length = 3 := by obtain ⟨a, b, c, rfl, _⟩ := sp3_of h; rfl
theorem sp4_len {B ds G Q E} (h : sp4 B ds G Q E) : ds.length = 4 := by obtain ⟨a, b, c, d, rfl, _⟩ := sp4_of h; rfl
theorem sp5_len {B ds G Q E} (h : sp5 B ds G Q E) : ds.length = 5 := by obtain ⟨a, b, c, d, e, rfl, _⟩ := sp5_of h; rfl
theorem sp6_len {B ds G Q E} (h : sp6 B ds G Q E) : ds.length = 6 := by obtain ⟨a, b, c, d, e, f, rfl, _⟩ := sp6_of h; rfl
theorem sp7_len {B ds G Q E} (h : sp7 B ds G Q E) : ds.length = 7 := by obtain ⟨a, b, c, d, e, f, g, rfl, _⟩ := sp7_of h; rfl
theorem sp8_len {B ds G Q E} (h : sp8 B ds G Q E) : ds.length = 8 := by obtain ⟨a, b, c, d, e, f, g, i, rfl, _⟩ := sp8_of h; rfl
/-- called with all cells -/
theorem run_all {sp : DSp} {ds : List D} {σ : Ev} {G : GS} {Q : DK} {R : DXK} (h : sp ds G Q fun cls fs G' => R cls fs σ G') : dRun sp ds σ G Q R := by
  refine ⟨G.length, ?_⟩
  simp only [List.take_length, List.drop_length, List.append_nil]
  exact h
/-- called with none -/
theorem run_none {sp : DSp} {ds : List D} {σ : Ev} {G : GS} {Q : DK} {R : DXK} (h : sp ds [] (fun d G' => Q d (G' ++ G)) fun cls fs G' => R cls fs σ (G' ++ G)) : dRun sp ds σ G Q R := ⟨0, h⟩
/-! ### types of plain data -/
def tyName : D → Option String
  | .non => some "NoneType"
  | .bl _ => some "bool"
  | .int _ => some "int"
  | .str _ => some "str"
  | .tup _ => some "tuple"
  | .lst _ => some "list"
  | .dic _ _ => some "dict"
  | .dit _ _ => some "dict"
  | _ => none
theorem tyD_of {K : PySem.W.Frag} {G : GS} {x : D} {n : String} (h : tyName x = some n) : TyD K G x (.type n) := by
  cases x <;> first | (cases h; done) | (cases h; first | exact .non | exact .bl _ | exact .int _ | exact .str _ | exact .tup _ | exact .lst _ | exact .dic _ _ | exact .dit _ _)
theorem isi_ty {K : PySem.W.Frag} {G : GS} {Q : DK} {x : D} {n c : String} {b : Bool} (h : tyName x = some n) (hk : kitB n c = some b) (q : Q (.bl b) G) : dIsi K [x, .ty c] G Q :=
  ⟨.type n, .type c, b, tyD_of h, .ty c, kit_b hk, q⟩
/-- isinstance of plain data: by the class's name -/
def isK (x : D) (c : String) : Bool := match tyName x with | some n => n == c || (n == "bool" && c == "int") | none => false
theorem isi_p {K : PySem.W.Frag} {G : GS} {Q : DK} {x : D} {n c : String} (h : tyName x = some n) (hc : ["int", "bool", "str", "tuple", "list", "dict"].contains c = true) (q : Q (.bl (isK x c)) G) : dIsi K [x, .ty c] G Q := by
  refine isi_ty h ?_ q
  have hc : c = "int" ∨ c = "bool" ∨ c = "str" ∨ c = "tuple" ∨ c = "list" ∨ c = "dict" := by simpa using hc
  unfold isK
  rw [h]
  cases x <;> first | (cases h; done) | (cases h; rcases hc with rfl | rfl | rfl | rfl | rfl | rfl <;> decide +kernel)
theorem bind_imp {c : CTg} {d : D} {σ : Ev} {P P' : Ev → Prop} (h : bindC c d σ P) (k : ∀ s, P s → P' s) : bindC c d σ P' := by
  unfold bindC at h ⊢
  cases c with
  | one i => exact k _ h
  | tup js => cases d <;> first | exact (show False from h).elim | exact ⟨h.1, k _ h.2⟩
/-! ### comprehensions that change no cell: a function of the items -/
theorem lc_map {α : Type} {vs : List Nat} {c : CTg} {te : DTE} {as : List α} {g : α → D} {ok : GS → Prop} {σ : Ev} {G1 : GS} {Z : List D → GS → Prop} (f : α → D) (hl : as.length ≤ sizeLine) (ho : ok G1)
    (hs : ∀ a ∈ as, bindC c (g a) (wipeD σ vs) fun σ2 => ∀ Q : DK, Q (f a) G1 → te σ2 G1 Q dX0) (hz : Z (as.map f) G1) : lcTurns vs c dYes te (as.map g) ok σ G1 Z := by
  refine ⟨fun i acc G => acc = (as.take i).map f ∧ G = G1, ⟨rfl, rfl⟩, fun i acc G _ h => h.2 ▸ ho, fun i d acc G hd h => ?_, fun acc G h => ?_⟩
  · obtain ⟨rfl, rfl⟩ := h
    rw [List.getElem?_map, Option.map_eq_some_iff] at hd
    obtain ⟨a, ha, rfl⟩ := hd
    have hlt := (List.getElem?_eq_some_iff.mp ha).1
    refine bind_imp (hs a (List.mem_of_getElem? ha)) fun s h => ?_
    show te s G _ dX0
    refine h _ ⟨by rw [List.length_map, List.length_take]; omega, ?_, rfl⟩
    rw [List.take_succ, ha]; simp
  · obtain ⟨rfl, rfl⟩ := h
    rw [List.length_map, List.take_length]
    exact hz
theorem lc_filter {α : Type} {vs : List Nat} {c : CTg} {tt : DTT} {te : DTE} {as : List α} {g : α → D} {ok : GS → Prop} {σ : Ev} {G1 : GS} {Z : List D → GS → Prop} (p : α → Bool) (f : α → D) (hl : as.length ≤ sizeLine) (ho : ok G1)
    (hs : ∀ a ∈ as, bindC c (g a) (wipeD σ vs) fun σ2 => (∀ Q : Bool → GS → Prop, Q (p a) G1 → tt σ2 G1 Q dX0) ∧ (p a = true → ∀ Q : DK, Q (f a) G1 → te σ2 G1 Q dX0)) (hz : Z ((as.filter p).map f) G1) : lcTurns vs c tt te (as.map g) ok σ G1 Z := by
  refine ⟨fun i acc G => acc = ((as.take i).filter p).map f ∧ G = G1, ⟨rfl, rfl⟩, fun i acc G _ h => h.2 ▸ ho, fun i d acc G hd h => ?_, fun acc G h => ?_⟩
  · obtain ⟨rfl, rfl⟩ := h
    rw [List.getElem?_map, Option.map_eq_some_iff] at hd
    obtain ⟨a, ha, rfl⟩ := hd
    have hlt := (List.getElem?_eq_some_iff.mp ha).1
    refine bind_imp (hs a (List.mem_of_getElem? ha)) fun s h => ?_
    refine h.1 _ ?_
    have e : ((as.take (i + 1)).filter p).map f = ((as.take i).filter p).map f ++ (if p a = true then [f a] else []) := by
      rw [List.take_succ, ha]
      simp only [Option.toList_some, List.filter_append, List.map_append, List.append_cancel_left_eq]
      by_cases hp : p a = true
      · simp [hp]
      · simp [hp]
    cases hp : p a with
    | false =>
      rw [hp] at e
      exact ⟨by rw [e]; simp, rfl⟩
    | true =>
      rw [hp] at e
      refine h.2 hp _ ⟨?_, by rw [e]; simp, rfl⟩
      have h1 : ((as.take i).filter p).length ≤ (as.take i).length := List.length_filter_le ..
      rw [List.length_map]
      rw [List.length_take] at h1
      omega
  · obtain ⟨rfl, rfl⟩ := h
    rw [List.length_map, List.take_length]
    exact hz
theorem all_of {α : Type} {as : List α} {f : α → Bool} {G : GS} {Q : DK} (q : Q (.bl (as.all f)) G) : dAll [.lst (as.map fun a => D.bl (f a))] G Q :=
  ⟨as.map f, by rw [List.map_map]; rfl, by rw [List.all_map]; exact q⟩
theorem any_of {α : Type} {as : List α} {f : α → Bool} {G : GS} {Q : DK} (q : Q (.bl (as.any f)) G) : dAny [.lst (as.map fun a => D.bl (f a))] G Q :=
  ⟨as.map f, by rw [List.map_map]; rfl, by rw [List.any_map]; exact q⟩
theorem in_sign {c : Nat} {z : Str} {G : GS} {Q : DK} (q : Q (.bl (decide (c ∈ z.cps.toList))) G) : dIn (.str ⟨#[c]⟩) (.str z) G Q := .inl ⟨c, z, rfl, rfl, q⟩
theorem notIn_sign {c : Nat} {z : Str} {G : GS} {Q : DK} (q : Q (.bl (!decide (c ∈ z.cps.toList))) G) : dNotIn (.str ⟨#[c]⟩) (.str z) G Q := .inl ⟨c, z, rfl, rfl, q⟩
/-! ### == of plain data -/
/-- plain data that == may look at -/
def PLd (x : D) : Prop := ∃ p, D.py x = some p ∧ SeqAt.shaped p = true
def eqd (x y : D) : Bool := match D.py x, D.py y with | some p, some q => PyData.eqv p q | _, _ => false
theorem eqSc_eqd {x y : D} {b : Bool} (h : eqSc x y = some b) : eqd x y = b := by
  cases x <;> cases y <;> first | (cases h; done) | skip
  all_goals (cases h; simp only [eqd, D.py, PyData.eqv]; try (rw [Bool.eq_iff_iff]; simp))
theorem eqd_str {a b : Str} : eqd (.str a) (.str b) = decide (a = b) := eqSc_eqd rfl
theorem eqd_int {a b : Int} : eqd (.int a) (.int b) = decide (a = b) := eqSc_eqd rfl
theorem eqd_bl {a b : Bool} : eqd (.bl a) (.bl b) = decide (a = b) := eqSc_eqd rfl
theorem eqd_non : eqd .non .non = true := eqSc_eqd rfl
theorem eq_ii {a b : Int} {G : GS} {Q : DK} : dEq (.int a) (.int b) G Q = Q (.bl (decide (a = b))) G := propext Iff.rfl
theorem eq_ss {a b : Str} {G : GS} {Q : DK} : dEq (.str a) (.str b) G Q = Q (.bl (decide (a = b))) G := propext Iff.rfl
theorem eq_bb {a b : Bool} {G : GS} {Q : DK} : dEq (.bl a) (.bl b) G Q = Q (.bl (decide (a = b))) G := propext Iff.rfl
theorem eq_nn {G : GS} {Q : DK} : dEq .non .non G Q = Q (.bl true) G := propext Iff.rfl
theorem eq_ni {a : Int} {G : GS} {Q : DK} : dEq .non (.int a) G Q = Q (.bl false) G := propext Iff.rfl
theorem eq_in {a : Int} {G : GS} {Q : DK} : dEq (.int a) .non G Q = Q (.bl false) G := propext Iff.rfl
theorem ne_ii {a b : Int} {G : GS} {Q : DK} : dNe (.int a) (.int b) G Q = Q (.bl (!decide (a = b))) G := propext Iff.rfl
theorem ne_ss {a b : Str} {G : GS} {Q : DK} : dNe (.str a) (.str b) G Q = Q (.bl (!decide (a = b))) G := propext Iff.rfl
theorem eq_pl {x y : D} {G : GS} {Q : DK} (hx : PLd x) (hy : PLd y) (q : Q (.bl (eqd x y)) G) : dEq x y G Q := by
  unfold dEq
  split
  · rename_i b hb
    rw [eqSc_eqd hb] at q
    exact q
  · obtain ⟨p, h1, h2⟩ := hx
    obtain ⟨p', h3, h4⟩ := hy
    refine ⟨p, p', .inl h1, .inl h3, h2, h4, ?_⟩
    unfold eqd at q
    rw [h1, h3] at q
    exact q
theorem ne_pl {x y : D} {G : GS} {Q : DK} (hx : PLd x) (hy : PLd y) (q : Q (.bl (!eqd x y)) G) : dNe x y G Q := by
  unfold dNe
  split
  · rename_i b hb
    rw [eqSc_eqd hb] at q
    exact q
  · obtain ⟨p, h1, h2⟩ := hx
    obtain ⟨p', h3, h4⟩ := hy
    refine ⟨p, p', .inl h1, .inl h3, h2, h4, ?_⟩
    unfold eqd at q
    rw [h1, h3] at q
    exact q
def okStr (z : Str) : Prop := PyData.canLay0 (.str z) = true
theorem pl_int {i : Int} : PLd (.int i) := ⟨.int i, rfl, by simp [SeqAt.shaped, PyData.canLay0, PyData.depth]⟩
theorem pl_bl {b : Bool} : PLd (.bl b) := ⟨.bool b, rfl, by cases b <;> decide +kernel⟩
theorem pl_non : PLd .non := ⟨.none, rfl, by decide +kernel⟩
theorem depth_str {z : Str} : (PyData.str z).depth ≤ 1 := by simp [PyData.depth]
theorem pl_str {z : Str} (h : okStr z) : PLd (.str z) := ⟨.str z, rfl, by
  unfold SeqAt.shaped
  rw [show PyData.canLay0 (.str z) = true from h, Bool.true_and, decide_eq_true_eq]
  exact Nat.le_trans depth_str (by decide)⟩
theorem pl_nil : PLd (.lst []) := ⟨.list [], rfl, by decide +kernel⟩
theorem pys_strs : ∀ zs : List Str, D.pys (zs.map D.str) = some (zs.map PyData.str)
  | [] => rfl
  | z :: zs => by simp [D.pys, D.py, pys_strs zs]
theorem pl_strs {zs : List Str} (h : ∀ z ∈ zs, okStr z) : PLd (.lst (zs.map D.str)) := by
  refine ⟨.list (zs.map .str), by simp [D.py, pys_strs], ?_⟩
  have h1 : PyData.canLayAll0 (zs.map .str) = true := by
    induction zs with
    | nil => rfl
    | cons z zs ih =>
      simp only [List.map_cons, PyData.canLayAll0, Bool.and_eq_true]
      exact ⟨h z List.mem_cons_self, ih fun y hy => h y (List.mem_cons_of_mem _ hy)⟩
  have h2 : PyData.depthAll (zs.map .str) ≤ 1 := by
    clear h h1
    induction zs with
    | nil => simp [PyData.depthAll]
    | cons z zs ih =>
      simp only [List.map_cons, PyData.depthAll]
      have := depth_str (z := z)
      omega
  unfold SeqAt.shaped
  rw [show PyData.canLay0 (.list (zs.map .str)) = true by simp only [PyData.canLay0]; exact h1, Bool.true_and, decide_eq_true_eq]
  simp only [PyData.depth]
  omega
theorem eqd_nil {xs : List D} {ps : List PyData} (h : D.pys xs = some ps) : eqd (.lst xs) (.lst []) = xs.isEmpty := by
  cases xs with
  | nil => decide +kernel
  | cons x xs =>
    unfold D.pys at h
    split at h
    · cases h
      rename_i e1 e2
      simp [eqd, D.py, D.pys, e1, e2, PyData.eqv, PyData.eqvAll]
    · cases h
end DL
set_option Elab.async false
set_option linter.all false
set_option maxRecDepth 100000
set_option maxHeartbeats 4000000
namespace DL
open PySem PyProof.Rows L2
/-! ### readings opened, case by case (all by rfl) -/
/-- a value taken apart -/
def chq (z : D) (A B : Prop) : Prop := match z with | .bl true => A | .bl false => B | _ => False
def tsq (z : D) (P : Bool → Prop) : Prop := match z with | .bl k => P k | _ => False
def ptq (z : D) (P : Int → Prop) : Prop := match z with | .int i => P i | _ => False
def itq (z : D) (G : GS) (QI : List D → (GS → Prop) → GS → Prop) : Prop := match z with
  | .lst xs => QI xs (fun _ => True) G
  | .tup xs => QI xs (fun _ => True) G
  | .str z => QI (signsD z) (fun _ => True) G
  | .ref p => ∃ xs, (p, Cell.lst xs) ∈ G ∧ QI xs (fun G => (p, Cell.lst xs) ∈ G) G
  | _ => False
def rg1 (ds : List D) (P : Int → Prop) : Prop := match ds with | [.int j] => P j | _ => False
def rg2 (ds : List D) (P : Int → Int → Prop) : Prop := match ds with | [.int i, .int j] => P i j | _ => False
section
variable {σ : Ev} {G : GS} {Q : DK} {R : DXK} {QB : Bool → GS → Prop} {QL : List D → GS → Prop} {i j k : Int} {a b : Str} {xs ys : List D} {N : DEnds} {te ta tb tc : DTE} {t u : DTT} {tr : DTA} {o o' : DOp} {d x y : D} {n : Nat}
theorem r_seq {t u : DTS} : dSeq t u N R σ G = t { N with nx := u N R } R σ G := propext Iff.rfl
theorem n_nx {a : Ev → GS → Prop} {b : D → GS → Prop} {c e : Ev → GS → Prop} : (DEnds.mk a b c e).nx = a := funext fun _ => funext fun _ => propext Iff.rfl
theorem n_rt {a : Ev → GS → Prop} {b : D → GS → Prop} {c e : Ev → GS → Prop} : (DEnds.mk a b c e).rt = b := funext fun _ => funext fun _ => propext Iff.rfl
theorem n_bk {a : Ev → GS → Prop} {b : D → GS → Prop} {c e : Ev → GS → Prop} : (DEnds.mk a b c e).bk = c := funext fun _ => funext fun _ => propext Iff.rfl
theorem n_ct {a : Ev → GS → Prop} {b : D → GS → Prop} {c e : Ev → GS → Prop} : (DEnds.mk a b c e).ct = e := funext fun _ => funext fun _ => propext Iff.rfl
theorem r_if {c : DTT} {t u : DTS} : dIfS c t u N R σ G = c σ G (fun b G1 => if b = true then t N R σ G1 else u N R σ G1) R := propext Iff.rfl
theorem r_next : dNext N R σ G = N.nx σ G := propext Iff.rfl
theorem r_ret : dRet te N R σ G = te σ G N.rt R := propext Iff.rfl
theorem r_retN : dRetN N R σ G = N.rt .non G := propext Iff.rfl
theorem r_brk : dBreak N R σ G = N.bk σ G := propext Iff.rfl
theorem r_cnt : dCont N R σ G = N.ct σ G := propext Iff.rfl
theorem r_drop : dDrop te N R σ G = te σ G (fun _ G1 => N.nx σ G1) R := propext Iff.rfl
theorem r_set : dSet n te N R σ G = te σ G (fun d G1 => N.nx (σ.set n (some d)) G1) R := propext Iff.rfl
theorem r_asg {g : DTG} : dAsg te g N R σ G = te σ G (fun d G1 => g d σ G1 N.nx R) R := propext Iff.rfl
theorem r_gname {QE : Ev → GS → Prop} : dgName n d σ G QE R = QE (σ.set n (some d)) G := propext Iff.rfl
theorem r_gnil {QE : Ev → GS → Prop} : dgNil [] σ G QE R = ([] = ([] : List D) ∧ QE σ G) := propext Iff.rfl
theorem r_gcons {g : DTG} {gs : DTGs} {QE : Ev → GS → Prop} : dgCons g gs (d :: xs) σ G QE R = g d σ G (fun σ1 G1 => gs xs σ1 G1 QE R) R := propext Iff.rfl
theorem r_gtup {gs : DTGs} {QE : Ev → GS → Prop} : dgTup n gs (.tup xs) σ G QE R = (xs.length = n ∧ gs xs σ G QE R) := propext Iff.rfl
theorem r_gsub {to ti : DTE} {QE : Ev → GS → Prop} : dgSub to ti d σ G QE R = to σ G (fun o G1 => ti σ G1 (fun i G2 => ∃ p n k xs j, o = .ref p ∧ i = .int k ∧ G2[n]? = some (p, Cell.lst xs) ∧ ixN xs.length k = some j ∧ QE σ (G2.set n (p, .lst (xs.set j d)))) R) R := propext Iff.rfl
theorem r_name : dName n σ G Q R = atS σ n fun d => Q d G := propext Iff.rfl
theorem r_at0 {QQ : D → Prop} : atS (some d :: σ) 0 QQ = QQ d := propext Iff.rfl
theorem r_atS {o : Option D} {QQ : D → Prop} : atS (o :: σ) (n + 1) QQ = atS σ n QQ := propext Iff.rfl
theorem r_c : dC d σ G Q R = Q d G := propext Iff.rfl
theorem r_op : dOp o ta tb σ G Q R = ta σ G (fun x G1 => tb σ G1 (fun y G2 => o x y G2 Q) R) R := propext Iff.rfl
theorem r_test : dTest te σ G QB R = te σ G (fun d G1 => tsq d fun k => QB k G1) R := propext Iff.rfl
theorem r_tru : dTru te σ G QB R = te σ G (fun x G1 => truQ x fun k => QB k G1) R := propext Iff.rfl
theorem r_and : dAnd t u σ G QB R = t σ G (fun c G1 => if c = true then u σ G1 QB R else QB false G1) R := propext Iff.rfl
theorem r_or : dOr t u σ G QB R = t σ G (fun c G1 => if c = true then QB true G1 else u σ G1 QB R) R := propext Iff.rfl
theorem r_not : dNot t σ G QB R = t σ G (fun c G1 => QB (!c) G1) R := propext Iff.rfl
theorem r_ife {c : DTT} : dIf c ta tb σ G Q R = c σ G (fun k G1 => if k = true then ta σ G1 Q R else tb σ G1 Q R) R := propext Iff.rfl
theorem r_nil : dNil σ G QL R = QL [] G := propext Iff.rfl
theorem r_cons : dCons te tr σ G QL R = te σ G (fun x G1 => tr σ G1 (fun xs G2 => QL (x :: xs) G2) R) R := propext Iff.rfl
theorem r_tup : dTup tr σ G Q R = tr σ G (fun xs G1 => xs.length ≤ sizeLine ∧ Q (.tup xs) G1) R := propext Iff.rfl
theorem r_lst : dLst tr σ G Q R = tr σ G (fun xs G1 => xs.length ≤ sizeLine ∧ Q (.lst xs) G1) R := propext Iff.rfl
theorem r_lstM : dLstM tr σ G Q R = tr σ G (fun xs G1 => xs.length ≤ sizeLine ∧ ∀ p, p ∉ keysG G1 → Q (.ref p) (G1 ++ [(p, .lst xs)])) R := propext Iff.rfl
theorem r_cb {c : DCo} : dCB c tr σ G Q R = tr σ G (fun ds G1 => c ds G1 Q) R := propext Iff.rfl
theorem r_call {sp : DSp} {dv : List D} : dCall sp tr dv σ G Q R = tr σ G (fun ds G1 => dRun sp (ds ++ dv) σ G1 Q R) R := propext Iff.rfl
theorem r_bm {T : String} {m : DMo} {to : DTE} : dBM T m to tr σ G Q R = to σ G (fun x G1 => tyM T x G1 ∧ tr σ G1 (fun ds G2 => m x ds G2 Q) R) R := propext Iff.rfl
theorem r_fld {K : PySem.W.Frag} {f : Str} : dFld K f te σ G Q R = te σ G (fun d G1 => ∃ C ns vs x, isIns C d G1 ns vs ∧ Cls K C ∧ NoAttr K C f ∧ fldAt f ns vs = some x ∧ Q x G1) R := propext Iff.rfl
theorem r_chain : dChain o o' ta tb tc σ G Q R = ta σ G (fun x G1 => tb σ G1 (fun y G2 => o x y G2 fun z G3 => chq z (tc σ G3 (fun w G4 => o' y w G4 Q) R) (Q (.bl false) G3)) R) R := propext Iff.rfl
theorem r_orT : dOrT ta tb σ G Q R = ta σ G (fun x G1 => truQ x fun k => if k = true then Q x G1 else tb σ G1 Q R) R := propext Iff.rfl
theorem r_andT : dAndT ta tb σ G Q R = ta σ G (fun x G1 => truQ x fun k => if k = true then tb σ G1 Q R else Q x G1) R := propext Iff.rfl
theorem r_notT : dNotT ta σ G Q R = ta σ G (fun x G1 => truQ x fun k => Q (.bl (!k)) G1) R := propext Iff.rfl
theorem r_neg : dNeg ta σ G Q R = ta σ G (fun d G1 => ptq d fun i => Q (.int (-i)) G1) R := propext Iff.rfl
theorem r_sl {tl th : DTO} : dSl te tl th σ G Q R = te σ G (fun x G1 => tl σ G1 (fun l G2 => th σ G2 (fun u G3 => slD x l u G3 Q) R) R) R := propext Iff.rfl
theorem r_nop {QO : Option Int → GS → Prop} : dNoP σ G QO R = QO none G := propext Iff.rfl
theorem r_part {QO : Option Int → GS → Prop} : dPart te σ G QO R = te σ G (fun d G1 => ptq d fun i => QO (some i) G1) R := propext Iff.rfl
theorem r_slL {l u : Option Int} : slD (.lst xs) l u G Q = Q (.lst (cutD xs l u)) G := propext Iff.rfl
theorem r_slT {l u : Option Int} : slD (.tup xs) l u G Q = Q (.tup (cutD xs l u)) G := propext Iff.rfl
theorem r_slS {l u : Option Int} : slD (.str a) l u G Q = (a.length ≤ sizeLine ∧ Q (.str (cutS a l u)) G) := propext Iff.rfl
theorem r_lc {vs : List Nat} {c : CTg} {ti : DTI} : dLc vs c ti t te σ G Q R = ti σ G (fun xs ok G1 => lcTurns vs c t te xs ok σ G1 fun acc G2 => Q (.lst acc) G2) R := propext Iff.rfl
theorem r_lcM {vs : List Nat} {c : CTg} {ti : DTI} : dLcM vs c ti t te σ G Q R = ti σ G (fun xs ok G1 => lcTurns vs c t te xs ok σ G1 fun acc G2 => ∀ p, p ∉ keysG G2 → Q (.ref p) (G2 ++ [(p, .lst acc)])) R := propext Iff.rfl
theorem r_iter {QI : List D → (GS → Prop) → GS → Prop} : dIter te σ G QI R = te σ G (fun d G1 => itq d G1 QI) R := propext Iff.rfl
theorem r_rng1 {QI : List D → (GS → Prop) → GS → Prop} : dRng1 tr σ G QI R = tr σ G (fun ds G1 => rg1 ds fun j => -(2 ^ 62) ≤ j ∧ j < 2 ^ 62 ∧ QI (rngD 0 j.toNat) (fun _ => True) G1) R := by
  unfold dRng1; congr
theorem r_rng2 {QI : List D → (GS → Prop) → GS → Prop} : dRng2 tr σ G QI R = tr σ G (fun ds G1 => rg2 ds fun i j => (-(2 ^ 62) ≤ i ∧ i < 2 ^ 62 ∧ -(2 ^ 62) ≤ j ∧ j < 2 ^ 62) ∧ QI (rngD i (j - i).toNat) (fun _ => True) G1) R := by
  unfold dRng2; congr
theorem z_ch {b : Bool} {A B : Prop} : chq (.bl b) A B = if b = true then A else B := by cases b <;> simp [chq]
theorem z_ts {b : Bool} {P : Bool → Prop} : tsq (.bl b) P = P b := propext Iff.rfl
theorem z_pt {P : Int → Prop} : ptq (.int i) P = P i := propext Iff.rfl
theorem z_itL {QI : List D → (GS → Prop) → GS → Prop} : itq (.lst xs) G QI = QI xs (fun _ => True) G := propext Iff.rfl
theorem z_itT {QI : List D → (GS → Prop) → GS → Prop} : itq (.tup xs) G QI = QI xs (fun _ => True) G := propext Iff.rfl
theorem z_itS {QI : List D → (GS → Prop) → GS → Prop} : itq (.str a) G QI = QI (signsD a) (fun _ => True) G := propext Iff.rfl
theorem z_itR {p : Addr} {QI : List D → (GS → Prop) → GS → Prop} : itq (.ref p) G QI = ∃ xs, (p, Cell.lst xs) ∈ G ∧ QI xs (fun G => (p, Cell.lst xs) ∈ G) G := propext Iff.rfl
theorem z_rg1 {P : Int → Prop} : rg1 [.int i] P = P i := propext Iff.rfl
theorem z_rg2 {P : Int → Int → Prop} : rg2 [.int i, .int j] P = P i j := propext Iff.rfl
theorem z_iT {A B : Prop} : (if True then A else B) = A := if_pos trivial
theorem z_iF {A B : Prop} : (if False then A else B) = B := if_neg id
theorem z_ft : (false = true) = False := by simp
theorem z_tf : (true = false) = False := by simp
theorem z_nt : (!true) = false := rfl
theorem z_nf : (!false) = true := rfl
theorem r_disp {l : List (DTE × DTE)} : dDisp l σ G Q R = dPairs l σ G (fun ds G1 => ∃ ks : List Key, ds.map (fun p => keyD p.1) = ks.map some ∧ ks.Nodup ∧ Q (.dic ks (ds.map (·.2))) G1) R := propext Iff.rfl
theorem r_pnil {QP : List (D × D) → GS → Prop} : dPairs [] σ G QP R = QP [] G := propext Iff.rfl
theorem r_pcons {tk tv : DTE} {r : List (DTE × DTE)} {QP : List (D × D) → GS → Prop} : dPairs ((tk, tv) :: r) σ G QP R = tk σ G (fun x G1 => tv σ G1 (fun y G2 => dPairs r σ G2 (fun ps G3 => QP ((x, y) :: ps) G3) R) R) R := propext Iff.rfl
theorem o_addI : dAdd (.int i) (.int j) G Q = Q (.int (i + j)) G := propext Iff.rfl
theorem o_addS : dAdd (.str a) (.str b) G Q = (a.length + b.length ≤ sizeLine ∧ Q (.str (a ++ b)) G) := propext Iff.rfl
theorem o_addL : dAdd (.lst xs) (.lst ys) G Q = (xs.length + ys.length ≤ sizeLine ∧ Q (.lst (xs ++ ys)) G) := propext Iff.rfl
theorem o_addT : dAdd (.tup xs) (.tup ys) G Q = (xs.length + ys.length ≤ sizeLine ∧ Q (.tup (xs ++ ys)) G) := propext Iff.rfl
theorem o_sub : dSub (.int i) (.int j) G Q = (True ∧ Q (.int (i - j)) G) := propext Iff.rfl
theorem o_mulI : dMul (.int i) (.int j) G Q = ((CMulW i j ∨ CMul i j) ∧ Q (.int (i * j)) G) := propext Iff.rfl
theorem o_mulS : dMul (.str a) (.int k) G Q = (0 ≤ k ∧ k < 2 ^ 63 ∧ a.length * k.toNat ≤ sizeLine ∧ Q (.str (repT a k)) G) := propext Iff.rfl
theorem o_mulL : dMul (.lst xs) (.int k) G Q = (-(2 ^ 63) ≤ k ∧ k < 2 ^ 63 ∧ xs.length * k.toNat ≤ sizeLine ∧ Q (.lst (List.replicate k.toNat xs).flatten) G) := propext Iff.rfl
theorem o_div : dDiv (.int i) (.int j) G Q = (CDivW i j ∧ Q (.int (i / j)) G) := propext Iff.rfl
theorem o_divZ : dDivZ (.int i) (.int j) G Q = (CDivZ i j ∧ Q (.int (i.fdiv j)) G) := propext Iff.rfl
theorem o_mod : dMod (.int i) (.int j) G Q = (0 < j ∧ Q (.int (i % j)) G) := propext Iff.rfl
theorem o_modZ : dModZ (.int i) (.int j) G Q = (j ≠ 0 ∧ Q (.int (i.fmod j)) G) := propext Iff.rfl
theorem o_pow : dPow (.int i) (.int j) G Q = (CPow i j ∧ Q (.int (i ^ j.toNat)) G) := propext Iff.rfl
theorem o_lt : dLt (.int i) (.int j) G Q = (True ∧ Q (.bl (decide (i < j))) G) := propext Iff.rfl
theorem o_le : dLe (.int i) (.int j) G Q = (True ∧ Q (.bl (decide (i ≤ j))) G) := propext Iff.rfl
theorem o_gt : dGt (.int i) (.int j) G Q = (True ∧ Q (.bl (decide (j < i))) G) := propext Iff.rfl
theorem o_ge : dGe (.int i) (.int j) G Q = (True ∧ Q (.bl (decide (j ≤ i))) G) := propext Iff.rfl
theorem o_isN : dIs x .non G Q = Q (.bl x.isNon) G := propext Iff.rfl
theorem o_isB {p q : Bool} : dIs (.bl p) (.bl q) G Q = Q (.bl (decide (p = q))) G := propext Iff.rfl
theorem o_isnN : dIsNot x .non G Q = Q (.bl (!x.isNon)) G := propext Iff.rfl
theorem o_isnB {p q : Bool} : dIsNot (.bl p) (.bl q) G Q = Q (.bl (!decide (p = q))) G := propext Iff.rfl
theorem o_ixL : dIx (.lst xs) (.int i) G Q = ∃ v, atI xs i = some v ∧ Q v G := propext Iff.rfl
theorem o_ixT : dIx (.tup xs) (.int i) G Q = ∃ v, atI xs i = some v ∧ Q v G := propext Iff.rfl
theorem o_ixS : dIx (.str a) (.int i) G Q = (a.length ≤ sizeLine ∧ ∃ c, atI a.cps.toList i = some c ∧ Q (.str ⟨#[c]⟩) G) := propext Iff.rfl
theorem o_ixR {p : Addr} : dIx (.ref p) (.int i) G Q = ∃ xs v, (p, Cell.lst xs) ∈ G ∧ atI xs i = some v ∧ Q v G := propext Iff.rfl
theorem c_lenL : dLen [.lst xs] G Q = Q (.int xs.length) G := propext Iff.rfl
theorem c_lenT : dLen [.tup xs] G Q = Q (.int xs.length) G := propext Iff.rfl
theorem c_lenS : dLen [.str a] G Q = (a.length ≤ sizeLine ∧ Q (.int a.length) G) := propext Iff.rfl
theorem c_lenR {p : Addr} : dLen [.ref p] G Q = ∃ xs, (p, Cell.lst xs) ∈ G ∧ Q (.int xs.length) G := propext Iff.rfl
theorem c_intI : dInt [.int i] G Q = Q (.int i) G := propext Iff.rfl
theorem c_intB {b : Bool} : dInt [.bl b] G Q = Q (.int (if b then 1 else 0)) G := propext Iff.rfl
theorem c_intS : dInt [.str a] G Q = ∃ n, PySem.intText? a = some n ∧ a.length ≤ 640 ∧ Q (.int n) G := propext Iff.rfl
theorem c_int2 : dInt2 [.str a, .int 10] G Q = (a.cps.toList ≠ [] ∧ a.length ≤ 640 ∧ (∀ c ∈ a.cps.toList, Dc.IsDec c) ∧ Q (.int ((Dc.decNum a.cps.toList : Nat) : Int)) G) := propext Iff.rfl
theorem c_strI : dStr [.int i] G Q = (i.natAbs.log2 < 1920 ∧ Q (.str (toString i)) G) := propext Iff.rfl
theorem c_strS : dStr [.str a] G Q = Q (.str a) G := propext Iff.rfl
theorem c_abs : dAbs [.int i] G Q = Q (.int (if i < 0 then -i else i)) G := propext Iff.rfl
theorem c_max2 : dMax2 [.int i, .int j] G Q = Q (.int (if j > i then j else i)) G := propext Iff.rfl
theorem c_min2 : dMin2 [.int i, .int j] G Q = Q (.int (if j < i then j else i)) G := propext Iff.rfl
theorem q_non {P : Bool → Prop} : truQ .non P = P false := propext Iff.rfl
theorem q_bl {P : Bool → Prop} {b : Bool} : truQ (.bl b) P = P b := propext Iff.rfl
theorem q_int {P : Bool → Prop} : truQ (.int i) P = P (i != 0) := propext Iff.rfl
theorem q_str {P : Bool → Prop} : truQ (.str a) P = (a.length ≤ sizeLine ∧ P ((a.length : Int) != 0)) := propext Iff.rfl
theorem q_lst {P : Bool → Prop} : truQ (.lst xs) P = P (!xs.isEmpty) := propext Iff.rfl
theorem q_tup {P : Bool → Prop} : truQ (.tup xs) P = P (!xs.isEmpty) := propext Iff.rfl
theorem tym_s {T : String} : tyM T (.str a) G = (T = "str") := propext Iff.rfl
theorem tym_l {T : String} : tyM T (.lst xs) G = (T = "list") := propext Iff.rfl
theorem m_up : mUpper (.str a) [] G Q = (a.length ≤ 5592405 ∧ Q (.str (Txt.upper a)) G) := propext Iff.rfl
theorem m_low : mLower (.str a) [] G Q = (a.length ≤ 5592405 ∧ Q (.str (Txt.lower a)) G) := propext Iff.rfl
section
variable {b : Bool} {ks : List Key} {kt : List (List Key)}
theorem k_int_int : isK (.int i) "int" = true := rfl
theorem k_int_bool : isK (.int i) "bool" = false := rfl
theorem k_int_str : isK (.int i) "str" = false := rfl
theorem k_int_tuple : isK (.int i) "tuple" = false := rfl
theorem k_int_list : isK (.int i) "list" = false := rfl
theorem k_int_dict : isK (.int i) "dict" = false := rfl
theorem k_bl_int : isK (.bl b) "int" = true := rfl
theorem k_bl_bool : isK (.bl b) "bool" = true := rfl
theorem k_bl_str : isK (.bl b) "str" = false := rfl
theorem k_bl_tuple : isK (.bl b) "tuple" = false := rfl
theorem k_bl_list : isK (.bl b) "list" = false := rfl
theorem k_bl_dict : isK (.bl b) "dict" = false := rfl
theorem k_str_int : isK (.str a) "int" = false := rfl
theorem k_str_bool : isK (.str a) "bool" = false := rfl
theorem k_str_str : isK (.str a) "str" = true := rfl
theorem k_str_tuple : isK (.str a) "tuple" = false := rfl
theorem k_str_list : isK (.str a) "list" = false := rfl
theorem k_str_dict : isK (.str a) "dict" = false := rfl
theorem k_tup_int : isK (.tup xs) "int" = false := rfl
theorem k_tup_bool : isK (.tup xs) "bool" = false := rfl
theorem k_tup_str : isK (.tup xs) "str" = false := rfl
theorem k_tup_tuple : isK (.tup xs) "tuple" = true := rfl
theorem k_tup_list : isK (.tup xs) "list" = false := rfl
theorem k_tup_dict : isK (.tup xs) "dict" = false := rfl
theorem k_lst_int : isK (.lst xs) "int" = false := rfl
theorem k_lst_bool : isK (.lst xs) "bool" = false := rfl
theorem k_lst_str : isK (.lst xs) "str" = false := rfl
theorem k_lst_tuple : isK (.lst xs) "tuple" = false := rfl
theorem k_lst_list : isK (.lst xs) "list" = true := rfl
theorem k_lst_dict : isK (.lst xs) "dict" = false := rfl
theorem k_non_int : isK .non "int" = false := rfl
theorem k_non_bool : isK .non "bool" = false := rfl
theorem k_non_str : isK .non "str" = false := rfl
theorem k_non_tuple : isK .non "tuple" = false := rfl
theorem k_non_list : isK .non "list" = false := rfl
theorem k_non_dict : isK .non "dict" = false := rfl
theorem k_dic_int : isK (.dic ks xs) "int" = false := rfl
theorem k_dic_bool : isK (.dic ks xs) "bool" = false := rfl
theorem k_dic_str : isK (.dic ks xs) "str" = false := rfl
theorem k_dic_tuple : isK (.dic ks xs) "tuple" = false := rfl
theorem k_dic_list : isK (.dic ks xs) "list" = false := rfl
theorem k_dic_dict : isK (.dic ks xs) "dict" = true := rfl
theorem k_dit_int : isK (.dit kt xs) "int" = false := rfl
theorem k_dit_bool : isK (.dit kt xs) "bool" = false := rfl
theorem k_dit_str : isK (.dit kt xs) "str" = false := rfl
theorem k_dit_tuple : isK (.dit kt xs) "tuple" = false := rfl
theorem k_dit_list : isK (.dit kt xs) "list" = false := rfl
theorem k_dit_dict : isK (.dit kt xs) "dict" = true := rfl
end
theorem ls0 {α : Type} {a b : α} {l : List α} : List.set (a :: l) 0 b = b :: l := rfl
theorem lsS {α : Type} {a b : α} {l : List α} {n : Nat} : List.set (a :: l) (n + 1) b = a :: List.set l n b := rfl
theorem la0 {α : Type} {l : List α} : [] ++ l = l := rfl
theorem laS {α : Type} {a : α} {l m : List α} : (a :: l) ++ m = a :: (l ++ m) := rfl
theorem r_bind1 {P : Ev → Prop} : bindC (.one n) d σ P = P (σ.set n (some d)) := propext Iff.rfl
theorem r_wipe0 : wipeD σ [] = σ := rfl
theorem r_wipeS {vs : List Nat} : wipeD σ (n :: vs) = (wipeD σ vs).set n none := rfl
end
end DL
set_option Elab.async false
set_option linter.all false
set_option maxRecDepth 100000
set_option maxHeartbeats 4000000
namespace DL
open PySem PyProof.Rows L2
/-! ### short texts of small signs -/
structure Asc (n : Nat) (z : Str) : Prop where
  len : z.length ≤ n
  lt : ∀ c ∈ z.cps.toList, c < 128
theorem len_cps (z : Str) : z.length = z.cps.toList.length := by simp [Str.length]
theorem Asc.le {n m : Nat} {z : Str} (h : Asc n z) (k : n ≤ m) : Asc m z := ⟨Nat.le_trans h.len k, h.lt⟩
theorem cps_app (a b : Str) : (a ++ b).cps.toList = a.cps.toList ++ b.cps.toList := by
  show (a.cps ++ b.cps).toList = _
  simp
theorem Asc.app {n m : Nat} {a b : Str} (h : Asc n a) (k : Asc m b) : Asc (n + m) (a ++ b) := ⟨by rw [len_cps, cps_app, List.length_append, ← len_cps, ← len_cps]; have := h.len; have := k.len; omega, fun c hc => by
  rw [cps_app, List.mem_append] at hc
  exact hc.elim (h.lt c) (k.lt c)⟩
theorem cps_cut (z : Str) (lo hi : Option Int) : (cutS z lo hi).cps.toList = (z.cps.toList.drop (HT.sIx z.length 0 lo)).take (HT.sIx z.length z.length hi - HT.sIx z.length 0 lo) := by
  unfold cutS
  simp
theorem Asc.cut {n : Nat} {z : Str} (h : Asc n z) (lo hi : Option Int) : Asc n (cutS z lo hi) := ⟨by
    rw [len_cps, cps_cut, List.length_take, List.length_drop, ← len_cps]
    have := h.len
    omega, fun c hc => by
    rw [cps_cut] at hc
    exact h.lt c (List.mem_of_mem_drop (List.mem_of_mem_take hc))⟩
theorem cps_up {n : Nat} {z : Str} (h : Asc n z) : (Txt.upper z).cps.toList = z.cps.toList.map PyProof.Rows.up1 := by
  have e := SX.upper_S (a := z.cps.toList) (List.all_eq_true.mpr fun c hc => decide_eq_true (h.lt c hc))
  rw [SX.S_tl] at e
  rw [e]
theorem up1_lt {c : Nat} (h : c < 128) : PyProof.Rows.up1 c < 128 := by
  unfold PyProof.Rows.up1
  split <;> omega
theorem Asc.up {n : Nat} {z : Str} (h : Asc n z) : Asc n (Txt.upper z) := ⟨by rw [len_cps, cps_up h, List.length_map, ← len_cps]; exact h.len, fun c hc => by
  rw [cps_up h, List.mem_map] at hc
  obtain ⟨d, hd, rfl⟩ := hc
  exact up1_lt (h.lt d hd)⟩
theorem Asc.one {c : Nat} (h : c < 128) : Asc 1 ⟨#[c]⟩ := ⟨by simp [Str.length], fun d hd => by
  have : d = c := by simpa using hd
  omega⟩
theorem Asc.lit {n : Nat} {z : Str} (h : (decide (z.length ≤ n) && z.cps.toList.all fun c => decide (c < 128)) = true) : Asc n z := by
  rw [Bool.and_eq_true, decide_eq_true_eq, List.all_eq_true] at h
  exact ⟨h.1, fun c hc => of_decide_eq_true (h.2 c hc)⟩
theorem Asc.ok {n : Nat} {z : Str} (h : Asc n z) : okStr z := by
  show PyData.strOk z = true
  unfold PyData.strOk
  rw [← Array.all_toList, List.all_eq_true]
  intro c hc
  have := h.lt c hc
  exact decide_eq_true (by omega)
/-- the signs given one by one -/
theorem join_signs (zs : List Nat) : (Txt.join "" (zs.map fun c => (⟨#[c]⟩ : Str))).cps.toList = zs := by
  have e : ∀ l : List (List Nat), TL.joinL [] l = l.flatten := by
    intro l
    induction l with
    | nil => rfl
    | cons p r ih =>
      cases r with
      | nil => simp [TL.joinL]
      | cons q r => simp only [TL.joinL, List.nil_append, List.flatten_cons]; rw [ih]; simp
  have h := SX.join_S [] (zs.map fun c => [c])
  rw [e] at h
  have e1 : (zs.map fun c => [c]).map SX.S = zs.map fun c => (⟨#[c]⟩ : Str) := by rw [List.map_map]; rfl
  have e2 : (zs.map fun c => [c]).flatten = zs := by
    clear h e1
    induction zs with
    | nil => rfl
    | cons c r ih => rw [List.map_cons, List.flatten_cons, ih]; rfl
  rw [e1, e2] at h
  rw [show (Str.ofString "") = SX.S [] from rfl, h]
theorem sizeLine_big : 100000 ≤ sizeLine := by rw [sizeLine_eq]; decide
theorem Asc.sz {n : Nat} {z : Str} (h : Asc n z) (l : n ≤ 100000) : z.length ≤ sizeLine := Nat.le_trans h.len (Nat.le_trans l sizeLine_big)
theorem Asc.sz2 {n m : Nat} {a b : Str} (h : Asc n a) (k : Asc m b) (l : n + m ≤ 100000) : a.length + b.length ≤ sizeLine := Nat.le_trans (Nat.add_le_add h.len k.len) (Nat.le_trans l sizeLine_big)
theorem atI_in {α : Type} {l : List α} {i : Int} (h : 0 ≤ i) (h2 : i < l.length) : ∃ v, L2.atI l i = some v ∧ v ∈ l := by
  have e : ixN l.length i = some i.toNat := by
    unfold ixN
    rw [if_pos h, if_pos h2]
  refine ⟨l[i.toNat]'(by omega), ?_, List.getElem_mem _⟩
  unfold L2.atI
  rw [e]
  simp only [Option.bind_some]
  exact List.getElem?_eq_getElem _
end DL
set_option Elab.async false
set_option linter.all false
set_option maxRecDepth 100000
set_option maxHeartbeats 4000000
namespace DL
open PySem PyProof.Rows L2
/-! ### for: opened -/
def forQ (g : DTG) (tb : DTS) (xs : List D) (ok : GS → Prop) (N : DEnds) (R : DXK) (σ : Ev) (G1 : GS) : Prop := ∃ I : Nat → Ev → GS → Prop, I 0 σ G1 ∧ (∀ i σ G, i ≤ xs.length → I i σ G → ok G) ∧
  (∀ i d σ G, xs[i]? = some d → I i σ G → g d σ G (fun σ' G' => tb { N with nx := Gh (I (i + 1)), ct := Gh (I (i + 1)), bk := N.nx } R σ' G') R) ∧ ∀ σ G, I xs.length σ G → N.nx σ G
theorem r_for {ti : DTI} {g : DTG} {tb : DTS} {N : DEnds} {R : DXK} {σ : Ev} {G : GS} : dFor ti g tb N R σ G = ti σ G (fun xs ok G1 => forQ g tb xs ok N R σ G1) R := propext Iff.rfl
/-- one thing holds ahead of each turn -/
theorem for_inv {g : DTG} {tb : DTS} {xs : List D} {ok : GS → Prop} {N : DEnds} {R : DXK} {σ : Ev} {G : GS} (J : Ev → GS → Prop) (h0 : J σ G) (hok : ∀ σ G, J σ G → ok G)
    (hs : ∀ d ∈ xs, ∀ σ G, J σ G → g d σ G (fun σ' G' => tb { N with nx := Gh J, ct := Gh J, bk := N.nx } R σ' G') R) (hd : ∀ σ G, J σ G → N.nx σ G) : forQ g tb xs ok N R σ G :=
  ⟨fun _ => J, h0, fun _ σ G _ h => hok σ G h, fun _ d σ G hx h => hs d (List.mem_of_getElem? hx) σ G h, hd⟩
theorem len_repT (z : Str) (k : Int) : (repT z k).length = z.length * k.toNat := by
  rw [len_cps, len_cps]
  unfold repT
  simp [Nat.mul_comm]
theorem mem_repT {z : Str} {k : Int} {c : Nat} (h : c ∈ (repT z k).cps.toList) : c ∈ z.cps.toList := by
  unfold repT at h
  simp only [List.mem_flatten] at h
  obtain ⟨l, hl, hc⟩ := h
  rw [(List.mem_replicate.mp hl).2] at hc
  exact hc
/-- "".join of signs -/
theorem join_sg {cs : List Nat} {G : GS} {Q : DK} (hl : cs.length ≤ 100000) (q : ∀ z : Str, z.cps.toList = cs → Q (.str z) G) : mJoin (.str "") [.lst (cs.map fun c => D.str ⟨#[c]⟩)] G Q := by
  refine ⟨cs.map fun c => ⟨#[c]⟩, .inl (by rw [List.map_map]; rfl), ?_, q _ (join_signs cs)⟩
  have : ((cs.map fun c => (⟨#[c]⟩ : Str)).map (·.length)).sum = cs.length := by
    rw [List.map_map]
    clear hl q
    induction cs with
    | nil => rfl
    | cons c cs ih => rw [List.map_cons, List.sum_cons, ih, List.length_cons]; show 1 + _ = _; omega
  rw [this, List.length_map, show (("" : Str).length) = 0 from rfl]
  omega
/-! ### figures and the number that they write -/
theorem num_back : ∀ (cs : List Nat), (∀ c ∈ cs, Dc.IsDec c) → cs ≠ [] → (cs[0]? = some 48 → cs.length = 1) → TL.numL (NumText.digitsVal cs) = cs := by
  have rev : ∀ (n : Nat) (cs : List Nat), cs.length = n → (∀ c ∈ cs, Dc.IsDec c) → cs ≠ [] → (cs[0]? = some 48 → cs.length = 1) → TL.numL (NumText.digitsVal cs) = cs := by
    intro n
    induction n with
    | zero => intro cs h0 _ h; exact absurd (List.length_eq_zero_iff.mp h0) h
    | succ n ih =>
      intro cs hl h hne h0
      obtain ⟨ds, c, rfl⟩ : ∃ ds c, cs = ds ++ [c] := ⟨cs.dropLast, cs.getLast hne, (List.dropLast_concat_getLast hne).symm⟩
      have hc := h c (by simp)
      unfold Dc.IsDec at hc
      have e : NumText.digitsVal (ds ++ [c]) = NumText.digitsVal ds * 10 + (c - 48) := by unfold NumText.digitsVal; rw [List.foldl_append]; rfl
      have hl' : ds.length = n := by simpa using hl
      cases ds with
      | nil =>
        rw [e, show NumText.digitsVal [] = 0 from rfl, TL.numL_lt (by omega)]
        simp
        omega
      | cons d r =>
        have hd48 : d ≠ 48 := fun z => by
          subst z
          have := h0 rfl
          simp at this
        have i := ih (d :: r) hl' (fun c hc => h c (List.mem_append_left _ hc)) (by simp) (fun z => absurd (by simpa using z) hd48)
        have hp : 0 < NumText.digitsVal (d :: r) := by
          refine Nat.pos_of_ne_zero fun hz => ?_
          rw [hz, TL.numL_lt (by decide)] at i
          injection i with i1 _
          exact hd48 i1.symm
        rw [e, TL.numL_step (by omega)]
        rw [show (NumText.digitsVal (d :: r) * 10 + (c - 48)) / 10 = NumText.digitsVal (d :: r) by omega, i, show 48 + (NumText.digitsVal (d :: r) * 10 + (c - 48)) % 10 = c by omega]
  exact fun cs => rev _ cs rfl
theorem val_lt (cs : List Nat) (h : ∀ c ∈ cs, Dc.IsDec c) : NumText.digitsVal cs < 10 ^ cs.length := by
  have hb : ∀ (l : List Nat) (a : Nat), (∀ c ∈ l, Dc.IsDec c) → l.foldl (fun acc c => acc * 10 + (c - 48)) a < (a + 1) * 10 ^ l.length := by
    intro l
    induction l with
    | nil => intro a _; simp
    | cons c l ih =>
      intro a hl
      have hc := hl c (by simp)
      unfold Dc.IsDec at hc
      refine Nat.lt_of_lt_of_le (ih _ fun d hd => hl d (by simp [hd])) ?_
      rw [List.length_cons, Nat.pow_succ, Nat.mul_comm (10 ^ l.length) 10, ← Nat.mul_assoc]
      exact Nat.mul_le_mul_right _ (show a * 10 + (c - 48) + 1 ≤ (a + 1) * 10 by omega)
  have := hb cs 0 h
  rw [Nat.zero_add, Nat.one_mul] at this
  exact this
theorem num_short (cs : List Nat) (h : ∀ c ∈ cs, Dc.IsDec c) (hn : 0 < cs.length) : (TL.numL (NumText.digitsVal (48 :: cs))).length ≤ cs.length := by
  refine TL.numL_len hn ?_
  show NumText.digitsVal cs < _
  exact val_lt cs h
theorem decNum_digits (cs : List Nat) : Dc.decNum cs = NumText.digitsVal cs := rfl
theorem intText_dec {z : Str} (h : ∀ c ∈ z.cps.toList, Dc.IsDec c) (hne : z.cps.toList ≠ []) (hl : z.length ≤ 640) : intText? z = some ((Dc.decNum z.cps.toList : Nat) : Int) :=
  intText_digits (fun c hc => h c hc) hne (by omega)
theorem log_dec {cs : List Nat} {n : Nat} (h : ∀ c ∈ cs, Dc.IsDec c) (hl : cs.length ≤ n) (hn : n ≤ 400) : (Dc.decNum cs).log2 < 1920 := by
  have h1 := val_lt cs h
  rw [decNum_digits]
  by_cases hz : NumText.digitsVal cs = 0
  · rw [hz]; decide
  refine (Nat.log2_lt hz).mpr (Nat.lt_of_lt_of_le h1 (Nat.le_trans (Nat.pow_le_pow_right (by decide) (show cs.length ≤ 400 by omega)) ?_))
  have : (10 : Nat) ^ 400 ≤ (2 ^ 4) ^ 400 := Nat.pow_le_pow_left (by decide) 400
  rw [← Nat.pow_mul] at this
  exact Nat.le_trans this (Nat.pow_le_pow_right (by decide) (by decide))
/-- the text of a number of figures -/
theorem str_dec {z : Str} (h : ∀ c ∈ z.cps.toList, Dc.IsDec c) (hne : z.cps.toList ≠ []) (h0 : z.cps.toList[0]? = some 48 → z.cps.toList.length = 1) : Str.ofString (toString ((Dc.decNum z.cps.toList : Nat) : Int)) = z := by
  rw [SX.num_S, decNum_digits, num_back _ h hne h0, SX.S_tl]
theorem len_str {n : Nat} : (Str.ofString (toString ((n : Nat) : Int))).length = (TL.numL n).length := by
  rw [SX.num_S, len_cps]
/-! ### the law's own end -/
theorem law_sp {K : PySem.W.Frag} {sp : DSp} {H : Hp} {a : Addr} {ns : List Int} (hS : SqL K H a (ns.map V.int)) (h : sp [.lst (ns.map D.int)] [] (fun d _ => d = .bl true) dE0) : conc K sp [.ref a] H (fun v _ => v = .bl true) fun _ _ _ => False := by
  have hr : Reps K H (ns.map D.int) (ns.map V.int) := by
    clear hS h
    induction ns with
    | nil => rfl
    | cons n ns ih => exact ⟨_, _, rfl, rfl, ih⟩
  refine ⟨H, [], _, _, _, ⟨Sub.refl H, List.nodup_nil, fun _ h => (List.not_mem_nil h).elim, fun _ h => (List.not_mem_nil h).elim⟩, Reps.cons (d := .lst (ns.map D.int)) (v := .ref a) ⟨a, _, rfl, hS, hr⟩ Reps.nil, h, fun v H' S' d G' _ r q => ?_, fun _ _ _ _ _ _ _ _ _ q => q⟩
  subst q
  exact r
theorem cx_none {P : Program} {w : World} (H : Hp) (s : Shared) (e : Value) (s' : Shared) (h : L2.CX P w [] H s (fun _ _ _ => False) e s') : False := by
  obtain ⟨_, _, _, _, _, _, _, _, _, _, _, _, h⟩ := h
  exact h
end DL
set_option Elab.async false
set_option linter.all false
set_option maxRecDepth 100000
set_option maxHeartbeats 4000000
namespace DL
open PySem PyProof.Rows L2
/-! ### what is never reached -/
def dNoS : DTS := fun _ _ _ _ => False
def dNoE : DTE := fun _ _ _ _ => False
section
variable {X : Cx} {W : WX} {k : Nat} {f C : Addr} {fd : FuncData} {ps : List Str} {sp : DSp} {x m : Str} {p pos apos : Pos} {e o : Expr} {es : List Expr} {t : DTA} {to tv : DTE} {dv : List D} {dvs : List V} {ds : List Value}
theorem ds_no {st : Stmt} : DS X W st dNoS := ⟨fun _ _ _ _ _ _ ⟨_, _, _, _, _, _, _, h, _⟩ => h.elim⟩
theorem de_no {e : Expr} : DE X W e dNoE := ⟨fun _ _ _ _ _ _ ⟨_, _, _, _, _, _, _, h, _⟩ => h.elim⟩
/-! ### o.f = value -/
def putNs (f : Str) : List Str → List Str
  | [] => [f]
  | n :: ns => if n = f then n :: ns else n :: putNs f ns
def putVs (f : Str) (y : D) : List Str → List D → List D
  | n :: ns, v :: vs => if n = f then y :: vs else v :: putVs f y ns vs
  | _, _ => [y]
theorem put_fld {K : PySem.W.Frag} {S : Hp} {f : Str} {y : D} {u : V} (ry : Rep K S y u) : ∀ {ns : List Str} {vs : List D} {fs : List (Str × V)}, fs.map (·.1) = ns → Reps K S vs (fs.map (·.2)) → (putF f u fs).map (·.1) = putNs f ns ∧ Reps K S (putVs f y ns vs) ((putF f u fs).map (·.2))
  | [], [], [], _, _ => ⟨rfl, _, _, rfl, ry, rfl⟩
  | [], v :: vs, [], _, h => by obtain ⟨_, _, e, _⟩ := h; cases e
  | n :: ns, _, [], h, _ => by cases h
  | [], _, _ :: _, h, _ => by cases h
  | n :: ns, [], _ :: _, _, h => by cases h
  | n :: ns, v :: vs, (n', z) :: fs, h1, h2 => by
    simp only [List.map_cons, List.cons.injEq] at h1
    obtain ⟨rfl, h1⟩ := h1
    obtain ⟨v', r, e, rv, rr⟩ := h2
    simp only [List.map_cons, List.cons.injEq] at e
    obtain ⟨rfl, rfl⟩ := e
    unfold putF putNs putVs
    by_cases hf : n' = f
    · rw [if_pos hf, if_pos hf, if_pos hf]
      exact ⟨by simp [h1], _, _, rfl, ry, rr⟩
    · rw [if_neg hf, if_neg hf, if_neg hf]
      obtain ⟨h3, h4⟩ := put_fld ry h1 rr
      exact ⟨by simp [h3], _, _, rfl, rv, h4⟩
def dFldSet (K : PySem.W.Frag) (f : Str) (to tv : DTE) : DTS := fun N R σ G => tv σ G (fun y G1 => to σ G1 (fun o G2 => ∃ p n C ns vs, o = .ref p ∧ G2[n]? = some (p, Cell.ins C ns vs) ∧ Cls K C ∧ NoAttr K C f ∧ ns.length < 1000 ∧ N.nx σ (G2.set n (p, .ins C (putNs f ns) (putVs f y ns vs)))) R) R
theorem ds_fld {fl : Str} {pos' : Pos} {value : Expr} (ho : DE X W o to) (hv : DE X W value tv) (hs : swapsWith value (some (.Attribute o fl pos')) pos.line X.env = pure false := by rfl) : DS X W (.Assign [.Attribute o fl pos'] value pos) (dFldSet X.K fl to tv) :=
  ps_imp (L2.ps_fld ho hv hs) fun D σV H ⟨S, σ, G, N, R, hc, hee, ht, hx, hq⟩ => by
    refine ⟨S, σ, G, _, R, hc, hee, ht, hx, fun y H1 S1 yd G1 a1 r1 q1 => ?_⟩
    refine ⟨S1, σ, G1, _, R, a1.cn, hee.up a1.sub, q1, hx.aft a1, fun ov H2 S2 od G2 a2 r2 q2 => ?_⟩
    obtain ⟨p, n, C, ns, vs, rfl, hn, h1, h2, h3, q⟩ := q2
    obtain ⟨dx, fs, h4, h5, h6⟩ := a2.cn.cell _ (List.mem_of_getElem? hn)
    obtain ⟨h7, h8⟩ := put_fld (r1.up a2.sub) h5 h6
    have a12 := a1.trans a2
    have a3 := a2.cn.write (k' := .ins C (putNs fl ns) (putVs fl yd ns vs)) (o := .ins C dx (putF fl y fs)) hn ⟨dx, _, upd_same, h7, h8⟩
    have hl : fs.length < 1000 := by rw [← h5, List.length_map] at h3; exact h3
    exact ⟨p, C, dx, fs, r2, h4, h1, h2, hl, hq.nx σV _ _ σ _ (a12.trans a3) (hee.up (a12.trans a3).sub) q⟩
/-! ### a new object, never changed behind its making -/
theorem run_makeSd {CX : CXT} {E : XK} {sp : Sp} {σ : L2.St} {H : Hp} {pins : List (Addr × Obj)} {s : Shared} {Q : VK} {us : List Value} {vs : List V} (M : Mk X.K C f) (F : FnOkG X.prog X.w X.K X.mg X.base CX k f fd ps sp) (hr : RoomG (k + 1) X.A) (hb : Binds X.K fd ps ds) (hd : Vals dvs ds)
    (hx : PassesAt CX X σ E) (I : Inv X pins σ H s) (r : Vals vs us)
    (h : ∀ x dx, H x = none → H dx = none → dx ≠ x → sp (.ref x :: (vs ++ dvs)) (upd (upd H dx (.own x)) x (.ins C dx [])) (fun v H2 => v = .non ∧ Q (.ref x) H2) E) :
    wpAny (model X.prog X.w) X.A (call (.ref C) us) (EP X pins σ Q) X.xe s := by
  have hq := h (s.heap.objs.size + 1) s.heap.objs.size (I.hok.fresh (Nat.le_succ _)) (I.hok.fresh (Nat.le_refl _)) (Nat.ne_of_lt (Nat.lt_succ_self _))
  have I2 := Inv.made (C := C) I
  have r2 : Vals (V.ref (s.heap.objs.size + 1) :: (vs ++ dvs)) (Value.ref (s.heap.objs.size + 1) :: (us ++ ds)) := .cons rfl (r.append hd)
  have hl : (Value.ref (s.heap.objs.size + 1) :: us ++ ds).length = ps.length := by
    have z := r2.length
    rw [F.len _ _ _ _ hq] at z
    exact z.symm
  refine wpAny_call (make_map (f := f) I.kIn M.makes M.init (beq_iff_eq.mp M.fn) (codeAny_mono (F.run _ X.stack _ _ ⟨.ref (s.heap.objs.size + 1) :: us, []⟩ (.ref (s.heap.objs.size + 1) :: (us ++ ds)) _ _ E (hr.make C us [])
    (I2.env0.make C us []) (hb _ (.ref (s.heap.objs.size + 1) :: us) I2.kIn hl) r2 hq) fun z s' hq' => ?_))
  cases z with
  | error z => exact hx pins _ _ z s' I2 hq'
  | ok fl =>
    cases fl with
    | ret u =>
      obtain ⟨v, H', I3, rv, ev, q3⟩ := I2.after hq'
      subst ev
      exact ⟨rv, ⟨V.ref (s.heap.objs.size + 1), H', I3, rfl, q3⟩⟩
    | next => exact False.elim hq'
    | brk => exact False.elim hq'
    | cont => exact False.elim hq'
def tMakeSd (C : Addr) (sp : Sp) (dvs : List V) (E : L2.St → XK) (t : TA) : TE := fun σ H Q => t σ H fun vs H1 => ∀ x dx, H1 x = none → H1 dx = none → dx ≠ x →
  sp (.ref x :: (vs ++ dvs)) (upd (upd H1 dx (.own x)) x (.ins C dx [])) (fun v H2 => v = .non ∧ Q (.ref x) H2) (E σ)
theorem pe_makeSd {CX : CXT} {E : L2.St → XK} {sp : Sp} {t : TA} (M : Mk X.K C f) (F : FnOkG X.prog X.w X.K X.mg X.base CX k f fd ps sp) (hr : RoomG (k + 1) X.A) (hg : Gl X x) (hm : X.mg x = some (.ref C)) (hb : Binds X.K fd ps ds) (hd : Vals dvs ds) (hx : ∀ σ, PassesAt CX X σ (E σ))
    (ha : PA X (e :: es) t) (hdb : (x == ("__debug__" : Str)) = false := by decide) (he : starEach (e :: es) X.env = (false, eval e X.env) :: starEach es X.env := by rfl) (hpl : (backTo pos (starEach es X.env)).any (·.1) = false := by rfl) :
    PE X (.Call (.Name x p) (e :: es) [] pos) (tMakeSd C sp dvs E t) := by
  refine ⟨fun pins s σ H Q I h => ?_⟩
  refine wpAny_Call_Name_kw (ld_glob I hg hm ?_ hdb)
  refine PySem.W.callWith_K (h₀ := X.base) I.ok.mod.kin M.kp (thn (ha.run pos pins s σ H _ I h) fun us s1 ⟨vs, H1, I1, r, q⟩ => ⟨I1.kIn, ?_⟩) he hpl
  exact run_makeSd M F hr hb hd (hx σ) I1 r q
theorem Cn.stillCell {K : PySem.W.Frag} {S : Hp} {G : GS} {H : Hp} {p : Addr} {kc : Cell} {o : HO} (c : Cn K S ((p, kc) :: G) H) (ho : H p = some o) : Aft K S ((p, kc) :: G) H (upd S p o) G H := by
  have hs : S p = none := c.sep p (by simp [keysG])
  have nd := c.nd
  simp only [keysG, List.map_cons, List.nodup_cons] at nd
  have hno : p ∉ keysG G := nd.1
  refine ⟨Sub.new hs, ⟨fun a u e => ?_, nd.2, fun a ha => ?_, fun q hq => (c.cell q (List.mem_cons_of_mem _ hq)).up (Sub.new hs) rfl⟩, fun a u e m => ⟨e, fun z => m (by simp only [keysG, List.map_cons, List.mem_cons]; exact .inr z)⟩, fun a u e m z => ?_, fun _ h => h⟩
  · by_cases ha : a = p
    · subst ha; rw [upd_same] at e; cases e; exact ho
    · rw [upd_ne ha] at e; exact c.sub a u e
  · rw [upd_ne (fun z => hno (by rw [← z]; exact ha))]
    exact c.sep a (by simp only [keysG, List.map_cons, List.mem_cons]; exact .inr ha)
  · rw [upd_ne (fun y => m (by simp [keysG, y]))]; exact z
/-- C(..): ready, it is a still object -/
def dMake (C : Addr) (sp : DSp) (t : DTA) (dv : List D) : DTE := fun σ G Q R => t σ G (fun ds G1 => ∀ p, p ∉ keysG G1 → sp (.ref p :: (ds ++ dv)) [(p, .ins C [] [])] (fun d G2 => ∃ ns vs, d = .non ∧ G2 = [(p, .ins C ns vs)] ∧ Q (.obj C ns vs) G1) (fun cls fs _ => R cls fs σ G1)) R
theorem de_make (M : Mk X.K C f) (F : FnD X.prog X.w X.K X.mg X.base k f fd ps sp) (hr : RoomG (k + 1) X.A) (hg : Gl X x) (hm : X.mg x = some (.ref C)) (hb : Binds X.K fd ps ds) (hd : Dfl X.K dv dvs ds) (tk : Takes X W)
    (ha : DA X W (e :: es) t) (hdb : (x == ("__debug__" : Str)) = false := by decide) (he : starEach (e :: es) X.env = (false, eval e X.env) :: starEach es X.env := by rfl) (hpl : (backTo pos (starEach es X.env)).any (·.1) = false := by rfl) :
    DE X W (.Call (.Name x p) (e :: es) [] pos) (dMake C sp t dv) :=
  pe_imp (pe_makeSd (E := WE W) M F hr hg hm hb hd.val (fun σ => passAt tk σ) ha hdb he hpl) fun σV H P ⟨S, σ, G, Q, R, hc, hee, ht, hx, hq⟩ => by
    refine ⟨S, σ, G, _, R, hc, hee, ht, hx, fun vs H1 S1 xs G1 a1 r1 q1 => fun p dx hp hdx hne => ?_⟩
    have c0 := a1.cn
    have j1 := c0.junk (o := .own p) hdx
    have hp1 : upd H1 dx (.own p) p = none := by rw [upd_ne (fun z => hne z.symm)]; exact hp
    have n1 := j1.cn.newCell (o := .ins C dx []) (k := .ins C [] []) hp1 ⟨dx, [], upd_same, rfl, rfl⟩
    have a2 := j1.trans n1
    have hpg : p ∉ keysG G1 := c0.freshG hp
    -- the own cell alone
    have c2 : Cn X.K S1 ([(p, Cell.ins C [] [])] ++ G1) (upd (upd H1 dx (.own p)) p (.ins C dx [])) := (a2.cn.permA (List.perm_append_comm)).cn
    have a2' : Aft X.K S1 G1 H1 S1 ([(p, Cell.ins C [] [])] ++ G1) (upd (upd H1 dx (.own p)) p (.ins C dx [])) := a2.trans (a2.cn.permA (List.perm_append_comm))
    have c3 : Cn X.K S1 [(p, Cell.ins C [] [])] (upd (upd H1 dx (.own p)) p (.ins C dx [])) := c2.forget (List.sublist_append_left _ _)
    refine ⟨S1, [(p, Cell.ins C [] [])], .ref p :: (xs ++ dv), _, _, c3, ⟨_, _, rfl, rfl, r1.app (hd.rep S1)⟩, q1 p hpg, fun v H' S' d G' af rv q => ?_, fun cls dx' H' S' fs G' af xr xn q => ?_⟩
    · obtain ⟨ns, vs', rfl, rfl, q⟩ := q
      refine ⟨rv, ?_⟩
      have a3 := a2'.trans (c2.frame af)
      -- freeze the new one
      obtain ⟨dx2, fs, h1, h2, h3⟩ := a3.cn.cell (p, Cell.ins C ns vs') (by simp)
      have hs : S' p = none := a3.cn.sep p (by simp [keysG])
      have hxr : Rep X.K (upd S' p (.ins C dx2 fs)) (.obj C ns vs') (.ref p) := ⟨p, dx2, fs, rfl, upd_same, h2, h3.up (Sub.new hs)⟩
      have a4 := a3.cn.stillCell h1
      exact hq (.ref p) H' _ _ G1 (a1.trans (a3.trans a4)) hxr q
    · have a3 := a2'.trans (c2.frame af)
      have a4 := a3.trans (a3.cn.forgetA (List.sublist_append_right _ _))
      exact hx cls dx' σV H' S' σ fs G1 (a1.trans a4) (hee.up (a1.trans a4).sub) xr (fun c hc => ⟨Classical.byContradiction fun z => (a1.trans a2').there c z (xn c hc).1, (xn c hc).2.1, fun z => by
        obtain ⟨p', hp', e⟩ := List.mem_map.mp z
        obtain ⟨o, ho⟩ := (c2.cell p' (List.mem_append_right _ hp')).there
        rw [e, (xn c hc).1] at ho
        cases ho⟩) q
end
end DL
set_option Elab.async false
set_option linter.all false
set_option maxRecDepth 100000
set_option maxHeartbeats 4000000
namespace DL
open PySem PyProof.Rows L2
/-! ### one step at the head -/
theorem st {A B : Prop} (h : A = B) (b : B) : A := by rw [h]; exact b
theorem i_t {A B : Prop} (h : A) : if true = true then A else B := by rw [if_pos rfl]; exact h
theorem i_f {A B : Prop} (h : B) : if false = true then A else B := by rw [if_neg (by decide)]; exact h
theorem i_n {b : Bool} {A B : Prop} (h : if b = true then B else A) : if (!b) = true then A else B := by cases b <;> exact h
theorem i_c {b : Bool} {A B : Prop} (h1 : b = true → A) (h2 : b = false → B) : if b = true then A else B := by
  cases b with
  | true => exact h1 rfl
  | false => exact h2 rfl
section
variable {K : PySem.W.Frag} {σ : Ev} {G : GS} {Q : DK} {R : DXK} {i : Int} {b : Bool} {a : Str} {xs : List D} {ks : List Key} {kt : List (List Key)}
theorem m_nm {n : Nat} {d : D} (e : σ[n]? = some (some d)) (h : Q d G) : dName n σ G Q R := by
  show atS σ n fun d => Q d G
  unfold atS
  rw [e]
  exact h
theorem m_tr {A : Prop} (h : A) : True ∧ A := ⟨trivial, h⟩
theorem m_ty {α : Type} {A : Prop} {x : α} (h : A) : x = x ∧ A := ⟨rfl, h⟩
theorem m_tys {A : Prop} (h : A) : tyM "str" (.str a) G ∧ A := ⟨rfl, h⟩
theorem m_tyl {A : Prop} (h : A) : tyM "list" (.lst xs) G ∧ A := ⟨rfl, h⟩
theorem m_ln {α : Type} {A : Prop} {ys : List α} {n : Nat} (e : ys.length = n) (h : A) : ys.length = n ∧ A := ⟨e, h⟩
theorem m_sz {A : Prop} {ys : List D} (e : Nat.ble ys.length 1000 = true) (h : A) : ys.length ≤ sizeLine ∧ A := ⟨Nat.le_trans (Nat.le_of_ble_eq_true e) (Nat.le_trans (by decide) sizeLine_big), h⟩
theorem m_sz2 {A : Prop} {ys zs : List D} (e : Nat.ble (ys.length + zs.length) 1000 = true) (h : A) : ys.length + zs.length ≤ sizeLine ∧ A := ⟨Nat.le_trans (Nat.le_of_ble_eq_true e) (Nat.le_trans (by decide) sizeLine_big), h⟩
theorem m_szs {A : Prop} {z : Str} (e : Nat.ble z.length 1000 = true) (h : A) : z.length ≤ sizeLine ∧ A := ⟨Nat.le_trans (Nat.le_of_ble_eq_true e) (Nat.le_trans (by decide) sizeLine_big), h⟩
theorem m_nx {x : Ev → GS → Prop} {y : D → GS → Prop} {z u : Ev → GS → Prop} (h : x σ G) : (DEnds.mk x y z u).nx σ G := h
theorem m_rt {x : Ev → GS → Prop} {y : D → GS → Prop} {z u : Ev → GS → Prop} {d : D} (h : y d G) : (DEnds.mk x y z u).rt d G := h
theorem m_bk {x : Ev → GS → Prop} {y : D → GS → Prop} {z u : Ev → GS → Prop} (h : z σ G) : (DEnds.mk x y z u).bk σ G := h
theorem m_ct {x : Ev → GS → Prop} {y : D → GS → Prop} {z u : Ev → GS → Prop} (h : u σ G) : (DEnds.mk x y z u).ct σ G := h
theorem s_int_int (h : Q (.bl true) G) : dIsi K [.int i, .ty "int"] G Q := isi_p (n := "int") rfl (by decide) h
theorem s_int_bool (h : Q (.bl false) G) : dIsi K [.int i, .ty "bool"] G Q := isi_p (n := "int") rfl (by decide) h
theorem s_int_str (h : Q (.bl false) G) : dIsi K [.int i, .ty "str"] G Q := isi_p (n := "int") rfl (by decide) h
theorem s_int_tuple (h : Q (.bl false) G) : dIsi K [.int i, .ty "tuple"] G Q := isi_p (n := "int") rfl (by decide) h
theorem s_int_list (h : Q (.bl false) G) : dIsi K [.int i, .ty "list"] G Q := isi_p (n := "int") rfl (by decide) h
theorem s_int_dict (h : Q (.bl false) G) : dIsi K [.int i, .ty "dict"] G Q := isi_p (n := "int") rfl (by decide) h
theorem s_bl_int (h : Q (.bl true) G) : dIsi K [.bl b, .ty "int"] G Q := isi_p (n := "bool") rfl (by decide) h
theorem s_bl_bool (h : Q (.bl true) G) : dIsi K [.bl b, .ty "bool"] G Q := isi_p (n := "bool") rfl (by decide) h
theorem s_bl_str (h : Q (.bl false) G) : dIsi K [.bl b, .ty "str"] G Q := isi_p (n := "bool") rfl (by decide) h
theorem s_bl_tuple (h : Q (.bl false) G) : dIsi K [.bl b, .ty "tuple"] G Q := isi_p (n := "bool") rfl (by decide) h
theorem s_bl_list (h : Q (.bl false) G) : dIsi K [.bl b, .ty "list"] G Q := isi_p (n := "bool") rfl (by decide) h
theorem s_bl_dict (h : Q (.bl false) G) : dIsi K [.bl b, .ty "dict"] G Q := isi_p (n := "bool") rfl (by decide) h
theorem s_str_int (h : Q (.bl false) G) : dIsi K [.str a, .ty "int"] G Q := isi_p (n := "str") rfl (by decide) h
theorem s_str_bool (h : Q (.bl false) G) : dIsi K [.str a, .ty "bool"] G Q := isi_p (n := "str") rfl (by decide) h
theorem s_str_str (h : Q (.bl true) G) : dIsi K [.str a, .ty "str"] G Q := isi_p (n := "str") rfl (by decide) h
theorem s_str_tuple (h : Q (.bl false) G) : dIsi K [.str a, .ty "tuple"] G Q := isi_p (n := "str") rfl (by decide) h
theorem s_str_list (h : Q (.bl false) G) : dIsi K [.str a, .ty "list"] G Q := isi_p (n := "str") rfl (by decide) h
theorem s_str_dict (h : Q (.bl false) G) : dIsi K [.str a, .ty "dict"] G Q := isi_p (n := "str") rfl (by decide) h
theorem s_tup_int (h : Q (.bl false) G) : dIsi K [.tup xs, .ty "int"] G Q := isi_p (n := "tuple") rfl (by decide) h
theorem s_tup_bool (h : Q (.bl false) G) : dIsi K [.tup xs, .ty "bool"] G Q := isi_p (n := "tuple") rfl (by decide) h
theorem s_tup_str (h : Q (.bl false) G) : dIsi K [.tup xs, .ty "str"] G Q := isi_p (n := "tuple") rfl (by decide) h
theorem s_tup_tuple (h : Q (.bl true) G) : dIsi K [.tup xs, .ty "tuple"] G Q := isi_p (n := "tuple") rfl (by decide) h
theorem s_tup_list (h : Q (.bl false) G) : dIsi K [.tup xs, .ty "list"] G Q := isi_p (n := "tuple") rfl (by decide) h
theorem s_tup_dict (h : Q (.bl false) G) : dIsi K [.tup xs, .ty "dict"] G Q := isi_p (n := "tuple") rfl (by decide) h
theorem s_lst_int (h : Q (.bl false) G) : dIsi K [.lst xs, .ty "int"] G Q := isi_p (n := "list") rfl (by decide) h
theorem s_lst_bool (h : Q (.bl false) G) : dIsi K [.lst xs, .ty "bool"] G Q := isi_p (n := "list") rfl (by decide) h
theorem s_lst_str (h : Q (.bl false) G) : dIsi K [.lst xs, .ty "str"] G Q := isi_p (n := "list") rfl (by decide) h
theorem s_lst_tuple (h : Q (.bl false) G) : dIsi K [.lst xs, .ty "tuple"] G Q := isi_p (n := "list") rfl (by decide) h
theorem s_lst_list (h : Q (.bl true) G) : dIsi K [.lst xs, .ty "list"] G Q := isi_p (n := "list") rfl (by decide) h
theorem s_lst_dict (h : Q (.bl false) G) : dIsi K [.lst xs, .ty "dict"] G Q := isi_p (n := "list") rfl (by decide) h
theorem s_non_int (h : Q (.bl false) G) : dIsi K [.non, .ty "int"] G Q := isi_p (n := "NoneType") rfl (by decide) h
theorem s_non_bool (h : Q (.bl false) G) : dIsi K [.non, .ty "bool"] G Q := isi_p (n := "NoneType") rfl (by decide) h
theorem s_non_str (h : Q (.bl false) G) : dIsi K [.non, .ty "str"] G Q := isi_p (n := "NoneType") rfl (by decide) h
theorem s_non_tuple (h : Q (.bl false) G) : dIsi K [.non, .ty "tuple"] G Q := isi_p (n := "NoneType") rfl (by decide) h
theorem s_non_list (h : Q (.bl false) G) : dIsi K [.non, .ty "list"] G Q := isi_p (n := "NoneType") rfl (by decide) h
theorem s_non_dict (h : Q (.bl false) G) : dIsi K [.non, .ty "dict"] G Q := isi_p (n := "NoneType") rfl (by decide) h
theorem s_dic_int (h : Q (.bl false) G) : dIsi K [.dic ks xs, .ty "int"] G Q := isi_p (n := "dict") rfl (by decide) h
theorem s_dic_bool (h : Q (.bl false) G) : dIsi K [.dic ks xs, .ty "bool"] G Q := isi_p (n := "dict") rfl (by decide) h
theorem s_dic_str (h : Q (.bl false) G) : dIsi K [.dic ks xs, .ty "str"] G Q := isi_p (n := "dict") rfl (by decide) h
theorem s_dic_tuple (h : Q (.bl false) G) : dIsi K [.dic ks xs, .ty "tuple"] G Q := isi_p (n := "dict") rfl (by decide) h
theorem s_dic_list (h : Q (.bl false) G) : dIsi K [.dic ks xs, .ty "list"] G Q := isi_p (n := "dict") rfl (by decide) h
theorem s_dic_dict (h : Q (.bl true) G) : dIsi K [.dic ks xs, .ty "dict"] G Q := isi_p (n := "dict") rfl (by decide) h
theorem s_dit_int (h : Q (.bl false) G) : dIsi K [.dit kt xs, .ty "int"] G Q := isi_p (n := "dict") rfl (by decide) h
theorem s_dit_bool (h : Q (.bl false) G) : dIsi K [.dit kt xs, .ty "bool"] G Q := isi_p (n := "dict") rfl (by decide) h
theorem s_dit_str (h : Q (.bl false) G) : dIsi K [.dit kt xs, .ty "str"] G Q := isi_p (n := "dict") rfl (by decide) h
theorem s_dit_tuple (h : Q (.bl false) G) : dIsi K [.dit kt xs, .ty "tuple"] G Q := isi_p (n := "dict") rfl (by decide) h
theorem s_dit_list (h : Q (.bl false) G) : dIsi K [.dit kt xs, .ty "list"] G Q := isi_p (n := "dict") rfl (by decide) h
theorem s_dit_dict (h : Q (.bl true) G) : dIsi K [.dit kt xs, .ty "dict"] G Q := isi_p (n := "dict") rfl (by decide) h
end
end DL
set_option Elab.async false
set_option linter.all false
set_option maxRecDepth 100000
set_option maxHeartbeats 4000000
namespace DL
open PySem PySem.Spec PyProof.Rows L2
theorem walk_ofW {l : PySem.W.OpenLaw} {n k : Nat} {q : Program} {loose : List Str} {XP : (Str → Option Value) → Heap → Prop} {YP : World → Heap → Prop} {d : DefRec} {x : Str}
    (hn : l.most = some n) (hn2 : n ≤ sizeLine) (hdf : d.params.defaults = []) (hr : RoomG k callerA)
    (F : ∀ (w : World) (mg : Str → Option Value) (fa : Addr) (h : Heap), YP w h → h.Ns mainGlobals mg → mg d.name = some (.ref fa) →
      ∃ (K : PySem.W.Frag) (fd : FuncData) (sp : DSp), K.In h ∧ (∀ (s : Shared) (u : Value), BindsTo s fd ⟨[u], []⟩ [(x, u)]) ∧
        (∀ ns : List Int, ns.length ≤ n → sp [.lst (ns.map D.int)] [] (fun d _ => d = .bl true) dE0) ∧
        ∀ base : Heap, K.In base → base.Ns mainGlobals mg → FnD l.prog w K mg base k fa fd [x] sp) :
    PySem.W.WalkO q loose XP YP l.row.toRowW d [] (fun f vs => PySem.call f vs) := by
  refine Att.attach_call hn hdf fun w s₀ s₁ mg mb fa o pm cd doc a vs ns G Y ho hd hcd hmg hobj hints hlen hg => ?_
  obtain ⟨K, fd, sp, KX, hb, hsp, hF⟩ := F w mg fa _ Y G.T.g hmg
  exact law_callG KX G.T.g G.T.b G.T.builtins G.T.nolimit hg hobj hints (Nat.le_trans hlen hn2) hr hF hb (fun H hO hS => law_sp hS (hsp ns hlen)) fun H e s' => cx_none H s₁ e s'
end DL
set_option Elab.async false
set_option linter.all false
set_option maxRecDepth 100000
set_option maxHeartbeats 4000000
namespace DL
open PySem PyProof.Rows L2
/-- with all arguments given, though some have defaults -/
theorem Pm.mkAll {P : Program} {w : World} {K : PySem.W.Frag} {mg : Str → Option Value} {base : Heap} {x qual : Str} {st : Stmt} {dvs : List V} {kws : List (Str × V)} {f : Addr} {fd : FuncData} {ps : List Str} {k : Nat} {sp : DSp} (F : FunD K x qual (defArgs st) (defBody st) (defScope st) dvs kws f fd) (h : FnD P w K mg base k f fd ps sp) (hd : dvs ≠ [])
    (hb : ∀ (T : Addr) (kV doc pm : Value) (an : Option Addr) (cdv ct : Value) (us its : List Value), us.length = ps.length → its.length = dvs.length →
      ∃ k, bindArgs (PySem.W.fnOf x qual (defArgs st) (defBody st) (defScope st) (.ref T) kV doc pm an cdv ct) ⟨us, []⟩ = seqItems? (.ref T) >>= k ∧ k (some its.toArray) = pure (ps.zip us)) : Pm P w K mg base k f ps [] sp :=
  ⟨⟨fd, h, fun j hj => by
    obtain ⟨ds, h1, h2⟩ := F.binds1 (ps := ps) ps.length dvs.length hd (by rw [Nat.sub_self, Nat.add_zero]) fun T kV doc pm an cdv ct us its hu hi => by
      obtain ⟨k, h3, h4⟩ := hb T kV doc pm an cdv ct us its hu hi
      exact ⟨k, h3, by rw [h4, List.drop_of_length_le (by omega), List.append_nil]⟩
    have h1 : Vals (dvs.drop dvs.length) ds := h1
    rw [List.drop_of_length_le (Nat.le_refl _)] at h1
    cases h1
    exact ⟨[], [], h2, by simpa using Dfl.nil⟩⟩, F.kp⟩
theorem Pm.up {P : Program} {w : World} {K : PySem.W.Frag} {mg : Str → Option Value} {base : Heap} {j k : Nat} {f : Addr} {ps : List Str} {dv : List D} {sp : DSp} (p : Pm P w K mg base j f ps dv sp) (h : j ≤ k) : Pm P w K mg base k f ps dv sp := by
  obtain ⟨fd, h1, h2⟩ := p.ex
  exact ⟨⟨fd, h1.mono h, h2⟩, p.kp⟩
section
variable {X : Cx} {W : WX} {k : Nat} {f C : Addr} {fd : FuncData} {ps : List Str} {sp : DSp} {x m : Str} {p pos apos : Pos} {e o : Expr} {es : List Expr} {t : DTA} {to tv te : DTE} {dv : List D}
/-! ### classes by promises -/
theorem de_makeP (M : Mk X.K C f) (F : Pm X.prog X.w X.K X.mg X.base k f ps dv sp) (j : Nat) (hr : RoomG (k + 1) X.A) (hg : Gl X x) (hm : X.mg x = some (.ref C)) (tk : Takes X W) (ha : DA X W (e :: es) t) (hj : j ≤ dv.length := by decide)
    (hdb : (x == ("__debug__" : Str)) = false := by decide) (he : starEach (e :: es) X.env = (false, eval e X.env) :: starEach es X.env := by rfl) (hpl : (backTo pos (starEach es X.env)).any (·.1) = false := by rfl) :
    DE X W (.Call (.Name x p) (e :: es) [] pos) (dMake C sp t (dv.drop j)) := by
  obtain ⟨fd, h1, h2⟩ := F.ex
  obtain ⟨dvs, ds, h3, h4⟩ := h2 j hj
  exact de_make M h1 hr hg hm h3 h4 tk ha hdb he hpl
theorem de_methP {pl : Sem Bool} (he : DE X W o to) (c : Cls X.K C) (hm : Meth X.K C m f) (F : Pm X.prog X.w X.K X.mg X.base k f ps dv sp) (j : Nat) (hr : RoomG k X.A) (tk : Takes X W) (ha : DA X W (e :: es) t) (hj : j ≤ dv.length := by decide)
    (hst : starEach (e :: es) X.env = (false, eval e X.env) :: starEach es X.env := by rfl) (hpl : (backTo pos (starEach es X.env)).any (·.1) = false := by rfl)
    (ht : eval (.Call (.Attribute o m apos) (e :: es) [] pos) X.env = (do
      let ov ← eval o X.env
      standAt apos.atName
      let (f, first) ← holding [ov] (getMethod ov m pl)
      callWith pos f first (backTo pos (starEach (e :: es) X.env)) (backToKw pos (keywordEach [] X.env))) := by rfl) :
    DE X W (.Call (.Attribute o m apos) (e :: es) [] pos) (dMeth C m sp to t (dv.drop j)) := by
  obtain ⟨fd, h1, h2⟩ := F.ex
  obtain ⟨dvs, ds, h3, h4⟩ := h2 j hj
  exact de_meth (pl := pl) he c hm h1 hr h3 h4 tk ha hst hpl ht
theorem de_methP0 {pl : Sem Bool} (he : DE X W o to) (c : Cls X.K C) (hm : Meth X.K C m f) (F : Pm X.prog X.w X.K X.mg X.base k f ps dv sp) (hr : RoomG k X.A) (tk : Takes X W)
    (ht : eval (.Call (.Attribute o m apos) [] [] pos) X.env = (do
      let ov ← eval o X.env
      standAt apos.atName
      let (f, first) ← holding [ov] (getMethod ov m pl)
      callWith pos f first (backTo pos (starEach [] X.env)) (backToKw pos (keywordEach [] X.env))) := by rfl) :
    DE X W (.Call (.Attribute o m apos) [] [] pos) (dMeth C m sp to dNil dv) := by
  obtain ⟨fd, h1, h2⟩ := F.ex
  obtain ⟨dvs, ds, h3, h4⟩ := h2 0 (Nat.zero_le _)
  exact de_meth0 (pl := pl) he c hm h1 hr h3 h4 tk ht
/-- o.f, o of the class at C -/
def fldQ (C : Addr) (f : Str) (i : Nat) (d : D) (G : GS) (Q : DK) : Prop := ∃ ns vs x, isIns C d G ns vs ∧ fldAt f ns vs = some x ∧ Q x G
def dFldC (C : Addr) (f : Str) (i : Nat) (te : DTE) : DTE := fun σ G Q R => te σ G (fun d G1 => fldQ C f i d G1 Q) R
theorem de_fldC {fl : Str} {i : Nat} (c : Cls X.K C) (n : NoAttr X.K C fl) (he : DE X W e to) (hb : attributeBase e fl X.env (eval e X.env) = eval e X.env := by rfl) : DE X W (.Attribute e fl pos) (dFldC C fl i to) :=
  pe_imp (L2.pe_fld he hb) fun σV H P ⟨S, σ, G, Q, R, hc, hee, ht, hx, hq⟩ => by
    refine ⟨S, σ, G, _, R, hc, hee, ht, hx, fun v H1 S1 d G1 a1 r1 q1 => ?_⟩
    obtain ⟨ns, vs, z, hi, h3, q⟩ := q1
    obtain ⟨a, dx, fs, rfl, h4, h5, h6⟩ := ins_of a1.cn r1 hi
    obtain ⟨u, h7, h8⟩ := fld_lookup h5 h6 h3
    exact ⟨a, C, dx, fs, u, rfl, h4, c, n, h7, hq u H1 S1 z G1 a1 h8 q⟩
def setQ (C : Addr) (f : Str) (y : D) (o : D) (G : GS) (A : GS → Prop) : Prop := ∃ p n ns vs, o = .ref p ∧ G[n]? = some (p, Cell.ins C ns vs) ∧ ns.length < 1000 ∧ A (G.set n (p, .ins C (putNs f ns) (putVs f y ns vs)))
def dFldSetC (C : Addr) (f : Str) (to tv : DTE) : DTS := fun N R σ G => tv σ G (fun y G1 => to σ G1 (fun o G2 => setQ C f y o G2 fun G3 => N.nx σ G3) R) R
theorem ds_fldC {fl : Str} {pos' : Pos} {value : Expr} (c : Cls X.K C) (n : NoAttr X.K C fl) (ho : DE X W o to) (hv : DE X W value tv) (hs : swapsWith value (some (.Attribute o fl pos')) pos.line X.env = pure false := by rfl) : DS X W (.Assign [.Attribute o fl pos'] value pos) (dFldSetC C fl to tv) :=
  ps_imp (L2.ps_fld ho hv hs) fun D σV H ⟨S, σ, G, N, R, hc, hee, ht, hx, hq⟩ => by
    refine ⟨S, σ, G, _, R, hc, hee, ht, hx, fun y H1 S1 yd G1 a1 r1 q1 => ?_⟩
    refine ⟨S1, σ, G1, _, R, a1.cn, hee.up a1.sub, q1, hx.aft a1, fun ov H2 S2 od G2 a2 r2 q2 => ?_⟩
    obtain ⟨p, n', ns, vs, rfl, hn, h3, q⟩ := q2
    obtain ⟨dx, fs, h4, h5, h6⟩ := a2.cn.cell _ (List.mem_of_getElem? hn)
    obtain ⟨h7, h8⟩ := put_fld (r1.up a2.sub) h5 h6
    have a12 := a1.trans a2
    have a3 := a2.cn.write (k' := .ins C (putNs fl ns) (putVs fl yd ns vs)) (o := .ins C dx (putF fl y fs)) hn ⟨dx, _, upd_same, h7, h8⟩
    have hl : fs.length < 1000 := by rw [← h5, List.length_map] at h3; exact h3
    exact ⟨p, C, dx, fs, r2, h4, c, n, hl, hq.nx σV _ _ σ _ (a12.trans a3) (hee.up (a12.trans a3).sub) q⟩
/-! ### a call of a local name that holds a def -/
def dCallL (i : Nat) (tab : List (Addr × DSp)) (t : DTA) : DTE := fun σ G Q R => atS σ i fun d => ∃ f sp, d = .ref f ∧ (f, sp) ∈ tab ∧ t σ G (fun ds G1 => dRun sp ds σ G1 Q R) R
theorem de_callL {i : Nat} {tab : List (Addr × DSp)} (F : ∀ q ∈ tab, Pm X.prog X.w X.K X.mg X.base k q.1 ps [] q.2) (hr : RoomG k X.A) (tk : Takes X W) (ha : DA X W (e :: es) t) (hN : X.N[i]? = some x := by rfl) (hv : Vis X.env.scope x := by first | exact Or.inl rfl | exact Or.inr (Or.inl rfl) | exact Or.inr (Or.inr rfl))
    (hdb : (x == ("__debug__" : Str)) = false := by decide) (hcd : (x == ("__classdict__" : Str)) = false := by decide)
    (he : starEach (e :: es) X.env = (false, eval e X.env) :: starEach es X.env := by rfl) (hpl : (backTo pos (starEach es X.env)).any (·.1) = false := by rfl) : DE X W (.Call (.Name x p) (e :: es) [] pos) (dCallL i tab t) := by
  refine ⟨fun pins s σV H P I h => ?_⟩
  obtain ⟨S, σ, G, Q, R, hc, hee, ht, hx, hq⟩ := h
  unfold dCallL atS at ht
  split at ht
  · rename_i d hd
    obtain ⟨f, sp, rfl, hm, ht⟩ := ht
    obtain ⟨v, hv1, hv2⟩ := hee.2 i _ hd
    obtain rfl : v = .ref f := hv2
    obtain ⟨fd, F1, F2⟩ := (F _ hm).ex
    obtain ⟨dvs, ds, hb, hdf⟩ := F2 0 (Nat.zero_le _)
    refine wpAny_Call_Name_kw (thn ((pe_var (pos := p) hN hv hdb hcd).run pins s σV H (fun v H1 => v = .ref f ∧ H1 = H) I ⟨.ref f, hv1, rfl, rfl⟩) fun u s1 ⟨v, H1, I1, r1, q1⟩ => ?_)
    obtain ⟨rfl, rfl⟩ := q1
    cases r1
    refine PySem.W.callWith_K (h₀ := X.base) I.ok.mod.kin (F _ hm).kp (thn (ha.run pos pins s1 σV H1 (fun vs H2 => conc X.K sp (vs ++ dvs) H2 P (WE W σV)) I1 ⟨S, σ, G, _, R, hc, hee, ht, hx, fun vs H2 S2 xs G2 a2 r2 q2 => ?_⟩) fun us s2 ⟨vs, H2, I2, r, q⟩ => ⟨I2.kIn, ?_⟩) he hpl
    · exact run_conc a2.cn (hee.up a2.sub) (hx.aft a2) (by simpa using r2.app (hdf.rep S2)) (by simpa using q2) fun v H3 S3 d3 G3 a3 r3 q3 => hq v H3 S3 d3 G3 (a2.trans a3) r3 q3
    · exact run_fnSd F1 hr hb hdf.val (passAt tk σV) I2 r q
  · exact ht.elim
end
/-! ### opened -/
section
variable {K : PySem.W.Frag} {σ : Ev} {G : GS} {Q : DK} {R : DXK} {N : DEnds} {te ta tv to : DTE} {tr : DTA} {C : Addr} {f m : Str} {sp : DSp} {dv : List D} {xs : List D} {i j : Int} {p : Addr} {n : Nat} {ns : List Str} {vs : List D} {x y : D} {A : Prop} {z : Str}
def mkQ (C : Addr) (sp : DSp) (ds : List D) (σ : Ev) (G : GS) (Q : DK) (R : DXK) : Prop := ∀ p, p ∉ keysG G → sp (.ref p :: ds) [(p, .ins C [] [])] (fun d G2 => ∃ ns vs, d = .non ∧ G2 = [(p, .ins C ns vs)] ∧ Q (.obj C ns vs) G) (fun cls fs _ => R cls fs σ G)
def mthQ (C : Addr) (m : Str) (o : D) (G : GS) (A : Prop) : Prop := (∃ ns vs, isIns C o G ns vs ∧ m ∉ ns) ∧ A
theorem r_make : dMake C sp tr dv σ G Q R = tr σ G (fun ds G1 => mkQ C sp (ds ++ dv) σ G1 Q R) R := propext Iff.rfl
theorem r_meth : dMeth C m sp to tr dv σ G Q R = to σ G (fun o G1 => mthQ C m o G1 (tr σ G1 (fun ds G2 => dRun sp (o :: (ds ++ dv)) σ G2 Q R) R)) R := propext Iff.rfl
theorem r_fldC : dFldC C f n te σ G Q R = te σ G (fun d G1 => fldQ C f n d G1 Q) R := propext Iff.rfl
theorem r_fldS : dFldSetC C f to tv N R σ G = tv σ G (fun y G1 => to σ G1 (fun o G2 => setQ C f y o G2 fun G3 => N.nx σ G3) R) R := propext Iff.rfl
def fldIx (f : Str) : List Str → Option Nat
  | [] => none
  | n :: ns => if f = n then some 0 else (fldIx f ns).map (· + 1)
theorem fldAt_ix : ∀ {n : Nat} {ns : List Str} {vs : List D}, fldIx f ns = some n → fldAt f ns vs = vs[n]?
  | _, [], _, h => by cases h
  | _, _ :: _, [], h => by simp [fldAt]
  | i, n :: ns, v :: vs, h => by
    unfold fldIx at h
    unfold fldAt
    by_cases hf : f = n
    · rw [if_pos hf] at h ⊢
      cases h
      rfl
    · rw [if_neg hf] at h ⊢
      rw [Option.map_eq_some_iff] at h
      obtain ⟨k, hk, rfl⟩ := h
      rw [fldAt_ix hk]
      rfl
theorem m_fobj (e : decide (fldIx f ns = some n) = true) (e2 : vs[n]? = some x) (h : Q x G) : fldQ C f n (.obj C ns vs) G Q := ⟨ns, vs, x, .inl rfl, (fldAt_ix (of_decide_eq_true e)).trans e2, h⟩
theorem m_mobj (e : decide (m ∈ ns) = false) (h : A) : mthQ C m (.obj C ns vs) G A := ⟨⟨ns, vs, .inl rfl, of_decide_eq_false e⟩, h⟩
theorem putNs_new : ∀ {ns : List Str}, f ∉ ns → putNs f ns = ns ++ [f]
  | [], _ => rfl
  | n :: ns, h => by
    simp only [List.mem_cons, not_or] at h
    unfold putNs
    rw [if_neg (fun e => h.1 e.symm), putNs_new h.2]
    rfl
theorem putVs_new : ∀ {ns : List Str} {vs : List D}, f ∉ ns → ns.length = vs.length → putVs f y ns vs = vs ++ [y]
  | [], [], _, _ => rfl
  | [], _ :: _, _, h => by cases h
  | _ :: _, [], _, h => by cases h
  | n :: ns, v :: vs, h, hl => by
    simp only [List.mem_cons, not_or] at h
    unfold putVs
    rw [if_neg (fun e => h.1 e.symm), putVs_new h.2 (by simpa using hl)]
    rfl
/-- a new attribute of the own cell -/
theorem m_new {B : GS → Prop} {Gr : GS} (e : decide (f ∈ ns) = false) (hl : ns.length = vs.length) (hs : Nat.ble ns.length 999 = true) (h : B ((p, .ins C (ns ++ [f]) (vs ++ [y])) :: Gr)) : setQ C f y (.ref p) ((p, .ins C ns vs) :: Gr) B :=
  ⟨p, 0, ns, vs, rfl, rfl, Nat.lt_succ_of_le (Nat.le_of_ble_eq_true hs), by
    rw [putNs_new (of_decide_eq_false e), putVs_new (of_decide_eq_false e) hl]
    exact h⟩
theorem r_enumL {QI : List D → (GS → Prop) → GS → Prop} (h : QI (enumD xs) (fun _ => True) G) : (match [D.lst xs] with | [d] => srcL G d fun xs ok => QI (enumD xs) ok G | _ => False) := h
theorem c_listL : dList [.lst xs] G Q = Q (.lst xs) G := propext Iff.rfl
theorem c_listT : dList [.tup xs] G Q = Q (.lst xs) G := propext Iff.rfl
theorem c_tupL : dTuple [.lst xs] G Q = Q (.tup xs) G := propext Iff.rfl
theorem c_tupT : dTuple [.tup xs] G Q = Q (.tup xs) G := propext Iff.rfl
def rvq (d : D) (G : GS) (Q : DK) : Prop := match d with | .lst xs => Q (.lst xs.reverse) G | .ref p => ∃ xs, (p, Cell.lst xs) ∈ G ∧ Q (.lst xs.reverse) G | _ => False
theorem r_rev : dRevL te σ G Q R = te σ G (fun d G1 => rvq d G1 Q) R := propext Iff.rfl
theorem z_rvL : rvq (.lst xs) G Q = Q (.lst xs.reverse) G := propext Iff.rfl
def enq (ds : List D) (G : GS) (QI : List D → (GS → Prop) → GS → Prop) : Prop := match ds with | [d] => srcL G d fun xs ok => QI (enumD xs) ok G | _ => False
theorem r_enum {QI : List D → (GS → Prop) → GS → Prop} : dEnum tr σ G QI R = tr σ G (fun ds G1 => enq ds G1 QI) R := propext Iff.rfl
theorem z_enL {QI : List D → (GS → Prop) → GS → Prop} : enq [.lst xs] G QI = QI (enumD xs) (fun _ => True) G := propext Iff.rfl
theorem run_1 {ds : List D} {c : Addr × Cell} {Gr : GS} (h : sp ds [c] (fun d G' => Q d (G' ++ Gr)) fun cls fs G' => R cls fs σ (G' ++ Gr)) : dRun sp ds σ (c :: Gr) Q R := ⟨1, h⟩
end
end DL
set_option Elab.async false
set_option linter.all false
set_option maxRecDepth 100000
set_option maxHeartbeats 4000000
namespace DL
open PySem PyProof.Rows L2
/-! ### plain data, by depth -/
structure PLn (n : Nat) (x : D) : Prop where
  ex : ∃ p, D.py x = some p ∧ PyData.canLay0 p = true ∧ p.depth ≤ n
theorem PLn.pl {n : Nat} {x : D} (h : PLn n x) (hn : n ≤ 60) : PLd x := by
  obtain ⟨p, h1, h2, h3⟩ := h.ex
  refine ⟨p, h1, ?_⟩
  unfold SeqAt.shaped
  rw [h2, Bool.true_and, decide_eq_true_eq]
  omega
theorem PLn.le {n m : Nat} {x : D} (h : PLn n x) (hn : n ≤ m) : PLn m x := by
  obtain ⟨p, h1, h2, h3⟩ := h.ex
  exact ⟨p, h1, h2, Nat.le_trans h3 hn⟩
theorem pn_int {i : Int} : PLn 1 (.int i) := ⟨.int i, rfl, by simp [PyData.canLay0], by simp [PyData.depth]⟩
theorem pn_bl {i : Bool} : PLn 1 (.bl i) := ⟨.bool i, rfl, by cases i <;> decide +kernel, by simp [PyData.depth]⟩
theorem pn_non : PLn 1 .non := ⟨.none, rfl, by decide +kernel, by simp [PyData.depth]⟩
theorem pn_str {z : Str} (h : okStr z) : PLn 1 (.str z) := ⟨.str z, rfl, h, depth_str⟩
theorem pys_pn {n : Nat} : ∀ {xs : List D}, (∀ x ∈ xs, PLn n x) → ∃ ps, D.pys xs = some ps ∧ PyData.canLayAll0 ps = true ∧ PyData.depthAll ps ≤ n
  | [], _ => ⟨[], rfl, rfl, by simp [PyData.depthAll]⟩
  | x :: xs, h => by
    obtain ⟨p, h1, h2, h3⟩ := (h x List.mem_cons_self).ex
    obtain ⟨ps, h4, h5, h6⟩ := pys_pn (xs := xs) fun y hy => h y (List.mem_cons_of_mem _ hy)
    refine ⟨p :: ps, by simp [D.pys, h1, h4], by simp only [PyData.canLayAll0, Bool.and_eq_true]; exact ⟨h2, h5⟩, ?_⟩
    simp only [PyData.depthAll]
    omega
theorem pn_tup {n : Nat} {xs : List D} (h : ∀ x ∈ xs, PLn n x) : PLn (n + 1) (.tup xs) := by
  obtain ⟨ps, h1, h2, h3⟩ := pys_pn h
  exact ⟨.tuple ps, by simp [D.py, h1], by simp only [PyData.canLay0]; exact h2, by simp only [PyData.depth]; omega⟩
theorem pn_lst {n : Nat} {xs : List D} (h : ∀ x ∈ xs, PLn n x) : PLn (n + 1) (.lst xs) := by
  obtain ⟨ps, h1, h2, h3⟩ := pys_pn h
  exact ⟨.list ps, by simp [D.py, h1], by simp only [PyData.canLay0]; exact h2, by simp only [PyData.depth]; omega⟩
theorem eqd_refl {n : Nat} {x : D} (h : PLn n x) : eqd x x = true := by
  obtain ⟨p, h1, h2, _⟩ := h.ex
  unfold eqd
  rw [h1]
  exact PySem.SeqAt.eqv_refl p h2
theorem eq_self {n : Nat} {x : D} {G : GS} {Q : DK} (h : PLn n x) (hn : n ≤ 60) (q : Q (.bl true) G) : dEq x x G Q := eq_pl (h.pl hn) (h.pl hn) (by rw [eqd_refl h]; exact q)
theorem ne_self {n : Nat} {x : D} {G : GS} {Q : DK} (h : PLn n x) (hn : n ≤ 60) (q : Q (.bl false) G) : dNe x x G Q := ne_pl (h.pl hn) (h.pl hn) (by rw [eqd_refl h]; exact q)
theorem in_ints {n : Int} {ns : List Int} {G : GS} {Q : DK} (q : Q (.bl (decide (n ∈ ns))) G) : dIn (.int n) (.lst (ns.map D.int)) G Q := by
  have e : D.pys (ns.map D.int) = some (ns.map PyData.int) := by
    clear q
    induction ns with
    | nil => rfl
    | cons n ns ih => simp [D.pys, D.py, ih]
  obtain ⟨p, h1, h2⟩ := ((pn_lst (n := 1) (xs := ns.map D.int) fun x hx => by obtain ⟨i, _, rfl⟩ := List.mem_map.mp hx; exact pn_int).pl (by decide))
  have h3 : p = .list (ns.map PyData.int) := by
    have : D.py (.lst (ns.map D.int)) = some (.list (ns.map PyData.int)) := by simp [D.py, e]
    rw [this] at h1
    exact (Option.some.inj h1).symm
  subst h3
  obtain ⟨p2, h4, h5⟩ := (pn_int (i := n)).pl (by decide)
  cases h4
  refine .inr ⟨.int n, _, .inl rfl, .inl h1, h5, h2, ?_⟩
  have e2 : ((ns.map PyData.int).any fun z => PyData.eqv z (.int n)) = decide (n ∈ ns) := by
    rw [Bool.eq_iff_iff]
    simp [List.any_eq_true, PyData.eqv]
  rw [e2]
  exact q
theorem atI_nat {α : Type} {l : List α} {i : Nat} {v : α} (h : l[i]? = some v) {k : Int} (hk : k = i) : L2.atI l k = some v := by
  subst hk
  have hl := (List.getElem?_eq_some_iff.mp h).1
  unfold L2.atI
  have e : ixN l.length (i : Int) = some i := by
    unfold ixN
    rw [if_pos (by omega), if_pos (by omega)]
    rfl
  rw [e]
  exact h
theorem cut_take {xs : List D} {i : Nat} (h : i ≤ xs.length) : DL.cutD xs none (some (i : Int)) = xs.take i := by
  unfold DL.cutD
  have e1 : HT.sIx xs.length 0 none = 0 := rfl
  have e2 : HT.sIx xs.length xs.length (some (i : Int)) = i := by
    rw [HT.sIx_nat]
    omega
  rw [e1, e2]
  simp
end DL
set_option Elab.async false
set_option linter.all false
set_option maxRecDepth 100000
set_option maxHeartbeats 4000000
namespace DL
open PySem PyProof.Rows L2
/-! ### calls with keywords: the values picked in the parameters' order -/
def pick {α : Type} (pm : List Nat) (l : List α) : List α := pm.filterMap fun i => l[i]?
theorem vals_pick {vs : List V} {us : List Value} (h : Vals vs us) : ∀ pm : List Nat, Vals (pick pm vs) (pick pm us)
  | [] => .nil
  | i :: pm => by
    unfold pick
    rw [List.filterMap_cons, List.filterMap_cons]
    cases e : vs[i]? with
    | none =>
      have : us[i]? = none := by
        rw [List.getElem?_eq_none_iff] at e ⊢
        rw [← h.length]
        exact e
      rw [this]
      exact vals_pick h pm
    | some v =>
      obtain ⟨u, h1, h2⟩ := h.get e
      rw [h1]
      exact .cons h2 (vals_pick h pm)
theorem reps_pick {K : PySem.W.Frag} {S : Hp} {ds : List D} {vs : List V} (h : Reps K S ds vs) : ∀ pm : List Nat, Reps K S (pick pm ds) (pick pm vs)
  | [] => Reps.nil
  | i :: pm => by
    unfold pick
    rw [List.filterMap_cons, List.filterMap_cons]
    cases e : ds[i]? with
    | none =>
      have : vs[i]? = none := by
        rw [List.getElem?_eq_none_iff] at e ⊢
        rw [h.length]
        exact e
      rw [this]
      exact reps_pick h pm
    | some d =>
      obtain ⟨u, h1, h2⟩ := h.get' e
      rw [h1]
      exact Reps.cons h2 (reps_pick h pm)
/-- a def's promise, called with n values and the keywords ks; pm: where each parameter's value stands among values, keywords' values, defaults -/
structure PmN (P : Program) (w : World) (K : PySem.W.Frag) (mg : Str → Option Value) (base : Heap) (k : Nat) (f : Addr) (ps : List Str) (n : Nat) (ks : List Str) (pm : List Nat) (dv : List D) (sp : DSp) : Prop where
  ex : ∃ fd, FnD P w K mg base k f fd ps sp ∧ ∃ dvs ds, Dfl K dv dvs ds ∧ ∀ (s : Shared) (us ws : List Value), K.In s.heap → us.length = n → ws.length = ks.length → BindsTo s fd ⟨us, ks.zip ws⟩ (ps.zip (pick pm (us ++ (ws ++ ds))))
  kp : PySem.W.keepIn K (.ref f) = true
section
variable {P : Program} {w : World} {K : PySem.W.Frag} {mg : Str → Option Value} {base : Heap} {x qual : Str} {st : Stmt} {dvs : List V} {kws : List (Str × V)} {f : Addr} {fd : FuncData} {ps ks : List Str} {k n : Nat} {sp : DSp} {pm : List Nat} {dv : List D}
theorem PmN.mk0 (F : FunD K x qual (defArgs st) (defBody st) (defScope st) [] kws f fd) (h : FnD P w K mg base k f fd ps sp)
    (hb : ∀ (kV doc pm' : Value) (an : Option Addr) (cdv ct : Value) (us ws : List Value), us.length = n → ws.length = ks.length → bindArgs (PySem.W.fnOf x qual (defArgs st) (defBody st) (defScope st) .none kV doc pm' an cdv ct) ⟨us, ks.zip ws⟩ = pure (ps.zip (pick pm (us ++ (ws ++ []))))) :
    PmN P w K mg base k f ps n ks pm [] sp := by
  refine ⟨⟨fd, h, [], [], Dfl.nil, ?_⟩, F.kp⟩
  obtain ⟨oc, od, dV, kV, doc, pm', an, cdv, ct, osl, rfl, lk, hcd, hD, hK⟩ := F.ex
  rcases hD with ⟨_, rfl⟩ | ⟨e, _⟩
  · exact fun s us ws X h1 h2 => .of_eq (hb kV doc pm' an cdv ct us ws h1 h2)
  · exact absurd rfl e
theorem PmN.mkD (F : FunD K x qual (defArgs st) (defBody st) (defScope st) dvs kws f fd) (h : FnD P w K mg base k f fd ps sp) (hd : dvs ≠ []) (hr : ∀ S, Reps K S dv dvs)
    (hb : ∀ (T : Addr) (kV doc pm' : Value) (an : Option Addr) (cdv ct : Value) (us ws its : List Value), us.length = n → ws.length = ks.length → its.length = dvs.length →
      ∃ k, bindArgs (PySem.W.fnOf x qual (defArgs st) (defBody st) (defScope st) (.ref T) kV doc pm' an cdv ct) ⟨us, ks.zip ws⟩ = seqItems? (.ref T) >>= k ∧ k (some its.toArray) = pure (ps.zip (pick pm (us ++ (ws ++ its))))) :
    PmN P w K mg base k f ps n ks pm dv sp := by
  obtain ⟨oc, od, dV, kV, doc, pm', an, cdv, ct, osl, e, lk, hcd, hD, hK⟩ := F.ex
  rcases hD with ⟨e, _⟩ | ⟨_, T, o, its, m, rfl, lT, oT, rT⟩
  · exact absurd e hd
  · refine ⟨⟨fd, h, dvs, its, ⟨hr, rT⟩, fun s us ws X h1 h2 => ?_⟩, F.kp⟩
    obtain ⟨k, e1, e2⟩ := hb T kV doc pm' an cdv ct us ws its h1 h2 rT.length.symm
    subst e
    refine BindsTo.of_looks fun M => ?_
    rw [e1]
    exact looks_items X lT oT (.of_pure e2)
end
abbrev DKw (X : Cx) (W : WX) (kws : List Keyword) (t : DTA) : Prop := PK X kws (liftA X.K W t)
def pkN (sp : DSp) (n m : Nat) (pm : List Nat) (dv ds zs : List D) (σ : Ev) (G : GS) (Q : DK) (R : DXK) : Prop := ds.length = n ∧ zs.length = m ∧ dRun sp (pick pm (ds ++ (zs ++ dv))) σ G Q R
def dCallN (sp : DSp) (n m : Nat) (pm : List Nat) (dv : List D) (t tk : DTA) : DTE := fun σ G Q R => t σ G (fun ds G1 => tk σ G1 (fun zs G2 => pkN sp n m pm dv ds zs σ G2 Q R) R) R
def mkN (C : Addr) (sp : DSp) (n m : Nat) (pm : List Nat) (dv ds zs : List D) (σ : Ev) (G : GS) (Q : DK) (R : DXK) : Prop := ds.length = n ∧ zs.length = m ∧ ∀ p, p ∉ keysG G → sp (pick pm ((.ref p :: ds) ++ (zs ++ dv))) [(p, .ins C [] [])] (fun d G2 => ∃ ns vs, d = .non ∧ G2 = [(p, .ins C ns vs)] ∧ Q (.obj C ns vs) G) (fun cls fs _ => R cls fs σ G)
def dMakeN (C : Addr) (sp : DSp) (n m : Nat) (pm : List Nat) (dv : List D) (t tk : DTA) : DTE := fun σ G Q R => t σ G (fun ds G1 => tk σ G1 (fun zs G2 => mkN C sp n m pm dv ds zs σ G2 Q R) R) R
section
variable {X : Cx} {W : WX} {k n : Nat} {f C : Addr} {ps ks : List Str} {sp : DSp} {x : Str} {p pos kpos : Pos} {e : Expr} {es : List Expr} {kws : List Keyword} {t tk : DTA} {te : DTE} {dv : List D} {pm : List Nat} {nm : Option Str}
theorem dk_nil : DKw X W [] dNil := ⟨fun pos pins s σV H P I ⟨S, σ, G, Q, R, hc, he, ht, hx, hq⟩ => pk_nil.run pos pins s σV H P I (hq [] H S [] G hc.aft Reps.nil ht)⟩
theorem dk_cons (ha : DE X W e te) (hr : DKw X W kws t) : DKw X W (⟨nm, e, kpos⟩ :: kws) (dCons te t) := ⟨fun pos pins s σV H P I ⟨S, σ, G, Q, R, hc, he, ht, hx, hq⟩ => (pk_cons ha hr).run pos pins s σV H P I (by
    refine ⟨S, σ, G, _, R, hc, he, ht, hx, fun v H1 S1 d G1 a1 r1 q1 => ?_⟩
    exact ⟨S1, σ, G1, _, R, a1.cn, he.up a1.sub, q1, hx.aft a1, fun vs H2 S2 ds G2 a2 r2 q2 => hq (v :: vs) H2 S2 (d :: ds) G2 (a1.trans a2) (Reps.cons (r1.up a2.sub) r2) q2⟩)⟩
/-- the call behind the arguments -/
theorem runN {pins : List (Addr × Obj)} {σV : L2.St} {H : Hp} {s : Shared} {Pq : VK} {us ws : List Value} {vs zs : List V} {fd : FuncData} {dvs : List V} {ds : List Value} (F : FnD X.prog X.w X.K X.mg X.base k f fd ps sp) (hr : RoomG k X.A) (hb : ∀ (s : Shared) (us ws : List Value), X.K.In s.heap → us.length = n → ws.length = ks.length → BindsTo s fd ⟨us, ks.zip ws⟩ (ps.zip (pick pm (us ++ (ws ++ ds))))) (hd : Vals dvs ds) (tk : Takes X W)
    (I : Inv X pins σV H s) (r : Vals vs us) (rz : Vals zs ws) (l1 : vs.length = n) (l2 : zs.length = ks.length) (h : conc X.K sp (pick pm (vs ++ (zs ++ dvs))) H Pq (WE W σV)) : wpAny (model X.prog X.w) X.A (call (.ref f) us (ks.zip ws)) (EP X pins σV Pq) X.xe s := by
  refine wpAny_call (codeAny_mono (F.run X.A X.stack s H ⟨us, ks.zip ws⟩ (pick pm (us ++ (ws ++ ds))) (pick pm (vs ++ (zs ++ dvs))) Pq (WE W σV) hr I.env0 (hb s us ws I.kIn (r.length.symm.trans l1) (rz.length.symm.trans l2)) (vals_pick (r.append (rz.append hd)) pm) h) fun z s' hq => ?_)
  cases z with
  | error z => exact passAt tk σV pins H s z s' I hq
  | ok fl =>
    cases fl with
    | ret u => exact I.after hq
    | next => exact False.elim hq
    | brk => exact False.elim hq
    | cont => exact False.elim hq
theorem de_callN (F : PmN X.prog X.w X.K X.mg X.base k f ps n ks pm dv sp) (hr : RoomG k X.A) (hg : Gl X x) (hm : X.mg x = some (.ref f)) (tt : Takes X W) (ha : DA X W (e :: es) t) (hkw : DKw X W kws tk)
    (hall : (backToKw pos (keywordEach kws X.env)).all (·.1.isSome) = true := by rfl) (hks : (backToKw pos (keywordEach kws X.env)).filterMap (·.1) = ks := by rfl)
    (hdb : (x == ("__debug__" : Str)) = false := by decide) (he : starEach (e :: es) X.env = (false, eval e X.env) :: starEach es X.env := by rfl)
    (hpl : ((backTo pos (starEach (e :: es) X.env)).any (·.1) || (backToKw pos (keywordEach kws X.env)).any (·.1.isNone)) = false := by rfl) :
    DE X W (.Call (.Name x p) (e :: es) kws pos) (dCallN sp n ks.length pm dv t tk) := by
  refine ⟨fun pins s σV H Pq I h => ?_⟩
  obtain ⟨S, σ, G, Q, R, hc, hee, ht, hx, hq⟩ := h
  obtain ⟨fd, F1, dvs, ds, hdf, hb⟩ := F.ex
  refine wpAny_Call_Name_kw (ld_glob I hg hm ?_ hdb)
  refine PySem.W.callWith_KW (h₀ := X.base) I.ok.mod.kin F.kp hall (thn (ha.run pos pins s σV H (fun vs H1 => liftA X.K W tk σV H1 fun zs H2 => vs.length = n ∧ zs.length = ks.length ∧ conc X.K sp (pick pm (vs ++ (zs ++ dvs))) H2 Pq (WE W σV)) I ⟨S, σ, G, _, R, hc, hee, ht, hx, fun vs H1 S1 xs G1 a1 r1 q1 => ⟨S1, σ, G1, _, R, a1.cn, hee.up a1.sub, q1, hx.aft a1, fun zs H2 S2 zd G2 a2 r2 q2 => ?_⟩⟩) fun us s1 ⟨vs, H1, I1, r, q⟩ => ?_) hpl he
  · obtain ⟨l1, l2, q2⟩ := q2
    exact ⟨r1.length.trans l1, r2.length.trans l2, run_conc a2.cn (hee.up (a1.trans a2).sub) (hx.aft (a1.trans a2)) (reps_pick ((r1.up a2.sub).app (r2.app (hdf.rep S2))) pm) q2 fun v H3 S3 d3 G3 a3 r3 q3 => hq v H3 S3 d3 G3 ((a1.trans a2).trans a3) r3 q3⟩
  · refine thn (hkw.run pos pins s1 σV H1 _ I1 q) fun ws s2 ⟨zs, H2, I2, rz, l1, l2, q2⟩ => ⟨I2.kIn, ?_⟩
    rw [hks]
    exact runN F1 hr hb hdf.val tt I2 r rz l1 l2 q2
theorem de_callN0 (F : PmN X.prog X.w X.K X.mg X.base k f ps 0 ks pm dv sp) (hr : RoomG k X.A) (hg : Gl X x) (hm : X.mg x = some (.ref f)) (tt : Takes X W) (hkw : DKw X W kws tk)
    (hall : (backToKw pos (keywordEach kws X.env)).all (·.1.isSome) = true := by rfl) (hks : (backToKw pos (keywordEach kws X.env)).filterMap (·.1) = ks := by rfl)
    (hdb : (x == ("__debug__" : Str)) = false := by decide)
    (hpl : ((backTo pos (starEach [] X.env)).any (·.1) || (backToKw pos (keywordEach kws X.env)).any (·.1.isNone)) = false := by rfl) :
    DE X W (.Call (.Name x p) [] kws pos) (dCallN sp 0 ks.length pm dv dNil tk) := by
  refine ⟨fun pins s σV H Pq I h => ?_⟩
  obtain ⟨S, σ, G, Q, R, hc, hee, ht, hx, hq⟩ := h
  obtain ⟨fd, F1, dvs, ds, hdf, hb⟩ := F.ex
  refine wpAny_Call_Name_kw (ld_glob I hg hm ?_ hdb)
  refine PySem.W.callWith_KW0 (h₀ := X.base) I.ok.mod.kin F.kp hall (thn (hkw.run pos pins s σV H (fun zs H2 => zs.length = ks.length ∧ conc X.K sp (pick pm ([] ++ (zs ++ dvs))) H2 Pq (WE W σV)) I ⟨S, σ, G, _, R, hc, hee, ht, hx, fun zs H2 S2 zd G2 a2 r2 q2 => ?_⟩) fun ws s2 ⟨zs, H2, I2, rz, l2, q2⟩ => ⟨I2.kIn, ?_⟩) hpl
  · obtain ⟨_, l2, q2⟩ := q2
    exact ⟨r2.length.trans l2, run_conc a2.cn (hee.up a2.sub) (hx.aft a2) (reps_pick (Reps.nil.app (r2.app (hdf.rep S2))) pm) q2 fun v H3 S3 d3 G3 a3 r3 q3 => hq v H3 S3 d3 G3 (a2.trans a3) r3 q3⟩
  · rw [hks]
    exact runN (vs := []) F1 hr hb hdf.val tt I2 .nil rz rfl l2 q2
theorem run_makeNd {pins : List (Addr × Obj)} {σV : L2.St} {H : Hp} {s : Shared} {Pq : VK} {us ws : List Value} {vs zs : List V} {fd : FuncData} {dvs : List V} {ds : List Value} (M : Mk X.K C f) (F : FnD X.prog X.w X.K X.mg X.base k f fd ps sp) (hr : RoomG (k + 1) X.A) (hb : ∀ (s : Shared) (us ws : List Value), X.K.In s.heap → us.length = n + 1 → ws.length = ks.length → BindsTo s fd ⟨us, ks.zip ws⟩ (ps.zip (pick pm (us ++ (ws ++ ds))))) (hd : Vals dvs ds) (tt : Takes X W)
    (I : Inv X pins σV H s) (r : Vals vs us) (rz : Vals zs ws) (l1 : vs.length = n) (l2 : zs.length = ks.length)
    (h : ∀ x dx, H x = none → H dx = none → dx ≠ x → conc X.K sp (pick pm ((.ref x :: vs) ++ (zs ++ dvs))) (upd (upd H dx (.own x)) x (.ins C dx [])) (fun v H2 => v = .non ∧ Pq (.ref x) H2) (WE W σV)) : wpAny (model X.prog X.w) X.A (call (.ref C) us (ks.zip ws)) (EP X pins σV Pq) X.xe s := by
  have hq := h (s.heap.objs.size + 1) s.heap.objs.size (I.hok.fresh (Nat.le_succ _)) (I.hok.fresh (Nat.le_refl _)) (Nat.ne_of_lt (Nat.lt_succ_self _))
  have I2 := Inv.made (C := C) I
  have r1 : Vals (V.ref (s.heap.objs.size + 1) :: vs) (Value.ref (s.heap.objs.size + 1) :: us) := .cons rfl r
  have r2 := vals_pick (r1.append (rz.append hd)) pm
  have z1 : (Value.ref (s.heap.objs.size + 1) :: us).length = n + 1 := r1.length.symm.trans (congrArg Nat.succ l1)
  have z2 : ws.length = ks.length := rz.length.symm.trans l2
  refine wpAny_call (make_map (f := f) I.kIn M.makes M.init (beq_iff_eq.mp M.fn) (codeAny_mono (F.run _ X.stack _ _ ⟨.ref (s.heap.objs.size + 1) :: us, ks.zip ws⟩ (pick pm ((.ref (s.heap.objs.size + 1) :: us) ++ (ws ++ ds))) _ _ (WE W σV) (hr.make C us (ks.zip ws))
    (I2.env0.make C us (ks.zip ws)) (hb _ (.ref (s.heap.objs.size + 1) :: us) ws I2.kIn z1 z2) r2 hq) fun z s' hq' => ?_))
  cases z with
  | error z => exact passAt tt σV pins _ _ z s' I2 hq'
  | ok fl =>
    cases fl with
    | ret u =>
      obtain ⟨v, H', I3, rv, ev, q3⟩ := I2.after hq'
      subst ev
      exact ⟨rv, ⟨V.ref (s.heap.objs.size + 1), H', I3, rfl, q3⟩⟩
    | next => exact False.elim hq'
    | brk => exact False.elim hq'
    | cont => exact False.elim hq'
/-- the new object, as de_make tells -/
theorem make_conc {S : Hp} {G : GS} {H : Hp} {σ : Ev} {σV : L2.St} {Q : DK} {R : DXK} {fx : Addr → List D} {fv : Addr → List V} {Pq : VK} (c : Cn X.K S G H) (he : EnvR X.K S σ σV) (hx : XOk X.K W S G H R) (r : ∀ p, Reps X.K S (fx p) (fv p))
    (h : ∀ p, p ∉ keysG G → sp (fx p) [(p, .ins C [] [])] (fun d G2 => ∃ ns vs, d = .non ∧ G2 = [(p, .ins C ns vs)] ∧ Q (.obj C ns vs) G) (fun cls fs _ => R cls fs σ G))
    (hq : ∀ v H' S' d G', Aft X.K S G H S' G' H' → Rep X.K S' d v → Q d G' → Pq v H') (p dx : Addr) (hp : H p = none) (hdx : H dx = none) (hne : dx ≠ p) : conc X.K sp (fv p) (upd (upd H dx (.own p)) p (.ins C dx [])) (fun v H2 => v = .non ∧ Pq (.ref p) H2) (WE W σV) := by
  have j1 := c.junk (o := .own p) hdx
  have hp1 : upd H dx (.own p) p = none := by rw [upd_ne (fun z => hne z.symm)]; exact hp
  have n1 := j1.cn.newCell (o := .ins C dx []) (k := .ins C [] []) hp1 ⟨dx, [], upd_same, rfl, rfl⟩
  have a2 := j1.trans n1
  have hpg : p ∉ keysG G := c.freshG hp
  have c2 : Cn X.K S ([(p, Cell.ins C [] [])] ++ G) (upd (upd H dx (.own p)) p (.ins C dx [])) := (a2.cn.permA (List.perm_append_comm)).cn
  have a2' : Aft X.K S G H S ([(p, Cell.ins C [] [])] ++ G) (upd (upd H dx (.own p)) p (.ins C dx [])) := a2.trans (a2.cn.permA (List.perm_append_comm))
  have c3 : Cn X.K S [(p, Cell.ins C [] [])] (upd (upd H dx (.own p)) p (.ins C dx [])) := c2.forget (List.sublist_append_left _ _)
  refine ⟨S, [(p, Cell.ins C [] [])], fx p, _, _, c3, r p, h p hpg, fun v H' S' d G' af rv q => ?_, fun cls dx' H' S' fs G' af xr xn q => ?_⟩
  · obtain ⟨ns, vs', rfl, rfl, q⟩ := q
    refine ⟨rv, ?_⟩
    have a3 := a2'.trans (c2.frame af)
    obtain ⟨dx2, fs, h1, h2, h3⟩ := a3.cn.cell (p, Cell.ins C ns vs') (by simp)
    have hs : S' p = none := a3.cn.sep p (by simp [keysG])
    have hxr : Rep X.K (upd S' p (.ins C dx2 fs)) (.obj C ns vs') (.ref p) := ⟨p, dx2, fs, rfl, upd_same, h2, h3.up (Sub.new hs)⟩
    have a4 := a3.cn.stillCell h1
    exact hq (.ref p) H' _ _ G (a3.trans a4) hxr q
  · have a3 := a2'.trans (c2.frame af)
    have a4 := a3.trans (a3.cn.forgetA (List.sublist_append_right _ _))
    exact hx cls dx' σV H' S' σ fs G a4 (he.up a4.sub) xr (fun c hc => ⟨Classical.byContradiction fun z => a2'.there c z (xn c hc).1, (xn c hc).2.1, fun z => by
      obtain ⟨p', hp', e⟩ := List.mem_map.mp z
      obtain ⟨o, ho⟩ := (c2.cell p' (List.mem_append_right _ hp')).there
      rw [e, (xn c hc).1] at ho
      cases ho⟩) q
theorem de_makeN (M : Mk X.K C f) (F : PmN X.prog X.w X.K X.mg X.base k f ps (n + 1) ks pm dv sp) (hr : RoomG (k + 1) X.A) (hg : Gl X x) (hm : X.mg x = some (.ref C)) (tt : Takes X W) (ha : DA X W (e :: es) t) (hkw : DKw X W kws tk)
    (hall : (backToKw pos (keywordEach kws X.env)).all (·.1.isSome) = true := by rfl) (hks : (backToKw pos (keywordEach kws X.env)).filterMap (·.1) = ks := by rfl)
    (hdb : (x == ("__debug__" : Str)) = false := by decide) (he : starEach (e :: es) X.env = (false, eval e X.env) :: starEach es X.env := by rfl)
    (hpl : ((backTo pos (starEach (e :: es) X.env)).any (·.1) || (backToKw pos (keywordEach kws X.env)).any (·.1.isNone)) = false := by rfl) :
    DE X W (.Call (.Name x p) (e :: es) kws pos) (dMakeN C sp n ks.length pm dv t tk) := by
  refine ⟨fun pins s σV H Pq I h => ?_⟩
  obtain ⟨S, σ, G, Q, R, hc, hee, ht, hx, hq⟩ := h
  obtain ⟨fd, F1, dvs, ds, hdf, hb⟩ := F.ex
  refine wpAny_Call_Name_kw (ld_glob I hg hm ?_ hdb)
  refine PySem.W.callWith_KW (h₀ := X.base) I.ok.mod.kin M.kp hall (thn (ha.run pos pins s σV H (fun vs H1 => liftA X.K W tk σV H1 fun zs H2 => vs.length = n ∧ zs.length = ks.length ∧ ∀ x dx, H2 x = none → H2 dx = none → dx ≠ x → conc X.K sp (pick pm ((.ref x :: vs) ++ (zs ++ dvs))) (upd (upd H2 dx (.own x)) x (.ins C dx [])) (fun v H3 => v = .non ∧ Pq (.ref x) H3) (WE W σV)) I ⟨S, σ, G, _, R, hc, hee, ht, hx, fun vs H1 S1 xs G1 a1 r1 q1 => ⟨S1, σ, G1, _, R, a1.cn, hee.up a1.sub, q1, hx.aft a1, fun zs H2 S2 zd G2 a2 r2 q2 => ?_⟩⟩) fun us s1 ⟨vs, H1, I1, r, q⟩ => ?_) hpl he
  · obtain ⟨l1, l2, q2⟩ := q2
    exact ⟨r1.length.trans l1, r2.length.trans l2, make_conc (fx := fun p => pick pm ((.ref p :: xs) ++ (zd ++ dv))) (fv := fun p => pick pm ((.ref p :: vs) ++ (zs ++ dvs))) a2.cn (hee.up (a1.trans a2).sub) (hx.aft (a1.trans a2)) (fun p => reps_pick (Reps.app (Reps.cons (d := .ref p) (v := .ref p) rfl (r1.up a2.sub)) (r2.app (hdf.rep S2))) pm) q2 fun v H3 S3 d3 G3 a3 r3 q3 => hq v H3 S3 d3 G3 ((a1.trans a2).trans a3) r3 q3⟩
  · refine thn (hkw.run pos pins s1 σV H1 _ I1 q) fun ws s2 ⟨zs, H2, I2, rz, l1, l2, q2⟩ => ⟨I2.kIn, ?_⟩
    rw [hks]
    exact run_makeNd M F1 hr hb hdf.val tt I2 r rz l1 l2 q2
end
section
variable {K : PySem.W.Frag} {σ : Ev} {G : GS} {Q : DK} {R : DXK} {tr tk : DTA} {C : Addr} {sp : DSp} {dv ds zs : List D} {n m : Nat} {pm : List Nat}
theorem r_callN : dCallN sp n m pm dv tr tk σ G Q R = tr σ G (fun ds G1 => tk σ G1 (fun zs G2 => pkN sp n m pm dv ds zs σ G2 Q R) R) R := propext Iff.rfl
theorem r_makeN : dMakeN C sp n m pm dv tr tk σ G Q R = tr σ G (fun ds G1 => tk σ G1 (fun zs G2 => mkN C sp n m pm dv ds zs σ G2 Q R) R) R := propext Iff.rfl
theorem m_pkN {xs : List D} (h1 : ds.length = n) (h2 : zs.length = m) (e : pick pm (ds ++ (zs ++ dv)) = xs) (h : dRun sp xs σ G Q R) : pkN sp n m pm dv ds zs σ G Q R := ⟨h1, h2, by rw [e]; exact h⟩
end
end DL
set_option Elab.async false
set_option linter.all false
set_option maxRecDepth 100000
set_option maxHeartbeats 4000000
namespace DL
open PySem PyProof.Rows L2
/-! ### raise C(why), C under a class whose __init__ keeps its one argument as why -/
def spWhy (K : PySem.W.Frag) : Sp := fun vs H Q E => ∃ (a C : Addr) (y : V), vs = [.ref a, y] ∧ OexC K C ∧ PySem.W.findIn K (.ref C) "why" = some none ∧ H a = some (exo a C none) ∧ ∀ dx, H dx = none → dx ≠ a → Q .non (upd (upd H dx (exd dx [("why", y)])) a (exo a C (some dx)))
/-- what the text tells of such a class -/
structure WhyC (K : PySem.W.Frag) (C fI : Addr) : Prop where
  oex : OexC K C
  ini : PySem.W.findIn K (.ref C) "__init__" = some (some (.ref fI))
  fn : PySem.W.typeIn K (.ref fI) = some (.type "function")
  no : PySem.W.findIn K (.ref C) "why" = some none
/-- its __init__'s promise, with the default -/
structure WhyI (P : Program) (w : World) (K : PySem.W.Frag) (mg : Str → Option Value) (base : Heap) (k : Nat) (f : Addr) (dv : List D) : Prop where
  ex : ∃ fd, FnOk P w K mg base (fun _ _ _ _ _ _ => False) k f fd ["self", "why"] (spWhy K) ∧ ∀ j, j ≤ dv.length → ∃ dvs ds, Binds K fd ["self", "why"] ds ∧ Dfl K (dv.drop j) dvs ds
def whyF (ds : List D) (A : List (Str × D) → Prop) : Prop := ∃ y, ds = [y] ∧ A [("why", y)]
def dRaiseW (C : Addr) (t : DTA) (dv : List D) : DTS := fun _ R σ G => t σ G (fun ds G1 => whyF (ds ++ dv) fun fs => R (.ref C) fs σ G1) R
section
variable {X : Cx} {W : WX} {k : Nat} {f C : Addr} {x : Str} {p pos pos' : Pos} {e : Expr} {es : List Expr} {t : DTA} {dv : List D}
theorem ds_raiseW (hc : X.calm = true) (tk : Takes X W) (T : WhyC X.K C f) (F : WhyI X.prog X.w X.K X.mg X.base k f dv) (j : Nat) (hr : RoomG (k + 1) X.A) (hg : Gl X x) (hm : X.mg x = some (.ref C)) (ha : DA X W (e :: es) t) (hj : j ≤ dv.length := by decide)
    (hdb : (x == ("__debug__" : Str)) = false := by decide) (he : starEach (e :: es) X.env = (false, eval e X.env) :: starEach es X.env := by rfl) (hpl : (backTo pos (starEach es X.env)).any (·.1) = false := by rfl) :
    DS X W (.Raise (some (.Call (.Name x p) (e :: es) [] pos)) none pos') (dRaiseW C t (dv.drop j)) := by
  obtain ⟨fd, F1, F2⟩ := F.ex
  obtain ⟨dvs, ds, hb, hd⟩ := F2 j hj
  refine ps_imp (L2.ps_raise hc tk (pmk_oex (pos := pos) T.oex T.ini T.fn F1 hr.rm hb hd.val (fun _ _ _ _ _ _ _ z => z.elim) hg hm ha hdb he hpl)) fun D σV H ⟨S, σ, G, N, R, cn, hee, ht, hx, hq⟩ => ?_
  refine ⟨S, σ, G, _, R, cn, hee, ht, hx, fun vs H1 S1 xs G1 a1 r1 q1 => ?_⟩
  obtain ⟨y, ey, q⟩ := q1
  have rr := r1.app (hd.rep S1)
  rw [ey] at rr
  obtain ⟨v, r', ev, rv, rfl⟩ := rr
  have hl : vs.length ≤ 1000 := by
    have := congrArg List.length ev
    simp at this
    omega
  refine ⟨hl, fun a ha' => ⟨a, C, v, by rw [ev], T.oex, T.no, upd_same, fun dx hdx hne => ?_⟩⟩
  have hdx1 : H1 dx = none := by rw [upd_ne hne] at hdx; exact hdx
  refine ⟨rfl, dx, [("why", v)], upd_same, by rw [upd_ne hne, upd_same], hdx1, ?_⟩
  have eH : upd (del (upd (upd (upd H1 a (exo a C none)) dx (exd dx [("why", v)])) a (exo a C (some dx))) a) dx (.xd [("why", v)]) = upd H1 dx (.xd [("why", v)]) := by
    funext b
    by_cases h1 : b = dx
    · subst h1; rw [upd_same, upd_same]
    · rw [upd_ne h1, upd_ne h1]
      by_cases h2 : b = a
      · subst h2; rw [del_same, ha']
      · rw [del_ne h2, upd_ne h2, upd_ne h1, upd_ne h2]
  rw [eH]
  have a2 := a1.cn.junk (o := .xd [("why", v)]) hdx1
  exact hx (.ref C) (some dx) σV _ _ σ [("why", y)] _ (a1.trans a2) (hee.up (a1.trans a2).sub) ⟨[("why", v)], upd_same, rfl, Reps.cons rv Reps.nil⟩ (fun c hc => by
    cases hc
    exact ⟨Classical.byContradiction fun z => a1.there dx z hdx1, a1.cn.freshS hdx1, a1.cn.freshG hdx1⟩) q
end
section
variable {K : PySem.W.Frag} {σ : Ev} {G : GS} {R : DXK} {N : DEnds} {tr : DTA} {C : Addr} {dv : List D} {y : D} {A : List (Str × D) → Prop}
theorem r_raiseW : dRaiseW C tr dv N R σ G = tr σ G (fun ds G1 => whyF (ds ++ dv) fun fs => R (.ref C) fs σ G1) R := propext Iff.rfl
theorem m_why {ds : List D} (e : ds = [y]) (h : A [("why", y)]) : whyF ds A := ⟨y, e, h⟩
end
end DL
set_option Elab.async false
set_option linter.all false
set_option maxRecDepth 100000
set_option maxHeartbeats 4000000
namespace DL
open PySem PyProof.Rows L2
/-! ### try .. except C as e -/
def xdG (d : Option Addr) (fs : List (Str × D)) : GS := match d with | some a => [(a, .xd fs)] | none => []
abbrev wX0 : WX := fun _ _ _ _ => False
def dTryAs (K : PySem.W.Frag) (c : Value) (i : Nat) (tb : DTS) (th : Addr → Value → Option Addr → DTS) : DTS := fun N R σ G => tb N (fun cls fs σ1 G1 => ∃ b, PySem.W.exmOne K cls c = some b ∧
  (b = true → ∀ a d, (fs ≠ [] → ∃ dd, d = some dd) → th a cls d { nx := fun σ' G' => N.nx (σ'.set i none) G', rt := N.rt, bk := fun σ' G' => N.bk (σ'.set i none) G', ct := fun σ' G' => N.ct (σ'.set i none) G' } (fun _ _ _ _ => False) (σ1.set i (some (.ref a))) (G1 ++ xdG d fs)) ∧
  (b = false → R cls fs σ1 G1)) σ G
theorem EnvR.unset {K : PySem.W.Frag} {S : Hp} {σ : Ev} {σV : L2.St} (e : EnvR K S σ σV) (i : Nat) : EnvR K S (σ.set i none) (σV.set i none) := by
  refine ⟨by simp [e.1], fun j d h => ?_⟩
  by_cases hj : i = j
  · subst hj
    have hl : i < σ.length := by
      have := (List.getElem?_eq_some_iff.mp h).1
      simpa using this
    rw [List.getElem?_set_self hl] at h
    cases h
  · rw [List.getElem?_set_ne hj] at h
    rw [List.getElem?_set_ne hj]
    exact e.2 j d h
section
variable {X : Cx} {W : WX} {x n : Str} {c : Value} {i : Nat} {body suite : List Stmt} {b₀ : Stmt} {np pos pos' : Pos} {tb : DTS} {th : Addr → Value → Option Addr → DTS}
theorem ds_tryAs (hs : X.stack = X.env :: X.outer) (hf : X.env.frame = some X.env.locals) (hN : X.N.Nodup) (hi : X.N[i]? = some n) (hln : X.env.kindOf n = some .local) (hc : Names X x c) (tk : Takes X W)
    (hb : ∀ (W' : WX) (pn : List (Addr × Obj)) (xe : Value → Shared → Prop), Takes (X.tr pn xe) W' → PassesOwn (model X.prog X.w) X.A X.env xe → DSs (X.tr pn xe) W' body tb)
    (hsu : ∀ (a : Addr) (oe : Obj) (cls : Value) (d : Option Addr) (pn : List (Addr × Obj)), Zc cls d oe → (∃ vs, oe.data = .fields vs) → DSs (X.suite a ((a, oe) :: pn)) wX0 (b₀ :: suite) (th a cls d)) :
    DS X W (.Try body [.ExceptHandler (some (.Name x np)) (some n) (b₀ :: suite) pos'] [] [] pos) (dTryAs X.K c i tb th) :=
  ps_imp (L2.ps_try_as (Wout := W) (tb := fun W' => liftS X.K W' tb) (ts := fun a cls d => liftS X.K wX0 (th a cls d)) hs hf hN hi hln hc tk hb hsu) fun D σV H ⟨S, σ, G, N, R, cn, hee, ht, hx, hq⟩ => by
    refine ⟨S, σ, G, N, _, cn, hee, ht, fun cls dx σV' H' S' σ' fs G' af er xr xn q => ?_, hq⟩
    obtain ⟨b, hb1, hyes, hno⟩ := q
    refine ⟨b, hb1, fun e a ha => ?_, fun e => hx cls dx σV' H' S' σ' fs G' af er xr xn (hno e)⟩
    have hG : Aft X.K S G H S' (G' ++ xdG dx fs) H' := by
      cases dx with
      | none =>
        show Aft X.K S G H S' (G' ++ []) H'
        rw [List.append_nil]
        exact af
      | some dd =>
        obtain ⟨n1, n2, n3⟩ := xn dd rfl
        obtain ⟨fv, f1, f2, f3⟩ := xr
        have hk : ∀ z, z ∈ keysG (G' ++ xdG (some dd) fs) ↔ z ∈ keysG G' ∨ z = dd := fun z => by unfold keysG xdG; simp
        refine ⟨af.sub, ⟨af.cn.sub, ?_, fun z hz => ?_, fun q hq => ?_⟩, fun z o hz hn => ?_, af.old, af.there⟩
        · unfold keysG xdG
          rw [List.map_append, List.nodup_append]
          refine ⟨af.cn.nd, by simp, fun z hz y hy => ?_⟩
          simp at hy
          subst hy
          exact fun e => n3 (by rw [← e]; exact hz)
        · rcases (hk z).mp hz with h | h
          · exact af.cn.sep z h
          · rw [h]; exact n2
        · rcases List.mem_append.mp hq with h | h
          · exact af.cn.cell q h
          · unfold xdG at h
            rw [List.mem_singleton.mp h]
            exact ⟨fv, f1, f2, f3⟩
        · obtain ⟨h1, h2⟩ := af.stp z o hz hn
          refine ⟨h1, fun h => ?_⟩
          rcases (hk z).mp h with h | h
          · exact h2 h
          · rw [h, n1] at hz; cases hz
    refine ⟨S', σ'.set i (some (.ref a)), G' ++ xdG dx fs, _, _, hG.cn, er.set (d := .ref a) (v := .ref a) rfl i, hyes e a dx (fun hne => by
      cases dx with
      | none => exact absurd xr hne
      | some dd => exact ⟨dd, rfl⟩), fun _ _ _ _ _ _ _ _ _ _ _ _ z => z.elim, ⟨fun σV2 H2 S2 σ2 G2 a2 e2 q2 => hq.nx _ H2 S2 _ G2 (hG.trans a2) (e2.unset i) q2, fun v H2 S2 d2 G2 a2 r2 q2 => hq.rt v H2 S2 d2 G2 (hG.trans a2) r2 q2, fun σV2 H2 S2 σ2 G2 a2 e2 q2 => hq.bk _ H2 S2 _ G2 (hG.trans a2) (e2.unset i) q2, fun σV2 H2 S2 σ2 G2 a2 e2 q2 => hq.ct _ H2 S2 _ G2 (hG.trans a2) (e2.unset i) q2⟩⟩
end
end DL
set_option Elab.async false
set_option linter.all false
set_option maxRecDepth 100000
set_option maxHeartbeats 4000000
namespace DL
open PySem PyProof.Rows L2
def lookD (f : Str) : List (Str × D) → Option D
  | [] => none
  | (n, v) :: r => if f = n then some v else lookD f r
theorem lookD_v {K : PySem.W.Frag} {S : Hp} {f : Str} {y : D} : ∀ {fs : List (Str × D)} {fv : List (Str × V)}, fv.map (·.1) = fs.map (·.1) → Reps K S (fs.map (·.2)) (fv.map (·.2)) → lookD f fs = some y → ∃ v, fv.lookup f = some v ∧ Rep K S y v
  | [], _, _, _, h => by cases h
  | (n, x) :: fs, [], h1, _, _ => by cases h1
  | (n, x) :: fs, (n', z) :: fv, h1, h2, h => by
    simp only [List.map_cons, List.cons.injEq] at h1
    obtain ⟨rfl, h1⟩ := h1
    obtain ⟨v', r, e, rv, rr⟩ := h2
    simp only [List.map_cons, List.cons.injEq] at e
    obtain ⟨rfl, rfl⟩ := e
    unfold lookD at h
    by_cases hf : f = n'
    · rw [if_pos hf] at h
      cases h
      exact ⟨z, by simp [List.lookup, hf], rv⟩
    · rw [if_neg hf] at h
      obtain ⟨v, h3, h4⟩ := lookD_v h1 rr h
      have : (f == n') = false := by simpa using hf
      exact ⟨v, by simp [List.lookup, this, h3], h4⟩
/-! ### e.f, e the exception of the suite -/
def dXf (a : Addr) (cls : Value) (d : Option Addr) (Cs : List Addr) (f : Str) (te : DTE) : DTE := fun σ G Q R => ∃ C ∈ Cs, cls = .ref C ∧ te σ G (fun x G1 => x = .ref a ∧ ∃ dd fs y, d = some dd ∧ (dd, Cell.xd fs) ∈ G1 ∧ lookD f fs = some y ∧ Q y G1) R
section
variable {X : Cx} {W : WX} {a : Addr} {oe : Obj} {cls : Value} {d : Option Addr} {pn : List (Addr × Obj)} {e : Expr} {te : DTE} {pos : Pos} {n : Str} {Cs : List Addr}
theorem de_xf (hT : ∀ C ∈ Cs, XfC X.K C ∧ PySem.W.findIn X.K (.ref C) n = some none) (hz : Zc cls d oe) (hf : ∃ vs, oe.data = .fields vs) (he : DE (X.suite a ((a, oe) :: pn)) W e te) (hb : attributeBase e n X.env (eval e X.env) = eval e X.env := by rfl) :
    DE (X.suite a ((a, oe) :: pn)) W (.Attribute e n pos) (dXf a cls d Cs n te) := by
  refine ⟨fun pins s σV H P I h => ?_⟩
  obtain ⟨S, σ, G, Q, R, hc, hee, ⟨C, hC, hcl, ht⟩, hx, hq⟩ := h
  obtain ⟨t1, t2⟩ := hT C hC
  refine (L2.pe_xf (pos := pos) t1 t2 hz hf he hb).run pins s σV H P I ⟨S, σ, G, _, R, hc, hee, ht, hx, fun v H1 S1 x G1 a1 r1 q1 => ?_⟩
  obtain ⟨rfl, dd, fs, y, hd, hm, hl, q⟩ := q1
  obtain ⟨fv, f1, f2, f3⟩ := a1.cn.cell _ hm
  obtain ⟨u, hu, ru⟩ := lookD_v f2 f3 hl
  exact ⟨r1, hcl, dd, fv, u, hd, f1, hu, hq u H1 S1 y G1 a1 ru q⟩
/-! ### isinstance(e, c) -/
def rIsEd (K : PySem.W.Frag) (D a : Addr) (d : Option Addr) : List V → Hp → VK → Prop := fun xs H Q => ∃ (c : V) (cv : Value) (b : Bool) (dd : Addr) (fs : List (Str × V)), xs = [.ref a, c] ∧ d = some dd ∧ H dd = some (.xd fs) ∧ (∀ u, RelV c u → u = cv) ∧ PySem.W.kitOne K (.ref D) cv = some b ∧ Q (.bl b) H
theorem call_isEd {C : Addr} (T : ExcC X.K C) (hz : Zc (.ref C) d oe) (hf : ∃ vs, oe.data = .fields vs) : CallR (X.suite a ((a, oe) :: pn)) (.builtin "isinstance") (rIsEd X.K C a d) := by
  intro pins s σ H xs us Q I r h
  obtain ⟨c, cv, b, dd, fs, rfl, ed, ea, hcv, e, q⟩ := h
  cases r with
  | cons rx rr =>
    cases rr with
    | cons rt rr =>
      cases rr
      cases rx
      have ec := hcv _ rt
      subst ec
      subst ed
      obtain ⟨hget, _⟩ := I.pin (a, oe) (List.mem_append.mpr (.inl List.mem_cons_self))
      obtain ⟨vs, hv⟩ := hf
      have hx : ObjOk X.prog X.w H s.heap dd (.xd fs) := I.hok dd _ ea
      obtain ⟨mA, hns, hr⟩ := hx
      obtain ⟨od, ho, hl⟩ := lookIn_ns hns
      have J : PySem.W.InstAt s.heap a oe C (some od) := ⟨hget, hz.1, by unfold PySem.W.notCls; rw [hv] <;> rfl, by rw [hz.2]; exact ho⟩
      have hcl : (PySem.W.clsIn X.K C).isSome = true := by
        have h2 := T.hd
        unfold PySem.W.hasDictIn at h2
        cases z : PySem.W.clsIn X.K C with
        | none => rw [z] at h2; exact absurd h2 (by simp)
        | some _ => rfl
      exact PySem.W.kia_one (PySem.W.kitx_exc hcl T.hg T.hk T.hs T.ha T.hn T.ht T.hm) I.kIn J e (fun z => nomatch z) fun tk => ⟨.bl b, H, I.kept (t' := tk) fun _ _ z => z, rfl, q⟩
def clsV : D → Option Value
  | .ref c => some (.ref c)
  | .ty n => some (.type n)
  | _ => none
def dIsX (K : PySem.W.Frag) (a : Addr) (cls : Value) (d : Option Addr) (Cs : List Addr) : DCo := fun ds G Q => ∃ C ∈ Cs, cls = .ref C ∧ ∃ dd fs c cv b, ds = [.ref a, c] ∧ d = some dd ∧ (dd, Cell.xd fs) ∈ G ∧ clsV c = some cv ∧ PySem.W.kitOne K (.ref C) cv = some b ∧ Q (.bl b) G
theorem cd_isX (hT : ∀ C ∈ Cs, ExcC X.K C) (hz : Zc cls d oe) (hf : ∃ vs, oe.data = .fields vs) : CalD (X.suite a ((a, oe) :: pn)) (.builtin "isinstance") (dIsX X.K a cls d Cs) := by
  refine ⟨fun xs H Q => ∃ C ∈ Cs, cls = .ref C ∧ rIsEd X.K C a d xs H Q, ?_, ?_⟩
  · intro pins s σ H xs us Q I r h
    obtain ⟨C, hC, rfl, h⟩ := h
    exact call_isEd (hT C hC) hz hf pins s σ H xs us Q I r h
  · intro S G H xs vs Q P hc r ho hq
    obtain ⟨C, hC, hcl, dd, fs, c, cv, b, rfl, hd, hm, h1, h2, q⟩ := ho
    obtain ⟨v, r', rfl, rv, v2, r2', rfl, rv2, rfl⟩ := r
    obtain rfl : v = .ref a := rv
    obtain ⟨fv, f1, f2, f3⟩ := hc.cell _ hm
    refine ⟨C, hC, hcl, v2, cv, b, dd, fv, rfl, hd, f1, fun u ru => ?_, h2, hq _ _ _ (.bl _) _ hc.aft rfl q⟩
    cases c <;> first | (cases h1; done) | skip
    · cases h1
      cases (show v2 = .ref _ from rv2)
      exact ru
    · cases h1
      cases (show v2 = .ty _ from rv2)
      exact ru
end
end DL
set_option Elab.async false
set_option linter.all false
set_option maxRecDepth 100000
set_option maxHeartbeats 4000000
namespace DL
open PySem PyProof.Rows L2
/-! ### what the head checks of exception classes -/
def oexB (K : PySem.W.Frag) (C : Addr) : Bool := (match K.lookup C with
  | some ⟨.type "type", _, .cls cd, sl⟩ => (match cd.mro, sl.toList with
    | .ref C' :: bm, [_, _, _, _, some (.builtin n), _] => C' == C && (n == "ValueError.__new__" && (!cd.hasDel && (cd.hasDict && PySem.HandSPX.refsVE bm)))
    | _, _ => false)
  | _ => false) && (decide (PySem.W.findIn K (.ref C) "__setattr__" = some (some (.builtin "object.__setattr__"))) && (decide (PySem.W.subIn K (.ref C) (.type "BaseException") = some true) && (decide (PySem.W.typeIn K (.ref C) = some (.type "type")) && PySem.W.keepIn K (.ref C))))
theorem oexB_ok {K : PySem.W.Frag} {C : Addr} (h : oexB K C = true) : OexC K C := by
  obtain ⟨h1, h⟩ := Bool.and_eq_true_iff.mp h
  obtain ⟨h2, h⟩ := Bool.and_eq_true_iff.mp h
  obtain ⟨h3, h⟩ := Bool.and_eq_true_iff.mp h
  obtain ⟨h4, h5⟩ := Bool.and_eq_true_iff.mp h
  refine ⟨?_, of_decide_eq_true h2, of_decide_eq_true h3, of_decide_eq_true h4, h5⟩
  split at h1
  · rename_i dct cd sl hl
    split at h1
    · rename_i C' bm k0 k1 k2 k3 n k5 hm hs
      obtain ⟨g1, h1⟩ := Bool.and_eq_true_iff.mp h1
      obtain ⟨g2, h1⟩ := Bool.and_eq_true_iff.mp h1
      obtain ⟨g3, h1⟩ := Bool.and_eq_true_iff.mp h1
      obtain ⟨g4, g5⟩ := Bool.and_eq_true_iff.mp h1
      have e1 : C' = C := by simpa using g1
      have e2 : n = "ValueError.__new__" := by simpa using g2
      have e3 : cd.hasDel = false := by simpa using g3
      subst e1 e2
      have es : sl = #[k0, k1, k2, k3, some (.builtin "ValueError.__new__"), k5] := by
        rw [← Array.toList_inj, hs]
      subst es
      obtain ⟨nm, bs, mro, N, q, hd, sn, sub, ab, col, hdel⟩ := cd
      dsimp only at hm g4 e3
      subst hm g4 e3
      exact ⟨nm, q, N, bs, bm, sn, sub, ab, col, dct, k0, k1, k2, k3, k5, hl, g5⟩
    · cases h1
  · cases h1
def whyB (K : PySem.W.Frag) (C fI : Addr) : Bool := oexB K C && (decide (PySem.W.findIn K (.ref C) "__init__" = some (some (.ref fI))) && (decide (PySem.W.typeIn K (.ref fI) = some (.type "function")) && decide (PySem.W.findIn K (.ref C) "why" = some none)))
theorem whyB_ok {K : PySem.W.Frag} {C fI : Addr} (h : whyB K C fI = true) : WhyC K C fI := by
  obtain ⟨h1, h⟩ := Bool.and_eq_true_iff.mp h
  obtain ⟨h2, h⟩ := Bool.and_eq_true_iff.mp h
  obtain ⟨h3, h4⟩ := Bool.and_eq_true_iff.mp h
  exact ⟨oexB_ok h1, of_decide_eq_true h2, of_decide_eq_true h3, of_decide_eq_true h4⟩
def excB (K : PySem.W.Frag) (D : Addr) : Bool := decide (PySem.W.findIn K (.ref D) "__getattribute__" = some (some (.builtin "BaseException.__getattribute__"))) && (decide (PySem.W.findIn K (.ref D) "__getattr__" = some none) && (decide (PySem.W.subIn K (.ref D) (.type "BaseException") = some true) && (PySem.W.hasDictIn K D && (decide (PySem.W.findIn K (.ref D) "__class__" = some (some (.builtin "object.__class__"))) &&
  (decide (PySem.W.specialIn K (.builtin "object.__class__") "__get__" = some (some (.builtin "getset_descriptor.__get__"))) && (decide (PySem.W.takesIn K (.builtin "object.__class__") = some true) && decide (PySem.W.mroIn K D (.type "object") = some true)))))))
theorem excB_ok {K : PySem.W.Frag} {D : Addr} (h : excB K D = true) : ExcC K D := by
  obtain ⟨h1, h⟩ := Bool.and_eq_true_iff.mp h
  obtain ⟨h2, h⟩ := Bool.and_eq_true_iff.mp h
  obtain ⟨h3, h⟩ := Bool.and_eq_true_iff.mp h
  obtain ⟨h4, h⟩ := Bool.and_eq_true_iff.mp h
  obtain ⟨h5, h⟩ := Bool.and_eq_true_iff.mp h
  obtain ⟨h6, h⟩ := Bool.and_eq_true_iff.mp h
  obtain ⟨h7, h8⟩ := Bool.and_eq_true_iff.mp h
  exact ⟨of_decide_eq_true h1, of_decide_eq_true h2, of_decide_eq_true h3, h4, of_decide_eq_true h5, of_decide_eq_true h6, of_decide_eq_true h7, of_decide_eq_true h8⟩
/-! ### __init__(self, why) over L2 -/
def tWhy (K : PySem.W.Frag) : TS := tSeq (tDrop (tVeI K (tCons (tVar 0) (tCons (tVar 1) tNil)))) (tOst K "why" (tVar 0) (tVar 1))
theorem pure_why {K : PySem.W.Frag} (vs : List V) (H : Hp) (Q : VK) (E : XK) (h : spWhy K vs H Q E) : tWhy K { nx := fun _ H' => Q .non H', rt := Q } (start ["self", "why"] vs) H := by
  obtain ⟨a, C, y, rfl, T, hno, ha, q⟩ := h
  exact ⟨_, rfl, _, rfl, a, C, [y], rfl, by simp, T, ha, _, rfl, _, rfl, a, C, rfl, T, hno, .inl ⟨ha, fun dx h1 h2 => q dx h1 h2⟩⟩
theorem len_why {K : PySem.W.Frag} (vs : List V) (H : Hp) (Q : VK) (E : XK) (h : spWhy K vs H Q E) : vs.length = 2 := by
  obtain ⟨a, C, y, rfl, _⟩ := h
  rfl
end DL
set_option Elab.async false
set_option linter.all false
set_option maxRecDepth 100000
set_option maxHeartbeats 4000000
namespace DL
open PySem PyProof.Rows L2
/-! ### isinstance(e, (A, B, ..)), e the exception of the suite, the tuple written there -/
def rIsTd (K : PySem.W.Frag) (D a : Addr) (d : Option Addr) : List V → Hp → VK → Prop := fun xs H Q => ∃ (tp : Addr) (cs : List V) (us : List Value) (b : Bool) (dd : Addr) (fs : List (Str × V)), xs = [.ref a, .ref tp] ∧ d = some dd ∧ H dd = some (.xd fs) ∧ H tp = some (.tup cs) ∧ Paired ClsV cs us ∧ PySem.W.kitAny K (.ref D) us = some b ∧ Q (.bl b) H
section
variable {X : Cx} {W : WX} {a : Addr} {oe : Obj} {cls : Value} {d : Option Addr} {pn : List (Addr × Obj)} {Cs : List Addr}
theorem call_isTd {C : Addr} (T : ExcC X.K C) (hz : Zc (.ref C) d oe) (hf : ∃ vs, oe.data = .fields vs) : CallR (X.suite a ((a, oe) :: pn)) (.builtin "isinstance") (rIsTd X.K C a d) := by
  intro pins s σ H xs us Q I r h
  obtain ⟨tp, cs, ws, b, dd, fs, rfl, ed, ea, hT, k, e, q⟩ := h
  cases r with
  | cons rx rr =>
    cases rr with
    | @cons _ u2 _ _ rt rr =>
      cases rr
      cases rx
      cases (show u2 = Value.ref tp from rt)
      subst ed
      obtain ⟨hget, _⟩ := I.pin (a, oe) (List.mem_append.mpr (.inl List.mem_cons_self))
      obtain ⟨vs, hv⟩ := hf
      have hx : ObjOk X.prog X.w H s.heap dd (.xd fs) := I.hok dd _ ea
      obtain ⟨mA, hns, hr⟩ := hx
      obtain ⟨od, ho, hl⟩ := lookIn_ns hns
      have J : PySem.W.InstAt s.heap a oe C (some od) := ⟨hget, hz.1, by unfold PySem.W.notCls; rw [hv] <;> rfl, by rw [hz.2]; exact ho⟩
      have hcl : (PySem.W.clsIn X.K C).isSome = true := by
        have h2 := T.hd
        unfold PySem.W.hasDictIn at h2
        cases z : PySem.W.clsIn X.K C with
        | none => rw [z] at h2; exact absurd h2 (by simp)
        | some _ => rfl
      obtain ⟨_, its, rv, o, h1, h2, n, h3⟩ := (show ObjOk X.prog X.w H s.heap tp (.tup cs) from I.hok tp _ hT)
      have e3 := ClsV.all k rv
      subst e3
      obtain ⟨oc, od', dt, sl⟩ := o
      simp only at h2 h3
      subst h2 h3
      exact PySem.W.kia_tup (PySem.W.kitx_exc hcl T.hg T.hk T.hs T.ha T.hn T.ht T.hm) I.kIn J h1 e (fun z => nomatch z) fun tk => ⟨.bl b, H, I.tok tk, rfl, q⟩
def dIsXT (K : PySem.W.Frag) (a : Addr) (cls : Value) (d : Option Addr) (Cs : List Addr) (te : DTE) (tr : DTA) : DTE := fun σ G Q R => ∃ C ∈ Cs, cls = .ref C ∧ te σ G (fun x G1 => x = .ref a ∧ tr σ G1 (fun cs G2 => cs.length ≤ sizeLine ∧ ∃ dd fs us b, d = some dd ∧ (dd, Cell.xd fs) ∈ G2 ∧ ClsDs cs us ∧ PySem.W.kitAny K (.ref C) us = some b ∧ Q (.bl b) G2) R) R
variable {e : Expr} {es : List Expr} {te : DTE} {tr : DTA} {p p2 pos : Pos} {k : Nat}
theorem de_isXT (hT : ∀ C ∈ Cs, ExcC X.K C) (hz : Zc cls d oe) (hf : ∃ vs, oe.data = .fields vs) (hg : Gl (X.suite a ((a, oe) :: pn)) "isinstance") (hm : X.mg "isinstance" = none) (he : DE (X.suite a ((a, oe) :: pn)) W e te) (ha : DA (X.suite a ((a, oe) :: pn)) W es tr)
    (hst : starEach [e, .Tuple es k p2] X.env = (false, eval e X.env) :: starEach [.Tuple es k p2] X.env := by rfl) (hst2 : starEach [.Tuple es k p2] X.env = (false, eval (.Tuple es k p2) X.env) :: starEach [] X.env := by rfl)
    (hpl : (backTo pos (starEach [.Tuple es k p2] X.env)).any (·.1) = false := by rfl) : DE (X.suite a ((a, oe) :: pn)) W (.Call (.Name "isinstance" p) [e, .Tuple es k p2] [] pos) (dIsXT X.K a cls d Cs te tr) := by
  refine ⟨fun pins s σV H P I h => ?_⟩
  obtain ⟨S, σ, G, Q, R, hc, hee, ⟨C, hC, rfl, ht⟩, hx, hq⟩ := h
  refine (pe_callB (X := X.suite a ((a, oe) :: pn)) (call_isTd (hT C hC) hz hf) hg hm (by decide +kernel) (pa_cons he (pa_cons (pe_tup ha) pa_nil hst2) hst) (by decide) (by decide) hst hpl).run pins s σV H P I ⟨S, σ, G, _, R, hc, hee, ht, hx, fun v H1 S1 x G1 a1 r1 q1 => ?_⟩
  obtain ⟨rfl, q1⟩ := q1
  refine ⟨S1, σ, G1, _, R, a1.cn, hee.up a1.sub, q1, hx.aft a1, fun vs H2 S2 cs G2 a2 r2 q2 => ?_⟩
  obtain ⟨hl, dd, fs, us, b, hd, hm', h2, h3, q⟩ := q2
  have a12 := a1.trans a2
  refine ⟨by rw [r2.length]; exact hl, fun z hz' => ?_⟩
  have a3 := a2.cn.junk (o := .tup vs) hz'
  obtain rfl : v = .ref a := r1
  obtain ⟨fv, f1, f2, f3⟩ := a3.cn.cell _ hm'
  exact ⟨z, vs, us, b, dd, fv, rfl, hd, f1, upd_same, h2.v r2, h3, hq _ _ _ (.bl b) _ (a12.trans a3) rfl q⟩
end
end DL
set_option Elab.async false
set_option linter.all false
set_option maxRecDepth 100000
set_option maxHeartbeats 4000000
namespace DG
open PySem PySem.SeqAt
open AutoSeq1 (wpAny_loadPart')
open MeetsSeq MeetsSeq2 MeetsSeq3 SeqRoads2
section
variable {prog : Program} {w : World} {A : Around} {R : Result → Shared → Prop}
/-- at each turn the two lists are read anew: N items each -/
def ListB (prog : Program) (w : World) (A : Around) (E : Value → Shared → Prop) (l b : Addr) (N : Nat) (I : Nat → Shared → Prop) (Z : Shared → Prop) : Prop :=
  ∀ i s, I i s → ∃ (items items2 : Array Value) (n n2 : Nat) (dd dd2 : Option Addr) (sl sl2 : Array (Option Value)), s.heap.get? l = some { cls := .type "list", dict := dd, data := .seq items n, slots := sl } ∧ s.heap.get? b = some { cls := .type "list", dict := dd2, data := .seq items2 n2, slots := sl2 } ∧ items.size = N ∧ items2.size = N ∧
    ∀ (h1 : i < items.size) (h2 : i < items2.size), wpAny (model prog w) A.in1 (eqBool items[i] items2[i]) (fun r s' => (r = true ∧ I (i + 1) s') ∨ (r = false ∧ I i s' ∧ Z s')) E s
theorem eq_loopB (l b : Addr) (N : Nat) (I : Nat → Shared → Prop) (Z : Shared → Prop) (hl : ListB prog w A (fun e s' => R (.error e) s') l b N I Z)
    (fin : ∀ s, I N s → R (.ok (.ret (.bool true))) s) (fin2 : ∀ s, Z s → R (.ok (.ret (.bool false))) s) (k : Nat) :
    ∀ i : Nat, N - i = k → i ≤ N → ∀ s, I i s →
      wpAny (model prog w) A.in1 (Builtin.«list.__eq__.loop» ⟨[.ref l, .ref b, rawInt i, rawInt 2], []⟩) (GQ.FinOf prog w A R) (fun e s' => R (.error e) s') s := by
  induction k with
  | zero =>
    intro i hk hi s h
    obtain ⟨items, items2, n, n2, dd, dd2, sl, sl2, hl1, hb1, hs1, hs2, _⟩ := hl _ _ h
    have hi' : i = N := by omega
    have hR : R (.ok (.ret (.bool true))) s := fin s (hi' ▸ h)
    obtain ⟨hp, g, d, tk, os⟩ := s
    wp_walk using wpAny_loadPart' hl1, wpAny_loadPart' hb1
    have hi1 : items[((i : Nat) : Int).toNat]? = none := by simp; omega
    have hi2 : items2[((i : Nat) : Int).toNat]? = none := by simp; omega
    rw [hi1, hi2]
    wp_walk using wpAny_loadPart' hl1, wpAny_loadPart' hb1
    show R (.ok (.ret (.bool (items.size == items2.size)))) _
    rw [hs1, hs2]
    simpa using hR
  | succ k ih =>
    intro i hk hi s h
    obtain ⟨items, items2, n, n2, dd, dd2, sl, sl2, hl1, hb1, hs1, hs2, turn⟩ := hl _ _ h
    have hlt : i < items.size := by omega
    have hlt2 : i < items2.size := by omega
    have ht := turn hlt hlt2
    obtain ⟨hp, g, d, tk, os⟩ := s
    wp_walk using wpAny_loadPart' hl1, wpAny_loadPart' hb1
    have hi1 : items[((i : Nat) : Int).toNat]? = some items[i] := by simp [hlt]
    have hi2 : items2[((i : Nat) : Int).toNat]? = some items2[i] := by simp [hlt2]
    have hc : ((i : Int) + 1) = ((i + 1 : Nat) : Int) := by omega
    rw [hi1, hi2]
    refine wpAny_bind (wpAny_mono ht (fun r s2 h2 => ?_) fun _ _ x => x)
    rcases h2 with ⟨hr, h2⟩ | ⟨hr, h2, hz⟩
    · subst hr
      have hrec := ih (i + 1) (by omega) (by omega) s2 h2
      obtain ⟨hp2, g2, d2, tk2, os2⟩ := s2
      wp_walk
      rw [hc]
      exact ⟨plainId_quiet plain_eq_loop _, codeAny_builtin entry_eq_loop (by
        rw [Around.under_plainId plain_eq_loop _]
        exact hrec)⟩
    · subst hr
      obtain ⟨jt, jt2, m, m2, ed, ed2, tl, tl2, jl1, jb1, js1, js2, _⟩ := hl _ _ h2
      have hR : R (.ok (.ret (.bool false))) s2 := fin2 s2 hz
      have ji1 : jt[((i : Nat) : Int).toNat]? = some (jt[i]'(by omega)) := by simp
      have ji2 : jt2[((i : Nat) : Int).toNat]? = some (jt2[i]'(by omega)) := by simp
      obtain ⟨hp2, g2, d2, tk2, os2⟩ := s2
      wp_walk using wpAny_loadPart' jl1, wpAny_loadPart' jb1
      rw [ji1, ji2]
      wp_walk
      exact hR
theorem list_eqB (l b : Addr) (N : Nat) (I : Nat → Shared → Prop) (Z : Shared → Prop) (hl : ListB prog w A (fun e s' => R (.error e) s') l b N I Z)
    (fin : ∀ s, I N s → R (.ok (.ret (.bool true))) s) (fin2 : ∀ s, Z s → R (.ok (.ret (.bool false))) s) {s : Shared} (h : I 0 s) :
    wpAny (model prog w) A.in1 (Builtin.«list.__eq__» ⟨[.ref l, .ref b], []⟩) (GQ.FinOf prog w A R) (fun e s' => R (.error e) s') s := by
  obtain ⟨items, items2, n, n2, dd, dd2, sl, sl2, hl1, hb1, hs1, hs2, _⟩ := hl _ _ h
  have hrec := eq_loopB (A := A) (R := R) l b N I Z hl fin fin2 _ 0 rfl (Nat.zero_le _) s h
  obtain ⟨hp, g, d, tk, os⟩ := s
  have f3 := AutoSeq1.sub_list_list
  have hne : ¬ (items.size != items2.size) = true := by simp [hs1, hs2]
  wp_walk using wpAny_loadPart' hl1, wpAny_loadPart' hb1
  exact ⟨plainId_quiet plain_eq_loop _, codeAny_builtin entry_eq_loop (by
    rw [Around.under_plainId plain_eq_loop _]
    exact hrec)⟩
end
section
variable {prog : Program} {w : World} {A : Around} {E : Value → Shared → Prop} {s : Shared}
theorem rc_listB {l b : Addr} {N : Nat} {Q : Value → Shared → Prop} (hu : A.units < cLine) (I : Nat → Shared → Prop) (Z : Shared → Prop) (hl : ListB prog w A E l b N I Z)
    (fin : ∀ s, I N s → Q (.bool true) s) (fin2 : ∀ s, Z s → Q (.bool false) s) (h : I 0 s) : wpAny (model prog w) A (richCompare .Eq (.ref l) (.ref b)) Q E s := by
  obtain ⟨items, items2, n, n2, dd, dd2, sl, sl2, hl1, hb1, _, _, _⟩ := hl _ _ h
  refine wpAny_richCompare_same_room (op := .Eq) ⟨_, hl1, rfl⟩ ⟨_, hb1, rfl⟩ F.slot_list_eq (GQ.call_here F.slot_list_eq ⟨_, hl1, rfl⟩ F.entry_list_eq (F.args_list_eq_2 _ _) ?_) hu
  exact list_eqB (R := wants (fun v s' => v ≠ .notImplemented ∧ Q v s') E) l b N I Z hl (fun s' q => ⟨(fun x => nomatch x), fin s' q⟩) (fun s' q => ⟨(fun x => nomatch x), fin2 s' q⟩) h
end
end DG
namespace DL
open PySem PySem.Spec PyProof.Rows L2
/-- how two values are seen to be equal or not, by the abstract heap -/
abbrev EqvB := V → V → Hp → Bool → Prop
def EqB (X : Cx) (n : Nat) (D : EqvB) : Prop :=
  ∀ (A : Around) (pins : List (Addr × Obj)) (s : Shared) (σ : L2.St) (H : Hp) (x y : V) (u v : Value) (b : Bool), SubG X n A → Inv X pins σ H s → RelV x u → RelV y v → D x y H b →
    wpAny (model X.prog X.w) A (eqBool u v) (fun r s' => r = b ∧ ∃ H', Inv X pins σ H' s' ∧ Ext H H') X.xe s
def RcB (X : Cx) (n : Nat) (D : EqvB) : Prop :=
  ∀ (A : Around) (pins : List (Addr × Obj)) (s : Shared) (σ : L2.St) (H : Hp) (x y : V) (u v : Value) (b : Bool), SubG X n A → Inv X pins σ H s → RelV x u → RelV y v → D x y H b →
    wpAny (model X.prog X.w) A (richCompare .Eq u v) (fun r s' => r = .bool b ∧ ∃ H', Inv X pins σ H' s' ∧ Ext H H') X.xe s
def MonB (D : EqvB) : Prop := ∀ x y H H' b, Ext H H' → D x y H b → D x y H' b
section
variable {X : Cx} {n : Nat} {D : EqvB}
/-- two lists of as many items; f: which are equal -/
def DLB (K : PySem.W.Frag) (D : EqvB) : EqvB := fun x y H b => ∃ p q xs ys, x = .ref p ∧ y = .ref q ∧ SqL K H p xs ∧ SqL K H q ys ∧ xs.length = ys.length ∧ ∃ f : Nat → Bool, (∀ (i : Nat) x y, xs[i]? = some x → ys[i]? = some y → D x y H (f i)) ∧ (b = true ↔ ∀ i, i < xs.length → f i = true)
theorem rcB_list (hD : MonB D) (h : EqB X n D) : RcB X (n + 1) (DLB X.K D) := by
  intro A pins s σ H x y u v b sb I rx ry d
  obtain ⟨p, q, xs, ys, rfl, rfl, hp, hq, hl, f, hf, hb⟩ := d
  cases rx
  cases ry
  refine DG.rc_listB (N := xs.length) sb.room.units0 (fun i s' => (∀ j, j < i → f j = true) ∧ LoopI X pins σ H s') (fun s' => (∃ j, j < xs.length ∧ f j = false) ∧ LoopI X pins σ H s') (fun i s' q => ?_)
    (fun s' q => ⟨by rw [hb.mpr q.1], q.2⟩) (fun s' q => ⟨?_, q.2⟩) ⟨fun j hj => absurd hj (by omega), H, I, Ext.rfl'⟩
  · obtain ⟨hj, H1, I1, e1⟩ := q
    obtain ⟨its, r, ⟨o, m, g, gc, gd, gs⟩, z⟩ := I1.list (hp.ext e1)
    obtain ⟨its2, r2, ⟨o2, m2, g2, gc2, gd2, gs2⟩, z2⟩ := I1.list (hq.ext e1)
    obtain ⟨oc, od, dt, sl⟩ := o
    obtain ⟨oc2, od2, dt2, sl2⟩ := o2
    simp only at gc gs gc2 gs2
    subst gc gs gc2 gs2
    refine ⟨its.toArray, its2.toArray, m, m2, od, od2, sl, sl2, g, g2, by rw [List.size_toArray, ← r.length], by rw [List.size_toArray, ← r2.length, ← hl], fun h1 h2 => ?_⟩
    have h1' : i < its.length := by simpa using h1
    have h2' : i < its2.length := by simpa using h2
    have k1 : i < xs.length := by rw [r.length]; exact h1'
    have k2 : i < ys.length := by rw [r2.length]; exact h2'
    obtain ⟨u, hu, ru⟩ := r.get (List.getElem?_eq_getElem k1)
    obtain ⟨v, hv, rv⟩ := r2.get (List.getElem?_eq_getElem k2)
    have q1 : its.toArray[i] = u := by
      have : its[i]? = some its.toArray[i] := by rw [List.getElem?_eq_getElem h1'] <;> simp
      rw [this] at hu
      exact Option.some.inj hu
    have q2 : its2.toArray[i] = v := by
      have : its2[i]? = some its2.toArray[i] := by rw [List.getElem?_eq_getElem h2'] <;> simp
      rw [this] at hv
      exact Option.some.inj hv
    rw [q1, q2]
    refine wpAny_mono (h A.in1 pins s' σ H1 _ _ u v _ sb.in1 I1 ru rv (hD _ _ _ _ _ e1 (hf i _ _ (List.getElem?_eq_getElem k1) (List.getElem?_eq_getElem k2)))) (fun r s2 q => ?_) fun _ _ x => x
    obtain ⟨hr, H2, I2, e2⟩ := q
    cases hfi : f i with
    | true => exact .inl ⟨hr.trans hfi, fun j hj' => by
        by_cases e : j = i
        · subst e; exact hfi
        · exact hj j (by omega), H2, I2, e1.trans e2⟩
    | false => exact .inr ⟨hr.trans hfi, ⟨hj, H2, I2, e1.trans e2⟩, ⟨i, k1, hfi⟩, H2, I2, e1.trans e2⟩
  · obtain ⟨⟨j, hj, hf'⟩, _⟩ := q
    cases b with
    | false => rfl
    | true => rw [hb.mp rfl j hj] at hf'; cases hf'
end
end DL
set_option Elab.async false
set_option linter.all false
set_option maxRecDepth 100000
set_option maxHeartbeats 4000000
namespace DL
open PySem PySem.Spec PyProof.Rows L2
theorem contains_ty {l : List Value} {C : Addr} (h : l.all (fun v => match v with | .type _ => true | _ => false) = true) : l.contains (.ref C) = false := by
  induction l with
  | nil => rfl
  | cons a l ih =>
    rw [List.all_cons, Bool.and_eq_true] at h
    cases a <;> first | (cases h.1; done) | skip
    rw [List.contains_cons, ih h.2]
    rfl
theorem none_sub {K : PySem.W.Frag} {C : Addr} : PySem.W.subIn K (.type "NoneType") (.ref C) = some false := by
  have h1 : PySem.fastBuiltinMro "NoneType" = some [.type "NoneType", .type "object"] := by kernel_rfl
  show (PySem.fastBuiltinMro "NoneType").map (·.contains (.ref C)) = some false
  rw [h1]
  show some (List.contains _ (Value.ref C)) = some false
  rw [contains_ty rfl]
/-- the class's own == is sp -/
structure OwnC (K : PySem.W.Frag) (C : Addr) (g : Addr) : Prop where
  at_ : PySem.W.findIn K (.ref C) "__eq__" = some (some (.ref g))
  fn : PySem.W.isFn K (.ref g) = true
  nn : PySem.W.mroIn K C (.type "NoneType") = some false
def IsInsV (C : Addr) (x : V) (H : Hp) : Prop := ∃ a dx fs, x = .ref a ∧ H a = some (.ins C dx fs)
/-- the own ==, called with x and y, tells b -/
def OwnB (K : PySem.W.Frag) (sp : DSp) (x y : V) (H : Hp) (b : Bool) : Prop := ∃ S d d', Cn K S [] H ∧ Rep K S d x ∧ Rep K S d' y ∧ sp [d, d'] [] (fun r G' => r = .bl b ∧ G' = []) dE0
theorem Cn.ext0 {K : PySem.W.Frag} {S H H' : Hp} (c : Cn K S [] H) (e : Ext H H') : Cn K S [] H' :=
  ⟨fun a o h => e a o (c.sub a o h), c.nd, c.sep, fun p hp => (by cases hp)⟩
theorem OwnB.mon {K : PySem.W.Frag} {sp : DSp} {x y : V} {H H' : Hp} {b : Bool} (h : OwnB K sp x y H b) (e : Ext H H') : OwnB K sp x y H' b := by
  obtain ⟨S, d, d', c, r, r', q⟩ := h
  exact ⟨S, d, d', c.ext0 e, r, r', q⟩
theorem IsInsV.mon {C : Addr} {x : V} {H H' : Hp} (h : IsInsV C x H) (e : Ext H H') : IsInsV C x H' := by
  obtain ⟨a, dx, fs, hx, ha⟩ := h
  exact ⟨a, dx, fs, hx, e _ _ ha⟩
section
variable {X : Cx} {n : Nat} {C g : Addr} {fd : FuncData} {ps : List Str} {sp : DSp}
theorem own_conc {K : PySem.W.Frag} {x y : V} {H : Hp} {b : Bool} {E : XK} (h : OwnB K sp x y H b) : conc K sp [x, y] H (fun v H' => v = .bl b ∧ Ext H H') E := by
  obtain ⟨S, d, d', c, r, r', q⟩ := h
  refine ⟨S, [], [d, d'], _, _, c, Reps.cons r (Reps.cons r' Reps.nil), q, fun v H' S' z G' af rv q => ?_, fun cls dx H' S' fs G' af xr xn q => q.elim⟩
  obtain ⟨rfl, rfl⟩ := q
  exact ⟨rv, fun a o e => (af.stp a o e (by simp [keysG])).1⟩
/-- the own == is called -/
theorem own_run {A : Around} {pins : List (Addr × Obj)} {s : Shared} {σ : L2.St} {H : Hp} {x y : V} {u v : Value} {b : Bool} (o : OwnC X.K C g) (F : FnD X.prog X.w X.K X.mg X.base n g fd ps sp) (hb : Binds X.K fd ps []) (tk : Takes X (fun _ _ _ _ => False)) (sb : SubG X n A) (I : Inv X pins σ H s) (rx : RelV x u) (ry : RelV y v)
    (h : OwnB X.K sp x y H b) : wpAny (model X.prog X.w) A (call (.ref g) [u, v]) (fun r s' => r = .bool b ∧ ∃ H', Inv X pins σ H' s' ∧ Ext H H') X.xe s := by
  have hsp : conc X.K sp [x, y] H (fun v H' => v = .bl b ∧ Ext H H') (WE (fun _ _ _ _ => False) σ) := own_conc h
  have e0 : Env0 X.prog X.w X.K X.mg X.base A X.stack s H := by
    have e := I.env0
    exact ⟨by rw [sb.fr]; exact e.frames, e.mod, e.bs, e.bsz, e.funs, e.frf, e.hok, e.bare⟩
  have hl := F.len _ _ _ _ hsp
  have r2 : Vals [x, y] [u, v] := .cons rx (.cons ry .nil)
  have hx : PassesAt (L2.CX X.prog X.w) X σ (WE (fun _ _ _ _ => False) σ) := passAt tk σ
  refine wpAny_call (codeAny_mono (F.run A X.stack s H ⟨[u, v], []⟩ [u, v] [x, y] _ _ sb.room e0 (by
    have := hb s [u, v] I.kIn (by simpa using hl)
    simpa using this) r2 hsp) fun r s' hq => ?_)
  cases r with
  | error e => exact hx pins H s e s' I hq
  | ok fl =>
    cases fl with
    | ret w =>
      obtain ⟨z, H', I', rz, ez, ex⟩ := I.after hq
      subst ez
      cases rz
      exact ⟨rfl, H', I', ex⟩
    | next => exact False.elim hq
    | brk => exact False.elim hq
    | cont => exact False.elim hq
theorem own_rcL {A : Around} {pins : List (Addr × Obj)} {s : Shared} {σ : L2.St} {H : Hp} {x y : V} {u v : Value} {b : Bool} (o : OwnC X.K C g) (F : FnD X.prog X.w X.K X.mg X.base n g fd ps sp) (hb : Binds X.K fd ps []) (tk : Takes X (fun _ _ _ _ => False)) (sb : SubG X n A) (I : Inv X pins σ H s) (rx : RelV x u) (ry : RelV y v)
    (ix : IsInsV C x H) (iy : IsInsV C y H ∨ y = .non) (h : OwnB X.K sp x y H b) : wpAny (model X.prog X.w) A (richCompare .Eq u v) (fun r s' => r = .bool b ∧ ∃ H', Inv X pins σ H' s' ∧ Ext H H') X.xe s := by
  have hc := own_run o F hb tk sb I rx ry h
  obtain ⟨a, dx, fs, rfl, ha⟩ := ix
  cases rx
  obtain ⟨mA, J, _⟩ := ins_get I.hok ha
  obtain ⟨od, J, _⟩ := J.look
  obtain ⟨m, hF⟩ := I.fr
  have back : wpAny (model X.prog X.w) A (call (.ref g) [.ref a, v]) (PySem.W.CmpBack fun r s' => r = .bool b ∧ ∃ H', Inv X pins σ H' s' ∧ Ext H H') X.xe s := wpAny_mono hc (fun r s' z => by
    obtain ⟨rfl, z⟩ := z
    exact ⟨rfl, z⟩) fun _ _ x => x
  rcases iy with ⟨a', dy, gs, rfl, hb'⟩ | rfl
  · cases ry
    obtain ⟨mB, J', _⟩ := ins_get I.hok hb'
    obtain ⟨od', J', _⟩ := J'.look
    exact PySem.W.cmp_K (op := .Eq) (tb := .ref C) sb.room.units0 hF I.ok.mod.kin J J'.type (by simp [PySem.W.notFirst]) o.at_ o.fn back
  · cases ry
    exact PySem.W.cmp_K (op := .Eq) (tb := .type "NoneType") sb.room.units0 hF I.ok.mod.kin J (PySem.W.Looks.of_pure rfl) (by unfold PySem.W.notFirst; rw [none_sub]; simp) o.at_ o.fn back
/-- None == an instance: the instance's own == is asked behind None's -/
theorem own_rcN {A : Around} {pins : List (Addr × Obj)} {s : Shared} {σ : L2.St} {H : Hp} {y : V} {v : Value} {b : Bool} (o : OwnC X.K C g) (FF : FnD X.prog X.w X.K X.mg X.base n g fd ps sp) (hb : Binds X.K fd ps []) (tk : Takes X (fun _ _ _ _ => False)) (sb : SubG X n A) (I : Inv X pins σ H s) (ry : RelV y v)
    (iy : IsInsV C y H) (h : OwnB X.K sp y .non H b) : wpAny (model X.prog X.w) A (richCompare .Eq .none v) (fun r s' => r = .bool b ∧ ∃ H', Inv X pins σ H' s' ∧ Ext H H') X.xe s := by
  have hc := own_run (y := .non) (v := .none) o FF hb tk sb I ry rfl h
  obtain ⟨a, dx, fs, rfl, ha⟩ := iy
  cases ry
  obtain ⟨mA, J, _⟩ := ins_get I.hok ha
  obtain ⟨od, J, _⟩ := J.look
  have hT : s.TypeIs .none "NoneType" := rfl
  simp only [richCompare, cmpInfo, hT.oneThing_none]
  refine wpAny_holding ?_
  refine wpAny_bind (wpAny_cRoomFor_or (.inr sb.room.units0) ?_)
  refine wpAny_bind (wpAny_typeOf hT (wpAny_bind (J.type.here ?_)))
  have hne : (Value.type "NoneType" != Value.ref C) = true := rfl
  simp only [hne, if_true]
  refine wpAny_bind ((PySem.W.looks_mroIn I.kIn o.nn).here ?_)
  simp only [Bool.false_eq_true, if_false, Bool.not_false, if_true]
  refine wpAny_bind (m := tryCompare _ _ _) (wpAny_tryCompare_declines hT PySem.F.slot_NoneType_eq (call_gives PySem.F.slot_NoneType_eq rfl PySem.F.entry_NoneType_eq (PySem.F.args_NoneType_eq_2 _ _) (SeqAt.NoneType___eq___none_ref_0 a) ⟨rfl, ?_⟩))
  have one : wpAny (model X.prog X.w) A (tryCompare (.ref a) "__eq__" .none) (fun r s' => ∃ v, r = some v ∧ v = .bool b ∧ ∃ H', Inv X pins σ H' s' ∧ Ext H H') X.xe s := by
    unfold tryCompare
    refine wpAny_bind (PySem.W.ifBound_K I.kIn J o.at_ o.fn (wpAny_mono hc (fun v s' hv => ?_) fun _ _ e => e))
    obtain ⟨rfl, hv⟩ := hv
    exact wpAny_pure ⟨_, rfl, rfl, hv⟩
  refine wpAny_bind (m := tryCompare _ _ _) (wpAny_mono one (fun r s' z => ?_) fun _ _ e => e)
  obtain ⟨v, rfl, hq⟩ := z
  exact wpAny_pure hq
end
end DL
set_option Elab.async false
set_option linter.all false
set_option maxRecDepth 100000
set_option maxHeartbeats 4000000
namespace DL
open PySem PySem.Spec PyProof.Rows L2
theorem tkF {X : Cx} : Takes X (fun _ _ _ _ => False) := fun u s' ⟨a, B, sI, pins, σ, H, cls, d, e, I, nb, up, sky, na, os, ag, w⟩ => w.elim
theorem Cn.extA {K : PySem.W.Frag} {S H H' : Hp} {G : GS} (c : Cn K S G H) (e : Ext H H') : Aft K S G H S G H' := by
  refine ⟨Sub.refl S, ⟨fun a o h => e a o (c.sub a o h), c.nd, c.sep, fun p hp => ?_⟩, fun a o h n => ⟨e a o h, n⟩, fun a o h n z => z, fun a h => ?_⟩
  · obtain ⟨o, ho⟩ := (c.cell p hp).there
    exact (c.cell p hp).up (Sub.refl S) ((e _ _ ho).trans ho.symm)
  · cases ha : H a with
    | none => exact absurd ha h
    | some o => rw [e a o ha]; exact fun z => by cases z
theorem Cn.emp {K : PySem.W.Frag} {S H : Hp} {G : GS} (c : Cn K S G H) : Cn K S [] H := c.forget (List.nil_sublist G)
/-- items: None, or instances of the class at C -/
def DEl (K : PySem.W.Frag) (C : Addr) (sp : DSp) : EqvB := fun x y H b => (x = .non ∧ y = .non ∧ b = true) ∨ (IsInsV C x H ∧ IsInsV C y H ∧ OwnB K sp x y H b ∧ (x = y → b = true)) ∨ (IsInsV C x H ∧ y = .non ∧ OwnB K sp x .non H b) ∨ (x = .non ∧ IsInsV C y H ∧ OwnB K sp y .non H b)
theorem mon_el {K : PySem.W.Frag} {C : Addr} {sp : DSp} : MonB (DEl K C sp) := fun x y H H' b e d => by
  rcases d with d | ⟨h1, h2, h3, h4⟩ | ⟨h1, h2, h3⟩ | ⟨h1, h2, h3⟩
  · exact .inl d
  · exact .inr (.inl ⟨h1.mon e, h2.mon e, h3.mon e, h4⟩)
  · exact .inr (.inr (.inl ⟨h1.mon e, h2, h3.mon e⟩))
  · exact .inr (.inr (.inr ⟨h1, h2.mon e, h3.mon e⟩))
section
variable {X : Cx} {W : WX} {n : Nat} {C g : Addr} {fd : FuncData} {ps : List Str} {sp : DSp}
theorem tru_drop {prog : Program} {w : World} {A : Around} {E : Value → Shared → Prop} {s : Shared} {m : Sem Value} {b : Bool} {Z : Shared → Prop} (h : wpAny (model prog w) A m (fun r s' => r = .bool b ∧ Z s') E s) : wpAny (model prog w) A (m >>= fun v => truthOfDropped v) (fun r s' => r = b ∧ Z s') E s := by
  refine wpAny_bind (wpAny_mono h (fun v s' hv => ?_) fun _ _ x => x)
  obtain ⟨rfl, q⟩ := hv
  exact wpAny_truthy_bool ⟨rfl, q⟩
theorem eqB_el (o : OwnC X.K C g) (F : FnD X.prog X.w X.K X.mg X.base n g fd ps sp) (hb : Binds X.K fd ps []) : EqB X n (DEl X.K C sp) := by
  intro A pins s σ H x y u v b sb I rx ry d
  rcases d with ⟨rfl, rfl, rfl⟩ | ⟨h1, h2, h3, h4⟩ | ⟨h1, rfl, h3⟩ | ⟨rfl, h2, h3⟩
  · cases rx
    cases ry
    exact SeqAt.EqAt.same (A := A) (s := s) .none X.prog X.w X.xe _ ⟨rfl, H, I, Ext.rfl'⟩
  · have hr := own_rcL o F hb tkF sb I rx ry h1 (.inl h2) h3
    obtain ⟨a, dx, fs, rfl, ha⟩ := h1
    obtain ⟨a', dy, gs, rfl, ha'⟩ := h2
    cases rx
    cases ry
    by_cases hab : a = a'
    · subst hab
      exact SeqAt.EqAt.same (A := A) (s := s) (.ref a) X.prog X.w X.xe _ ⟨(h4 rfl).symm, H, I, Ext.rfl'⟩
    · refine GQ.eqBool_refG hab (wpAny_mono hr (fun r s' q => ?_) fun _ _ x => x)
      obtain ⟨rfl, q⟩ := q
      exact ⟨b, rfl, rfl, q⟩
  · have hr := own_rcL o F hb tkF sb I rx ry h1 (.inr rfl) h3
    obtain ⟨a, dx, fs, rfl, ha⟩ := h1
    cases rx
    cases ry
    unfold eqBool
    refine wpAny_holding ?_
    refine wpAny_ite_split (fun hab => absurd (eq_of_beq hab) nofun) (fun _ => ?_)
    exact tru_drop hr
  · cases rx
    have hr := own_rcN o F hb tkF sb I ry h2 h3
    obtain ⟨a, dx, fs, rfl, ha⟩ := h2
    cases ry
    unfold eqBool
    refine wpAny_holding ?_
    refine wpAny_ite_split (fun hab => absurd (eq_of_beq hab) nofun) (fun _ => ?_)
    exact tru_drop hr
/-- x == y, by a rich comparison that only makes objects -/
def rRcB (D : EqvB) : R2 := fun x y H Q => ∃ b, D x y H b ∧ ∀ H', Ext H H' → Q (.bl b) H'
theorem op_rcB {D : EqvB} (h : RcB X n D) (hr : RoomG n X.A) : OpR X (compareOp .Eq) (rRcB D) := by
  intro pins s σ H x y v u Q I rx ry hq
  obtain ⟨b, d, q⟩ := hq
  show wpAny (model X.prog X.w) X.A (richCompare .Eq v u) (EP X pins σ Q) X.xe s
  refine wpAny_mono (h X.A pins s σ H x y v u b ⟨hr, rfl⟩ I rx ry d) (fun r s' z => ?_) fun _ _ x => x
  obtain ⟨hr', H', I', e⟩ := z
  subst hr'
  exact ⟨.bl b, H', I', rfl, q H' e⟩
/-- an instance or None -/
def DIn (C : Addr) (d : D) : Prop := ∃ ns vs, d = .obj C ns vs
theorem DIn.v {K : PySem.W.Frag} {S H : Hp} {G : GS} {C : Addr} {d : D} {v : V} (h : DIn C d) (c : Cn K S G H) (r : Rep K S d v) : IsInsV C v H := by
  obtain ⟨ns, vs, rfl⟩ := h
  obtain ⟨a, dx, fs, rfl, h1, _⟩ := r
  exact ⟨a, dx, fs, rfl, c.sub _ _ h1⟩
def SameV (d e : D) : Prop := ∃ (K : PySem.W.Frag) (S : Hp) (v : V), Rep K S d v ∧ Rep K S e v
def Tells (sp : DSp) (d e : D) (b : Bool) : Prop := sp [d, e] [] (fun r G' => r = .bl b ∧ G' = []) dE0
def ElD (C : Addr) (sp : DSp) (d e : D) (b : Bool) : Prop := (d = .non ∧ e = .non ∧ b = true) ∨ (DIn C d ∧ DIn C e ∧ Tells sp d e b ∧ (SameV d e → b = true)) ∨ (DIn C d ∧ e = .non ∧ Tells sp d .non b) ∨ (d = .non ∧ DIn C e ∧ Tells sp e .non b)
theorem ElD.v {K : PySem.W.Frag} {S H : Hp} {G : GS} {d e : D} {x y : V} {b : Bool} (h : ElD C sp d e b) (c : Cn K S G H) (r : Rep K S d x) (r' : Rep K S e y) : DEl K C sp x y H b := by
  rcases h with ⟨rfl, rfl, rfl⟩ | ⟨h1, h2, h3, h4⟩ | ⟨h1, rfl, h3⟩ | ⟨rfl, h2, h3⟩
  · exact .inl ⟨r, r', rfl⟩
  · exact .inr (.inl ⟨h1.v c r, h2.v c r', ⟨S, d, e, c.emp, r, r', h3⟩, fun exy => h4 ⟨K, S, x, r, by rw [exy]; exact r'⟩⟩)
  · exact .inr (.inr (.inl ⟨h1.v c r, r', S, d, .non, c.emp, r, rfl, h3⟩))
  · exact .inr (.inr (.inr ⟨r, h2.v c r', S, e, .non, c.emp, r', rfl, h3⟩))
/-- == of two lists of such -/
def dEqL (C : Addr) (sp : DSp) : DOp := fun x y G Q => ∃ (xs ys : List D) (f : Nat → Bool) (b : Bool), x = .lst xs ∧ y = .lst ys ∧ xs.length = ys.length ∧ (∀ (i : Nat) d e, xs[i]? = some d → ys[i]? = some e → ElD C sp d e (f i)) ∧ (b = true ↔ ∀ i, i < xs.length → f i = true) ∧ Q (.bl b) G
theorem opd_eqL (o : OwnC X.K C g) (F : FnD X.prog X.w X.K X.mg X.base n g fd ps sp) (hb : Binds X.K fd ps []) (hr : RoomG (n + 1) X.A) : OpD X (compareOp .Eq) (dEqL C sp) :=
  OpD.mk (op_rcB (rcB_list mon_el (eqB_el o F hb)) hr) fun S G H x y v u Q P hc rx ry ho hq => by
    obtain ⟨xs, ys, f, b, rfl, rfl, hl, hf, hbb, q⟩ := ho
    obtain ⟨p, vs, rfl, h1, r1⟩ := rx
    obtain ⟨p', us, rfl, h2, r2⟩ := ry
    refine ⟨b, ⟨p, p', vs, us, rfl, rfl, hc.sub.l h1, hc.sub.l h2, by rw [r1.length, r2.length, hl], f, fun i z w hz hw => ?_, by rw [r1.length]; exact hbb⟩, fun H' e => hq _ _ _ (.bl b) _ (hc.extA e) rfl q⟩
    obtain ⟨d, hd, rd⟩ := r1.get hz
    obtain ⟨e, he, re⟩ := r2.get hw
    exact (hf i d e hd he).v hc rd re
/-- == of two instances, by the own == -/
def dEqO (C : Addr) (sp : DSp) : DOp := fun x y G Q => ∃ b, DIn C x ∧ (DIn C y ∨ y = .non) ∧ Tells sp x y b ∧ Q (.bl b) G
theorem rc_own (o : OwnC X.K C g) (F : FnD X.prog X.w X.K X.mg X.base n g fd ps sp) (hb : Binds X.K fd ps []) : RcB X n (fun x y H b => IsInsV C x H ∧ (IsInsV C y H ∨ y = .non) ∧ OwnB X.K sp x y H b) :=
  fun A pins s σ H x y u v b sb I rx ry ⟨h1, h2, h3⟩ => own_rcL o F hb tkF sb I rx ry h1 h2 h3
theorem opd_eqO (o : OwnC X.K C g) (F : FnD X.prog X.w X.K X.mg X.base n g fd ps sp) (hb : Binds X.K fd ps []) (hr : RoomG n X.A) : OpD X (compareOp .Eq) (dEqO C sp) :=
  OpD.mk (op_rcB (rc_own o F hb) hr) fun S G H x y v u Q P hc rx ry ho hq => by
    obtain ⟨b, h1, h2, h3, q⟩ := ho
    refine ⟨b, ⟨h1.v hc rx, ?_, S, x, y, hc.emp, rx, ry, h3⟩, fun H' e => hq _ _ _ (.bl b) _ (hc.extA e) rfl q⟩
    rcases h2 with h2 | rfl
    · exact .inl (h2.v hc ry)
    · exact .inr ry
/-! ### isinstance of instances and None -/
structure IsoC (K : PySem.W.Frag) (C : Addr) : Prop where
  ci : ClI K C
  nn : PySem.W.kitOne K (.type "NoneType") (.ref C) = some false
def dIsO (C : Addr) : DCo := fun ds G Q => ∃ x, ds = [x, .ref C] ∧ ((DIn C x ∧ Q (.bl true) G) ∨ (x = .non ∧ Q (.bl false) G))
theorem cd_isO (h : IsoC X.K C) : CalD X (.builtin "isinstance") (dIsO C) := CalD.imp cd_isi fun ds G Q ⟨x, e, hx⟩ => by
  subst e
  rcases hx with ⟨⟨ns, vs, rfl⟩, q⟩ | ⟨rfl, q⟩
  · exact ⟨_, _, _, .obj h.ci, .own C, by unfold PySem.W.kitOne; rw [if_pos (by simp)], q⟩
  · exact ⟨_, _, _, .non, .own C, h.nn, q⟩
/-! ### None or an instance that is true: x and e -/
structure TruC (K : PySem.W.Frag) (C : Addr) : Prop where
  nb : PySem.W.findIn K (.ref C) "__bool__" = some none
  nl : PySem.W.findIn K (.ref C) "__len__" = some none
def rTruO (C : Addr) : V → Hp → (Bool → Hp → Prop) → Prop := fun x H Q => (x = .non ∧ Q false H) ∨ (IsInsV C x H ∧ Q true H)
theorem tru_own (h : TruC X.K C) : TruR X (rTruO C) := by
  intro pins s σ H x v Q I rx hx
  rcases hx with ⟨rfl, q⟩ | ⟨⟨a, dx, fs, rfl, ha⟩, q⟩
  · cases rx
    exact truthy_none ⟨H, I, q⟩
  · cases rx
    obtain ⟨mA, J, _⟩ := ins_get I.hok ha
    obtain ⟨od, J, _⟩ := J.look
    obtain ⟨m, hF⟩ := I.fr
    exact PySem.W.truthy_K0 hF I.ok.mod.kin J h.nb h.nl ⟨H, I, q⟩
variable {a b : Expr} {ta tb : DTE} {rest : List Expr} {pos : Pos}
theorem pe_andO {ta tb : TE} (h : TruC X.K C) (ha : PE X a ta) (hb : PE X (.BoolOp .And (b :: rest) pos) tb) : PE X (.BoolOp .And (a :: b :: rest) pos) (fun σ H Q => ta σ H fun x H1 => rTruO C x H1 fun k H2 => if k = true then tb σ H2 Q else Q x H2) := by
  refine ⟨fun pins s σ H Q I h' => ?_⟩
  refine BoolOp_and (thn (ha.run pins s σ H _ I h') fun v s1 ⟨x, H1, I1, r1, q1⟩ => ?_)
  refine thn (tru_own h pins s1 σ H1 x v _ I1 r1 q1) fun c s2 hc => ?_
  obtain ⟨H2, I2, q2⟩ := hc
  cases c with
  | true => exact hb.run pins s2 σ H2 Q I2 (by simpa using q2)
  | false => exact ⟨x, H2, I2, r1, by simpa using q2⟩
def dAndO (C : Addr) (ta tb : DTE) : DTE := fun σ G Q R => ta σ G (fun x G1 => (x = .non ∧ Q .non G1) ∨ (DIn C x ∧ tb σ G1 Q R)) R
theorem de_andO (h : TruC X.K C) (ha : DE X W a ta) (hb : DE X W (.BoolOp .And (b :: rest) pos) tb) : DE X W (.BoolOp .And (a :: b :: rest) pos) (dAndO C ta tb) :=
  pe_imp (pe_andO h ha hb) fun σV H P ⟨S, σ, G, Q, R, hc, hee, ht, hx, hq⟩ => by
    refine ⟨S, σ, G, _, R, hc, hee, ht, hx, fun v H1 S1 d G1 a1 r1 q1 => ?_⟩
    rcases q1 with ⟨rfl, q⟩ | ⟨hd, q⟩
    · exact .inl ⟨r1, by simpa using hq v H1 S1 .non G1 a1 r1 q⟩
    · refine .inr ⟨hd.v a1.cn r1, ?_⟩
      show liftE X.K W tb σV H1 P
      exact ⟨S1, σ, G1, _, R, a1.cn, hee.up a1.sub, q, hx.aft a1, fun v2 H2 S2 d2 G2 a2 r2 q2 => hq v2 H2 S2 d2 G2 (a1.trans a2) r2 q2⟩
end
/-! ### what the head checks -/
def isoB (K : PySem.W.Frag) (C : Addr) : Bool := decide (PySem.W.findIn K (.ref C) "__class__" = some (some (.builtin "object.__class__"))) && (decide (PySem.W.specialIn K (.builtin "object.__class__") "__get__" = some (some (.builtin "getset_descriptor.__get__"))) && (decide (PySem.W.takesIn K (.builtin "object.__class__") = some true) && (decide (PySem.W.mroIn K C (.type "object") = some true) && ((PySem.W.clsIn K C).isSome && decide (PySem.W.typeIn K (.ref C) = some (.type "type"))))))
theorem isoB_ok {K : PySem.W.Frag} {C : Addr} (hc : Cls K C) (h : isoB K C = true) : IsoC K C := by
  obtain ⟨h1, h⟩ := Bool.and_eq_true_iff.mp h
  obtain ⟨h2, h⟩ := Bool.and_eq_true_iff.mp h
  obtain ⟨h3, h⟩ := Bool.and_eq_true_iff.mp h
  obtain ⟨h4, h⟩ := Bool.and_eq_true_iff.mp h
  obtain ⟨h5, h6⟩ := Bool.and_eq_true_iff.mp h
  refine ⟨⟨hc, of_decide_eq_true h1, of_decide_eq_true h2, of_decide_eq_true h3, of_decide_eq_true h4⟩, ?_⟩
  unfold PySem.W.kitOne
  rw [if_neg (by intro e; exact absurd (eq_of_beq e) (by simp))]
  unfold PySem.W.kitCls
  have e6 : PySem.W.typeIn K (.ref C) = some (.type "type") := of_decide_eq_true h6
  simp only [h5, e6, Bool.true_and]
  rw [if_pos (by simp)]
  exact none_sub
def ownB (K : PySem.W.Frag) (C g : Addr) : Bool := decide (PySem.W.findIn K (.ref C) "__eq__" = some (some (.ref g))) && (PySem.W.isFn K (.ref g) && decide (PySem.W.mroIn K C (.type "NoneType") = some false))
theorem ownB_ok {K : PySem.W.Frag} {C g : Addr} (h : ownB K C g = true) : OwnC K C g := by
  obtain ⟨h1, h⟩ := Bool.and_eq_true_iff.mp h
  obtain ⟨h2, h3⟩ := Bool.and_eq_true_iff.mp h
  exact ⟨of_decide_eq_true h1, h2, of_decide_eq_true h3⟩
end DL
set_option Elab.async false
set_option linter.all false
set_option maxRecDepth 100000
set_option maxHeartbeats 4000000
namespace DL
open PySem PyProof.Rows L2
/-! ### the head's hook, with more Bools -/
def obsE (fa : List He.Fa) (fn : List He.DefD) (ex : PySem.W.Frag → List Bool) (K : PySem.W.Frag) : He.AlD := ((He.obsD fa fn K).1 && (ex K).all id, (He.obsD fa fn K).2)
def obsEG (n : Nat) (fa : List He.Fa) (fn : List He.DefD) (ex : PySem.W.Frag → List Bool) (g : Addr → Option Obj) : He.AlD := obsE fa fn ex (He.frG g (He.asD g n))
theorem obsE_ok {fa : List He.Fa} {fn : List He.DefD} {ex : PySem.W.Frag → List Bool} {K : PySem.W.Frag} (h : obsE fa fn ex K = He.valD fn) : He.SaysD fa fn K ∧ (ex K).all id = true := by
  have h1 : ((He.obsD fa fn K).1 && (ex K).all id) = true := by
    have := congrArg Prod.fst h
    exact this
  have h2 : (He.obsD fa fn K).2 = (He.valD fn).2 := by
    have := congrArg Prod.snd h
    exact this
  obtain ⟨h3, h4⟩ := Bool.and_eq_true_iff.mp h1
  exact ⟨Prod.ext h3 h2, h4⟩
def hookE (n : Nat) (fa : List He.Fa) (fn : List He.DefD) (ex : PySem.W.Frag → List Bool) : PySem.W.Hook where
  α := He.AlD
  obs := fun s => obsEG n fa fn ex s.heap.get?
  val := fun _ => He.valD fn
  says := fun _ h => ∃ K : PySem.W.Frag, K.In h ∧ He.SaysD fa fn K ∧ (ex K).all id = true
  of := fun _ _ e => ⟨_, He.frG_in, obsE_ok e⟩
  keeps := fun _ _ _ ⟨K, hK, c⟩ k => ⟨K, PySem.W.Frag.In.keeps hK k, c⟩
theorem obsEG_eq {n : Nat} {fa : List He.Fa} {fn : List He.DefD} {ex : PySem.W.Frag → List Bool} {g : Addr → Option Obj} {s : Shared} (h : ∀ a, g a = s.heap.get? a) : obsEG n fa fn ex g = (hookE n fa fn ex).obs s := by
  have e : g = s.heap.get? := funext h
  rw [e] <;> rfl
theorem ex_at {l : List Bool} (h : l.all id = true) (i : Nat) {b : Bool} (hb : l[i]? = some b) : b = true := List.all_eq_true.mp h b (List.mem_of_getElem? hb)
section
variable {X : Cx} {n : Nat} {C g : Addr} {ps : List Str} {sp : DSp} {dv : List D}
theorem pm_nil {P : Program} {w : World} {K : PySem.W.Frag} {mg : Str → Option Value} {base : Heap} {k : Nat} {f : Addr} {ps : List Str} {sp : DSp} (F : Pm P w K mg base k f ps [] sp) : ∃ fd, FnD P w K mg base k f fd ps sp ∧ Binds K fd ps [] := by
  obtain ⟨fd, h1, h2⟩ := F.ex
  obtain ⟨dvs, ds, hb, hd⟩ := h2 0 (Nat.le_refl _)
  have e1 : dvs = [] := hd.rep (fun _ => none)
  subst e1
  have e2 : ds = [] := by cases hd.val; rfl
  subst e2
  exact ⟨fd, h1, hb⟩
theorem opd_eqLP (o : OwnC X.K C g) (F : Pm X.prog X.w X.K X.mg X.base n g ps [] sp) (hr : RoomG (n + 1) X.A) : OpD X (compareOp .Eq) (dEqL C sp) := by
  obtain ⟨fd, h1, h2⟩ := pm_nil F
  exact opd_eqL o h1 h2 hr
theorem opd_eqOP (o : OwnC X.K C g) (F : Pm X.prog X.w X.K X.mg X.base n g ps [] sp) (hr : RoomG n X.A) : OpD X (compareOp .Eq) (dEqO C sp) := by
  obtain ⟨fd, h1, h2⟩ := pm_nil F
  exact opd_eqO o h1 h2 hr
end
end DL
set_option Elab.async false
set_option linter.all false
set_option maxRecDepth 100000
set_option maxHeartbeats 4000000
namespace DL
open PySem PySem.Spec PyProof.Rows L2
section
variable {X : Cx} {W : WX} {pos : Pos} {e : Expr} {te : DTE}
/-! ### {} -/
def dDic0 : DTE := fun σ G Q R => Q (.dic [] []) G
theorem de_dic0 : DE X W (.Dict [] [] pos) dDic0 :=
  pe_imp pe_dnewK fun σV H P ⟨S, σ, G, Q, R, hc, he, q, hx, hq⟩ => fun p hp => by
    have a2 := hc.still (o := .dK []) hp
    exact hq _ _ _ (.dic [] []) _ a2 ⟨p, [], rfl, upd_same, rfl, Reps.nil⟩ q
/-! ### f-strings -/
abbrev boolT (b : Bool) : Str := if b then "True" else "False"
def fmtV : V → (Str → Prop) → Prop
  | .str y, P => y.length ≤ sizeLine ∧ P y
  | .int i, P => i.natAbs.log2 < 1920 ∧ P (toString i)
  | .bl b, P => P (boolT b)
  | _, _ => False
theorem pe_fmtB {t : TE} (he : PE X e t) : PE X (.FormattedValue e (-1) none pos) (fun σ H Q => t σ H fun x H1 => fmtV x fun y => Q (.str y) H1) := by
  refine ⟨fun pins s σ H Q I h => ?_⟩
  refine wpAny_FormattedValue_plain (thn (he.run pins s σ H _ I h) fun v s1 ⟨x, H1, I1, r1, q⟩ => ?_)
  cases x <;> first | exact q.elim | skip
  · cases r1
    exact wpAny_formatField_bool ⟨.str _, H1, I1.tok _, ⟨_, rfl⟩, q⟩
  · obtain ⟨tk, rfl⟩ := r1
    exact wpAny_formatField_int q.1 ⟨.str _, H1, I1.tok _, ⟨_, rfl⟩, q.2⟩
  · obtain ⟨tk, rfl⟩ := r1
    exact wpAny_formatField_str ⟨.str _, H1, I1, ⟨tk, rfl⟩, q.2⟩ ⟨.str _, H1, I1.tok _, ⟨_, rfl⟩, q.2⟩ q.1
def fmtD : D → (Str → Prop) → Prop
  | .str y, P => y.length ≤ sizeLine ∧ P y
  | .int i, P => i.natAbs.log2 < 1920 ∧ P (toString i)
  | .bl b, P => P (boolT b)
  | _, _ => False
def dFmt (te : DTE) : DTE := fun σ G Q R => te σ G (fun x G1 => fmtD x fun y => Q (.str y) G1) R
theorem de_fmt (he : DE X W e te) : DE X W (.FormattedValue e (-1) none pos) (dFmt te) :=
  pe_imp (pe_fmtB he) fun σV H P ⟨S, σ, G, Q, R, hc, hee, ht, hx, hq⟩ => by
    refine ⟨S, σ, G, _, R, hc, hee, ht, hx, fun v H1 S1 x G1 a1 r1 q1 => ?_⟩
    cases x <;> first | exact q1.elim | skip
    · cases (show v = _ from r1)
      exact hq _ _ _ (.str _) _ a1 rfl q1
    · cases (show v = _ from r1)
      exact ⟨q1.1, hq _ _ _ (.str _) _ a1 rfl q1.2⟩
    · cases (show v = _ from r1)
      exact ⟨q1.1, hq _ _ _ (.str _) _ a1 rfl q1.2⟩
/-- the parts -/
inductive DPJ (X : Cx) (W : WX) : List Expr → List DTE → Prop where
  | nil : DPJ X W [] []
  | cons {e : Expr} {t : DTE} {es : List Expr} {ts : List DTE} (h : DE X W e t) (r : DPJ X W es ts) : DPJ X W (e :: es) (t :: ts)
def dJs : List DTE → Str → Ev → GS → (Str → GS → Prop) → DXK → Prop
  | [], acc, _, G, Q, _ => Q acc G
  | t :: ts, acc, σ, G, Q, R => t σ G (fun x G1 => ∃ y : Str, x = .str y ∧ (acc ++ y).length ≤ sizeLine ∧ dJs ts (acc ++ y) σ G1 Q R) R
theorem pj_of {es : List Expr} {ts : List DTE} (h : DPJ X W es ts) : PJ X es (ts.map fun t => liftE X.K W t) := by
  induction h with
  | nil => exact .nil
  | cons h r ih => exact .cons h ih
theorem js_run {S : Hp} {σ : Ev} {G : GS} {σV : L2.St} {H : Hp} {R : DXK} {P : Str → Hp → Prop} : ∀ (ts : List DTE) (acc : Str) (S : Hp) (G : GS) (H : Hp) (Q : Str → GS → Prop), Cn X.K S G H → EnvR X.K S σ σV → XOk X.K W S G H R → dJs ts acc σ G Q R →
    (∀ out S1 G1 H1, Aft X.K S G H S1 G1 H1 → Q out G1 → P out H1) → tJs (ts.map fun t => liftE X.K W t) acc σV H P
  | [], acc, S, G, H, Q, hc, he, hx, h, hq => hq acc S G H hc.aft h
  | t :: ts, acc, S, G, H, Q, hc, he, hx, h, hq => by
    refine ⟨S, σ, G, _, R, hc, he, h, hx, fun v H1 S1 x G1 a1 r1 q1 => ?_⟩
    obtain ⟨y, rfl, hl, q⟩ := q1
    exact ⟨y, r1, hl, js_run (S := S) (G := G) (H := H) ts _ S1 G1 H1 Q a1.cn (he.up a1.sub) (hx.aft a1) q fun out S2 G2 H2 a2 z => hq out S2 G2 H2 (a1.trans a2) z⟩
def dJoin (ts : List DTE) : DTE := fun σ G Q R => dJs ts Str.empty σ G (fun out G1 => Q (.str out) G1) R
theorem de_join {v1 v2 : Expr} {rest : List Expr} {ts : List DTE} (h : DPJ X W (v1 :: v2 :: rest) ts) : DE X W (.JoinedStr (v1 :: v2 :: rest) pos) (dJoin ts) :=
  pe_imp (pe_joined (pj_of h)) fun σV H P ⟨S, σ, G, Q, R, hc, hee, ht, hx, hq⟩ =>
    js_run (S := S) (G := G) (H := H) ts Str.empty S G H _ hc hee hx ht fun out S1 G1 H1 a1 q => hq _ _ _ (.str out) _ a1 rfl q
/-- f'{x}' -/
theorem de_join1 (he : DE X W e te) : DE X W (.JoinedStr [e] pos) te := pe_joined1 he
end
/-! ### repr, str, len of an instance, by its own def -/
def OwnS (K : PySem.W.Frag) (sp : DSp) (x : V) (H : Hp) (r : D) : Prop := ∃ S d, Cn K S [] H ∧ Rep K S d x ∧ sp [d] [] (fun z G' => z = r ∧ G' = []) dE0
section
variable {X : Cx} {n : Nat} {C g : Addr} {fd : FuncData} {ps : List Str} {sp : DSp}
theorem own_concS {K : PySem.W.Frag} {x : V} {H : Hp} {r : D} {E : XK} (h : OwnS K sp x H r) : conc K sp [x] H (fun v H' => (∃ S, Rep K S r v) ∧ Ext H H') E := by
  obtain ⟨S, d, c, rx, q⟩ := h
  refine ⟨S, [], [d], _, _, c, Reps.cons rx Reps.nil, q, fun v H' S' z G' af rv q => ?_, fun cls dx H' S' fs G' af xr xn q => q.elim⟩
  obtain ⟨rfl, rfl⟩ := q
  exact ⟨⟨_, rv⟩, fun a o e => (af.stp a o e (by simp [keysG])).1⟩
theorem own_runS {A : Around} {pins : List (Addr × Obj)} {s : Shared} {σ : L2.St} {H : Hp} {x : V} {u : Value} {r : D} (F : FnD X.prog X.w X.K X.mg X.base n g fd ps sp) (hb : Binds X.K fd ps []) (sb : SubG X n A) (I : Inv X pins σ H s) (rx : RelV x u)
    (h : OwnS X.K sp x H r) : wpAny (model X.prog X.w) A (call (.ref g) [u]) (fun z s' => (∃ S y, Rep X.K S r y ∧ RelV y z) ∧ ∃ H', Inv X pins σ H' s' ∧ Ext H H') X.xe s := by
  have hsp : conc X.K sp [x] H (fun v H' => (∃ S, Rep X.K S r v) ∧ Ext H H') (WE (fun _ _ _ _ => False) σ) := own_concS h
  have e0 : Env0 X.prog X.w X.K X.mg X.base A X.stack s H := by
    have e := I.env0
    exact ⟨by rw [sb.fr]; exact e.frames, e.mod, e.bs, e.bsz, e.funs, e.frf, e.hok, e.bare⟩
  have hl := F.len _ _ _ _ hsp
  have r2 : Vals [x] [u] := .cons rx .nil
  have hx : PassesAt (L2.CX X.prog X.w) X σ (WE (fun _ _ _ _ => False) σ) := passAt tkF σ
  refine wpAny_call (codeAny_mono (F.run A X.stack s H ⟨[u], []⟩ [u] [x] _ _ sb.room e0 (by
    have := hb s [u] I.kIn (by simpa using hl)
    simpa using this) r2 hsp) fun r s' hq => ?_)
  cases r with
  | error e => exact hx pins H s e s' I hq
  | ok fl =>
    cases fl with
    | ret w =>
      obtain ⟨z, H', I', rz, ⟨S, ez⟩, ex⟩ := I.after hq
      exact ⟨⟨S, z, ez, rz⟩, H', I', ex⟩
    | next => exact False.elim hq
    | brk => exact False.elim hq
    | cont => exact False.elim hq
/-- the class's own def of that name -/
structure OwnM (K : PySem.W.Frag) (C : Addr) (m : Str) (g : Addr) : Prop where
  at_ : PySem.W.findIn K (.ref C) m = some (some (.ref g))
  fn : PySem.W.isFn K (.ref g) = true
theorem own_reprL {A : Around} {pins : List (Addr × Obj)} {s : Shared} {σ : L2.St} {H : Hp} {x : V} {u : Value} {z : Str} (o : OwnM X.K C "__repr__" g) (F : FnD X.prog X.w X.K X.mg X.base n g fd ps sp) (hb : Binds X.K fd ps []) (sb : SubG X (n + 1) A) (I : Inv X pins σ H s) (rx : RelV x u)
    (ix : IsInsV C x H) (h : OwnS X.K sp x H (.str z)) : wpAny (model X.prog X.w) A (call (.builtin "repr") [u]) (fun r s' => (∃ t, r = .str z t) ∧ ∃ H', Inv X pins σ H' s' ∧ Ext H H') X.xe s := by
  have hc := own_runS F hb sb.in1 I rx h
  obtain ⟨a, dx, fs, rfl, ha⟩ := ix
  cases rx
  obtain ⟨mA, J, _⟩ := ins_get I.hok ha
  obtain ⟨od, J, _⟩ := J.look
  refine Calls.call_function_entry PySem.F.kind_repr PySem.F.plain_repr PySem.F.entry_repr (PySem.F.args_repr1 _) ?_
  unfold Builtin.«repr»
  refine wpAny_bind (m := oneArg "repr" _) (wpAny_pure ?_)
  refine wpAny_bind (wpAny_cRoomFor_or (.inr sb.in1.room.units0) ?_)
  refine wpAny_bind (wpAny_bind (J.type.here ((PySem.W.looks_findIn I.kIn o.at_).here ?_)))
  refine wpAny_bind (PySem.W.ifBound_K I.kIn J o.at_ o.fn (wpAny_mono hc (fun v s' hv => ?_) fun _ _ e => e))
  obtain ⟨⟨S, y, ry, rv⟩, q⟩ := hv
  obtain rfl : y = .str z := ry
  obtain ⟨t, rfl⟩ := rv
  refine wpAny_bind (wpAny_isInstance (T := "str") (b := true) rfl isSubtype_str_str ?_)
  exact wpAny_pure ⟨_, rfl, ⟨t, rfl⟩, q⟩
def rReprO (K : PySem.W.Frag) (C : Addr) (sp : DSp) : List V → Hp → VK → Prop := fun xs H Q => ∃ x z, xs = [x] ∧ IsInsV C x H ∧ OwnS K sp x H (.str z) ∧ ∀ H', Ext H H' → Q (.str z) H'
theorem call_reprO (o : OwnM X.K C "__repr__" g) (F : FnD X.prog X.w X.K X.mg X.base n g fd ps sp) (hb : Binds X.K fd ps []) (hr : RoomG (n + 1) X.A) : CallR X (.builtin "repr") (rReprO X.K C sp) := by
  intro pins s σ H xs us Q I r h
  obtain ⟨x, z, rfl, ix, hs, q⟩ := h
  cases r with
  | cons rx rr =>
    cases rr
    exact wpAny_mono (own_reprL o F hb ⟨hr, rfl⟩ I rx ix hs) (fun r s' hv => by
      obtain ⟨⟨t, rfl⟩, H', I', e⟩ := hv
      exact ⟨.str z, H', I', ⟨t, rfl⟩, q H' e⟩) fun _ _ e => e
def dReprO (C : Addr) (sp : DSp) : DCo := fun ds G Q => ∃ x z, ds = [x] ∧ DIn C x ∧ sp [x] [] (fun r G' => r = .str z ∧ G' = []) dE0 ∧ Q (.str z) G
theorem cd_reprO (o : OwnM X.K C "__repr__" g) (F : Pm X.prog X.w X.K X.mg X.base n g ps [] sp) (hr : RoomG (n + 1) X.A) : CalD X (.builtin "repr") (dReprO C sp) := by
  obtain ⟨fd, h1, h2⟩ := pm_nil F
  refine CalD.mk (call_reprO o h1 h2 hr) fun S G H xs vs Q P hc r ho hq => ?_
  obtain ⟨x, z, rfl, hd, hs, q⟩ := ho
  obtain ⟨v, r', rfl, rv, rfl⟩ := r
  exact ⟨v, z, rfl, hd.v hc rv, ⟨S, x, hc.emp, rv, hs⟩, fun H' e => hq _ _ _ (.str z) _ (hc.extA e) rfl q⟩
end
def ownmB (K : PySem.W.Frag) (C : Addr) (m : Str) (g : Addr) : Bool := decide (PySem.W.findIn K (.ref C) m = some (some (.ref g))) && PySem.W.isFn K (.ref g)
theorem ownmB_ok {K : PySem.W.Frag} {C g : Addr} {m : Str} (h : ownmB K C m g = true) : OwnM K C m g := by
  obtain ⟨h1, h2⟩ := Bool.and_eq_true_iff.mp h
  exact ⟨of_decide_eq_true h1, h2⟩
section
variable {σ : Ev} {G : GS} {Q : DK} {R : DXK} {te : DTE} {ts : List DTE} {acc : Str} {t : DTE} {QS : Str → GS → Prop}
theorem r_dic0 : dDic0 σ G Q R = Q (.dic [] []) G := propext Iff.rfl
theorem r_fmt : dFmt te σ G Q R = te σ G (fun x G1 => fmtD x fun y => Q (.str y) G1) R := propext Iff.rfl
theorem r_join : dJoin ts σ G Q R = dJs ts Str.empty σ G (fun out G1 => Q (.str out) G1) R := propext Iff.rfl
theorem r_jnil : dJs [] acc σ G QS R = QS acc G := propext Iff.rfl
theorem r_jcons : dJs (t :: ts) acc σ G QS R = t σ G (fun x G1 => ∃ y : Str, x = .str y ∧ (acc ++ y).length ≤ sizeLine ∧ dJs ts (acc ++ y) σ G1 QS R) R := propext Iff.rfl
end
end DL
set_option Elab.async false
set_option linter.all false
set_option maxRecDepth 100000
set_option maxHeartbeats 4000000
namespace DL
open PySem PySem.Spec PyProof.Rows L2
section
variable {X : Cx} {W : WX} {k n : Nat} {f C : Addr} {ps ks : List Str} {sp : DSp} {x : Str} {p pos kpos : Pos} {kws : List Keyword} {t tk : DTA} {dv : List D} {pm : List Nat}
/-- C(a=.., b=..), or C() -/
theorem de_makeN0 (M : Mk X.K C f) (F : PmN X.prog X.w X.K X.mg X.base k f ps 1 ks pm dv sp) (hr : RoomG (k + 1) X.A) (hg : Gl X x) (hm : X.mg x = some (.ref C)) (tt : Takes X W) (hkw : DKw X W kws tk)
    (hall : (backToKw pos (keywordEach kws X.env)).all (·.1.isSome) = true := by rfl) (hks : (backToKw pos (keywordEach kws X.env)).filterMap (·.1) = ks := by rfl)
    (hdb : (x == ("__debug__" : Str)) = false := by decide)
    (hpl : ((backTo pos (starEach [] X.env)).any (·.1) || (backToKw pos (keywordEach kws X.env)).any (·.1.isNone)) = false := by rfl) :
    DE X W (.Call (.Name x p) [] kws pos) (dMakeN C sp 0 ks.length pm dv dNil tk) := by
  refine ⟨fun pins s σV H Pq I h => ?_⟩
  obtain ⟨S, σ, G, Q, R, hc, hee, ht, hx, hq⟩ := h
  obtain ⟨fd, F1, dvs, ds, hdf, hb⟩ := F.ex
  refine wpAny_Call_Name_kw (ld_glob I hg hm ?_ hdb)
  refine PySem.W.callWith_KW0 (h₀ := X.base) I.ok.mod.kin M.kp hall (thn (hkw.run pos pins s σV H (fun zs H2 => zs.length = ks.length ∧ ∀ x dx, H2 x = none → H2 dx = none → dx ≠ x → conc X.K sp (pick pm ((.ref x :: []) ++ (zs ++ dvs))) (upd (upd H2 dx (.own x)) x (.ins C dx [])) (fun v H3 => v = .non ∧ Pq (.ref x) H3) (WE W σV)) I ⟨S, σ, G, _, R, hc, hee, ht, hx, fun zs H2 S2 zd G2 a2 r2 q2 => ?_⟩) fun ws s2 ⟨zs, H2, I2, rz, l2, q2⟩ => ⟨I2.kIn, ?_⟩) hpl
  · obtain ⟨_, l2, q2⟩ := q2
    exact ⟨r2.length.trans l2, make_conc (fx := fun p => pick pm ((.ref p :: []) ++ (zd ++ dv))) (fv := fun p => pick pm ((.ref p :: []) ++ (zs ++ dvs))) a2.cn (hee.up a2.sub) (hx.aft a2) (fun p => reps_pick (Reps.app (Reps.cons (d := .ref p) (v := .ref p) rfl Reps.nil) (r2.app (hdf.rep S2))) pm) q2 fun v H3 S3 d3 G3 a3 r3 q3 => hq v H3 S3 d3 G3 (a2.trans a3) r3 q3⟩
  · rw [hks]
    exact run_makeNd (n := 0) (us := []) (vs := []) M F1 hr hb hdf.val tt I2 .nil rz rfl l2 q2
end
/-! ### own == with things of other kinds -/
theorem nf_ty {K : PySem.W.Frag} {C : Addr} {T : String} {l : List Value} (h1 : PySem.fastBuiltinMro T = some l) (h2 : l.all (fun v => match v with | .type _ => true | _ => false) = true) : PySem.W.notFirst K C (.type T) = true := by
  have e : PySem.W.subIn K (.type T) (.ref C) = some false := by
    show (PySem.fastBuiltinMro T).map (·.contains (.ref C)) = some false
    rw [h1]
    show some (List.contains l (Value.ref C)) = some false
    rw [contains_ty h2]
  unfold PySem.W.notFirst
  rw [e]
  simp
theorem looks_ref {M : Model} {h : Heap} {a : Addr} {o : Obj} {c : Value} (e : h.get? a = some o) (hc : o.cls = c) : PySem.W.Looks M h (typeOf (.ref a)) c := hc ▸ (PySem.W.Looks.ld e).andThen .now
/-- plain things of other kinds -/
def othD : D → Bool
  | .non | .bl _ | .int _ | .str _ | .tup _ | .lst _ => true
  | _ => false
section
variable {X : Cx} {n : Nat} {C g : Addr} {fd : FuncData} {ps : List Str} {sp : DSp}
/-- the kind of a thing that bears such a datum -/
theorem oth_ty {S : Hp} {d : D} {pins : List (Addr × Obj)} {s : Shared} {σ : L2.St} {H : Hp} {y : V} {v : Value} (h : othD d = true) (ss : Sub S H) (r : Rep X.K S d y) (I : Inv X pins σ H s) (ry : RelV y v) :
    ∃ tb, PySem.W.Looks (model X.prog X.w) s.heap (typeOf v) tb ∧ PySem.W.notFirst X.K C tb = true := by
  cases d <;> first | (cases h; done) | skip
  · cases (show y = _ from r); cases ry
    exact ⟨.type "NoneType", PySem.W.Looks.of_pure rfl, nf_ty (l := [.type "NoneType", .type "object"]) (by kernel_rfl) rfl⟩
  · cases (show y = _ from r); cases ry
    exact ⟨.type "bool", PySem.W.Looks.of_pure rfl, nf_ty (l := [.type "bool", .type "int", .type "object"]) (by kernel_rfl) rfl⟩
  · cases (show y = _ from r)
    obtain ⟨t, rfl⟩ := ry
    exact ⟨.type "int", PySem.W.Looks.of_pure rfl, nf_ty (l := [.type "int", .type "object"]) (by kernel_rfl) rfl⟩
  · cases (show y = _ from r)
    obtain ⟨t, rfl⟩ := ry
    exact ⟨.type "str", PySem.W.Looks.of_pure rfl, nf_ty (l := [.type "str", .type "object"]) (by kernel_rfl) rfl⟩
  · obtain ⟨a, vs, rfl, hs, _⟩ := r
    cases ry
    obtain ⟨its, o, m, _, ho, hcl, _⟩ := sqT_at I.hok I.kIn (ss.t hs)
    exact ⟨.type "tuple", looks_ref ho hcl, nf_ty (l := [.type "tuple", .type "object"]) (by kernel_rfl) rfl⟩
  · obtain ⟨a, vs, rfl, hs, _⟩ := r
    cases ry
    obtain ⟨its, o, m, _, ho, hcl, _⟩ := sqL_at I.hok I.kIn (ss.l hs)
    exact ⟨.type "list", looks_ref ho hcl, nf_ty (l := [.type "list", .type "object"]) (by kernel_rfl) rfl⟩
def dEqX (C : Addr) (sp : DSp) : DOp := fun x y G Q => ∃ b, DIn C x ∧ othD y = true ∧ Tells sp x y b ∧ Q (.bl b) G
theorem opd_eqX (o : OwnC X.K C g) (F : FnD X.prog X.w X.K X.mg X.base n g fd ps sp) (hb : Binds X.K fd ps []) (hr : RoomG n X.A) : OpD X (compareOp .Eq) (dEqX C sp) := by
  refine OpD.mk (r := fun x y H Q => ∃ b S d, IsInsV C x H ∧ Sub S H ∧ othD d = true ∧ Rep X.K S d y ∧ OwnB X.K sp x y H b ∧ ∀ H', Ext H H' → Q (.bl b) H') ?_ ?_
  · intro pins s σ H x y v u Q I rx ry hq
    obtain ⟨b, S, d, ix, ss, hd, r, h, q⟩ := hq
    have hc := own_run (A := X.A) o F hb tkF ⟨hr, rfl⟩ I rx ry h
    obtain ⟨a, dx, fs, rfl, ha⟩ := ix
    cases rx
    obtain ⟨mA, J, _⟩ := ins_get I.hok ha
    obtain ⟨od, J, _⟩ := J.look
    obtain ⟨m, hF⟩ := I.fr
    obtain ⟨tb, l1, l2⟩ := oth_ty (C := C) hd ss r I ry
    show wpAny (model X.prog X.w) X.A (richCompare .Eq (.ref a) u) (EP X pins σ Q) X.xe s
    have back : wpAny (model X.prog X.w) X.A (call (.ref g) [.ref a, u]) (PySem.W.CmpBack fun r s' => r = .bool b ∧ ∃ H', Inv X pins σ H' s' ∧ Ext H H') X.xe s := wpAny_mono hc (fun r s' z => by
      obtain ⟨rfl, z⟩ := z
      exact ⟨rfl, z⟩) fun _ _ x => x
    refine wpAny_mono (PySem.W.cmp_K (op := .Eq) hr.units0 hF I.ok.mod.kin J l1 l2 o.at_ o.fn back) (fun r s' z => ?_) fun _ _ x => x
    obtain ⟨hr', H', I', e⟩ := z
    subst hr'
    exact ⟨.bl b, H', I', rfl, q H' e⟩
  · intro S G H x y v u Q P hc rx ry ho hq
    obtain ⟨b, h1, h2, h3, q⟩ := ho
    exact ⟨b, S, y, h1.v hc rx, hc.sub, h2, ry, ⟨S, x, y, hc.emp, rx, ry, h3⟩, fun H' e => hq _ _ _ (.bl b) _ (hc.extA e) rfl q⟩
theorem opd_eqXP (o : OwnC X.K C g) (F : Pm X.prog X.w X.K X.mg X.base n g ps [] sp) (hr : RoomG n X.A) : OpD X (compareOp .Eq) (dEqX C sp) := by
  obtain ⟨fd, h1, h2⟩ := pm_nil F
  exact opd_eqX o h1 h2 hr
end
end DL
set_option Elab.async false
set_option linter.all false
set_option maxRecDepth 100000
set_option maxHeartbeats 4000000
namespace DL
open PySem PySem.Spec PyProof.Rows L2
/-! ### the promise of an exception's __init__(self, why) -/
section
variable {P : Program} {w : World} {K : PySem.W.Frag} {mg : Str → Option Value} {base : Heap}
theorem WhyI.of {x qual : Str} {st : Stmt} {dvs : List V} {kws : List (Str × V)} {f : Addr} {fd : FuncData} {k : Nat} {dv : List D} (F : FunD K x qual (defArgs st) (defBody st) (defScope st) dvs kws f fd)
    (h : FnOk P w K mg base (fun _ _ _ _ _ _ => False) k f fd ["self", "why"] (spWhy K)) (hd : dvs ≠ []) (hl : dv.length = dvs.length) (hr : ∀ S, Reps K S dv dvs)
    (hb : ∀ j, j ≤ dv.length → ∃ n, n + (dvs.length - j) = (["self", "why"] : List Str).length ∧ ∀ (T : Addr) (kV doc pm : Value) (an : Option Addr) (cdv ct : Value) (us its : List Value), us.length = n → its.length = dvs.length →
      ∃ k, bindArgs (PySem.W.fnOf x qual (defArgs st) (defBody st) (defScope st) (.ref T) kV doc pm an cdv ct) ⟨us, []⟩ = seqItems? (.ref T) >>= k ∧ k (some its.toArray) = pure ((["self", "why"] : List Str).zip (us ++ its.drop j))) : WhyI P w K mg base k f dv :=
  ⟨⟨fd, h, fun j hj => by
    obtain ⟨n, hn, hh⟩ := hb j hj
    obtain ⟨ds, h1, h2⟩ := F.binds1 n j hd hn hh
    exact ⟨dvs.drop j, ds, h2, ⟨fun S => (hr S).drop j, h1⟩⟩⟩⟩
theorem WhyI.fn {x qual : Str} {st : Stmt} {dvs : List V} {kws : List (Str × V)} {f : Addr} {fd : FuncData} (F : FunD K x qual (defArgs st) (defBody st) (defScope st) dvs kws f fd) (S : FnScope ["self", "why"] ["self", "why"] (defScope st))
    (hb : ∀ (cdv : Value) (A : Around) (outer : List Env) (s : Shared) (H : Hp) (E : XK), PSs (cxOf (fun _ _ _ _ _ _ => False) P w K mg base ["self", "why"] qual (defScope st) f cdv A outer s H E) (defBody st) (tWhy K)) : FnOk P w K mg base (fun _ _ _ _ _ _ => False) 1 f fd ["self", "why"] (spWhy K) :=
  F.ok S (fun vs H Q E h => len_why vs H Q E h) fun cdv A outer s H vs Q E hr h => ⟨_, hb cdv A outer s H E, pure_why vs H Q E h⟩
end
theorem xf_of {K : PySem.W.Frag} {Cs : List Addr} {n : Str} (h : ∀ C ∈ Cs, ExcC K C) (h2 : ∀ C ∈ Cs, PySem.W.findIn K (.ref C) n = some none) : ∀ C ∈ Cs, XfC K C ∧ PySem.W.findIn K (.ref C) n = some none :=
  fun C hC => ⟨⟨(h C hC).hg, (h C hC).hk, (h C hC).hs, (h C hC).hd⟩, h2 C hC⟩
theorem bt_ValueError : bootBuiltins "ValueError" = some (.type "ValueError") := by decide +kernel
theorem bt_IndexError : bootBuiltins "IndexError" = some (.type "IndexError") := by decide +kernel
theorem bt_LookupError : bootBuiltins "LookupError" = some (.type "LookupError") := by decide +kernel
theorem bt_KeyError : bootBuiltins "KeyError" = some (.type "KeyError") := by decide +kernel
theorem bt_repr : bootBuiltins "repr" = some (.builtin "repr") := by decide +kernel
/-! ### isinstance(x, C), x of another kind -/
structure IsoX (K : PySem.W.Frag) (C : Addr) : Prop where
  iso : IsoC K C
  ty : ∀ (T : String) (l : List Value), PySem.fastBuiltinMro T = some l → l.all (fun v => match v with | .type _ => true | _ => false) = true → PySem.W.kitOne K (.type T) (.ref C) = some false
theorem isoX_ok {K : PySem.W.Frag} {C : Addr} (hc : Cls K C) (h : isoB K C = true) : IsoX K C := by
  refine ⟨isoB_ok hc h, fun T l h1 h2 => ?_⟩
  obtain ⟨_, h⟩ := Bool.and_eq_true_iff.mp h
  obtain ⟨_, h⟩ := Bool.and_eq_true_iff.mp h
  obtain ⟨_, h⟩ := Bool.and_eq_true_iff.mp h
  obtain ⟨_, h⟩ := Bool.and_eq_true_iff.mp h
  obtain ⟨h5, h6⟩ := Bool.and_eq_true_iff.mp h
  unfold PySem.W.kitOne
  rw [if_neg (by intro e; exact absurd (eq_of_beq e) (by simp))]
  unfold PySem.W.kitCls
  have e6 : PySem.W.typeIn K (.ref C) = some (.type "type") := of_decide_eq_true h6
  simp only [h5, e6, Bool.true_and]
  rw [if_pos (by simp)]
  show (PySem.fastBuiltinMro T).map (·.contains (.ref C)) = some false
  rw [h1]
  show some (List.contains l (Value.ref C)) = some false
  rw [contains_ty h2]
def dIsOX (C : Addr) : DCo := fun ds G Q => ∃ x, ds = [x, .ref C] ∧ ((DIn C x ∧ Q (.bl true) G) ∨ (othD x = true ∧ Q (.bl false) G))
section
variable {X : Cx} {C : Addr}
theorem cd_isOX (h : IsoX X.K C) : CalD X (.builtin "isinstance") (dIsOX C) := CalD.imp cd_isi fun ds G Q ⟨x, e, hx⟩ => by
  subst e
  rcases hx with ⟨⟨ns, vs, rfl⟩, q⟩ | ⟨ho, q⟩
  · exact ⟨_, _, _, .obj h.iso.ci, .own C, by unfold PySem.W.kitOne; rw [if_pos (by simp)], q⟩
  · cases x <;> first | (cases ho; done) | skip
    · exact ⟨_, _, _, tyD_of (n := "NoneType") rfl, .own C, h.ty "NoneType" [.type "NoneType", .type "object"] (by kernel_rfl) rfl, q⟩
    · exact ⟨_, _, _, tyD_of (n := "bool") rfl, .own C, h.ty "bool" [.type "bool", .type "int", .type "object"] (by kernel_rfl) rfl, q⟩
    · exact ⟨_, _, _, tyD_of (n := "int") rfl, .own C, h.ty "int" [.type "int", .type "object"] (by kernel_rfl) rfl, q⟩
    · exact ⟨_, _, _, tyD_of (n := "str") rfl, .own C, h.ty "str" [.type "str", .type "object"] (by kernel_rfl) rfl, q⟩
    · exact ⟨_, _, _, tyD_of (n := "tuple") rfl, .own C, h.ty "tuple" [.type "tuple", .type "object"] (by kernel_rfl) rfl, q⟩
    · exact ⟨_, _, _, tyD_of (n := "list") rfl, .own C, h.ty "list" [.type "list", .type "object"] (by kernel_rfl) rfl, q⟩
end
end DL
set_option Elab.async false
set_option linter.all false
set_option maxRecDepth 100000
set_option maxHeartbeats 4000000
namespace DL
open PySem PySem.Spec PyProof.Rows L2
/-! ### ghost steps between two statements -/
def dSeqG (t u : DTS) : DTS := fun N R σ G => t { N with nx := Gh (u N R) } R σ G
section
variable {X : Cx} {W : WX} {st : Stmt} {sts : List Stmt} {ts us : DTS}
theorem dss_consG (h1 : DS X W st ts) (h2 : DSs X W sts us) : DSs X W (st :: sts) (dSeqG ts us) :=
  pss_imp (pss_cons h1 h2) fun D σV H ⟨S, σ, G, N, R, hc, he, ht, hx, hq⟩ =>
    ⟨S, σ, G, _, R, hc, he, ht, hx, ⟨fun σV' H' S' σ' G' a e n => by
      obtain ⟨S2, σ2, G2, a2, e2, z⟩ := n.go a.cn e
      exact ⟨S2, σ2, G2, N, R, a2.cn, e2, z, hx.aft (a.trans a2), hq.aft (a.trans a2)⟩, hq.rt, hq.bk, hq.ct⟩⟩
end
section
variable {X : Cx} {W : WX} {k : Nat} {f C : Addr} {ps : List Str} {sp : DSp} {x : Str} {p pos : Pos} {e : Expr} {es : List Expr} {t : DTA} {dv : List D}
/-- C(..), all told by place -/
theorem de_makePF (M : Mk X.K C f) (F : Pm X.prog X.w X.K X.mg X.base k f ps dv sp) (hr : RoomG (k + 1) X.A) (hg : Gl X x) (hm : X.mg x = some (.ref C)) (tk : Takes X W) (ha : DA X W (e :: es) t)
    (hdb : (x == ("__debug__" : Str)) = false := by decide) (he : starEach (e :: es) X.env = (false, eval e X.env) :: starEach es X.env := by rfl) (hpl : (backTo pos (starEach es X.env)).any (·.1) = false := by rfl) :
    DE X W (.Call (.Name x p) (e :: es) [] pos) (dMake C sp t []) := by
  have h := de_makeP (p := p) (pos := pos) M F dv.length hr hg hm tk ha (Nat.le_refl _) hdb he hpl
  rwa [List.drop_length] at h
end
def viniB (K : PySem.W.Frag) : Bool := match PySem.W.findCls K (.type "ValueError") (.type "type") "__init__" with
  | some (.val (.builtin n)) => n == "ValueError.__init__"
  | _ => false
theorem viniB_ok {K : PySem.W.Frag} (h : viniB K = true) : PySem.W.findCls K (.type "ValueError") (.type "type") "__init__" = some (.val (.builtin "ValueError.__init__")) := by
  unfold viniB at h
  split at h
  · rename_i n e
    rw [e, eq_of_beq h]
  · cases h
section
variable {σ : Ev} {G : GS} {N : DEnds} {R : DXK} {t u : DTS}
theorem r_tryAs {K : PySem.W.Frag} {c : Value} {i : Nat} {tb : DTS} {th : Addr → Value → Option Addr → DTS} : dTryAs K c i tb th N R σ G = tb N (fun cls fs σ1 G1 => ∃ b, PySem.W.exmOne K cls c = some b ∧
  (b = true → ∀ a d, (fs ≠ [] → ∃ dd, d = some dd) → th a cls d { nx := fun σ' G' => N.nx (σ'.set i none) G', rt := N.rt, bk := fun σ' G' => N.bk (σ'.set i none) G', ct := fun σ' G' => N.ct (σ'.set i none) G' } (fun _ _ _ _ => False) (σ1.set i (some (.ref a))) (G1 ++ xdG d fs)) ∧
  (b = false → R cls fs σ1 G1)) σ G := propext Iff.rfl
theorem q_fmtI {i : Int} {P : Str → Prop} : fmtD (.int i) P = (i.natAbs.log2 < 1920 ∧ P (toString i)) := propext Iff.rfl
theorem q_fmtB {b : Bool} {P : Str → Prop} : fmtD (.bl b) P = P (boolT b) := propext Iff.rfl
theorem q_fmtS {z : Str} {P : Str → Prop} : fmtD (.str z) P = (z.length ≤ sizeLine ∧ P z) := propext Iff.rfl
theorem r_seqG : dSeqG t u N R σ G = t { N with nx := Gh (u N R) } R σ G := propext Iff.rfl
end
end DL
set_option Elab.async false
set_option linter.all false
set_option maxRecDepth 100000
set_option maxHeartbeats 4000000
namespace DGN
open PySem PySem.SeqAt
open AutoSeq1 (wpAny_loadPart')
open MeetsSeq MeetsSeq2 MeetsSeq3 SeqRoads2
open DG (ListB)
section
variable {prog : Program} {w : World} {A : Around} {R : Result → Shared → Prop}
theorem ne_loopB (l b : Addr) (N : Nat) (I : Nat → Shared → Prop) (Z : Shared → Prop) (hl : ListB prog w A (fun e s' => R (.error e) s') l b N I Z)
    (fin : ∀ s, I N s → R (.ok (.ret (.bool false))) s) (fin2 : ∀ s, Z s → R (.ok (.ret (.bool true))) s) (k : Nat) :
    ∀ i : Nat, N - i = k → i ≤ N → ∀ s, I i s →
      wpAny (model prog w) A.in1 (Builtin.«list.__eq__.loop» ⟨[.ref l, .ref b, rawInt i, rawInt 3], []⟩) (GQ.FinOf prog w A R) (fun e s' => R (.error e) s') s := by
  induction k with
  | zero =>
    intro i hk hi s h
    obtain ⟨items, items2, n, n2, dd, dd2, sl, sl2, hl1, hb1, hs1, hs2, _⟩ := hl _ _ h
    have hi' : i = N := by omega
    have hR : R (.ok (.ret (.bool false))) s := fin s (hi' ▸ h)
    obtain ⟨hp, g, d, tk, os⟩ := s
    wp_walk using wpAny_loadPart' hl1, wpAny_loadPart' hb1
    have hi1 : items[((i : Nat) : Int).toNat]? = none := by simp; omega
    have hi2 : items2[((i : Nat) : Int).toNat]? = none := by simp; omega
    rw [hi1, hi2]
    wp_walk using wpAny_loadPart' hl1, wpAny_loadPart' hb1
    show R (.ok (.ret (.bool (items.size != items2.size)))) _
    rw [hs1, hs2]
    simpa using hR
  | succ k ih =>
    intro i hk hi s h
    obtain ⟨items, items2, n, n2, dd, dd2, sl, sl2, hl1, hb1, hs1, hs2, turn⟩ := hl _ _ h
    have hlt : i < items.size := by omega
    have hlt2 : i < items2.size := by omega
    have ht := turn hlt hlt2
    obtain ⟨hp, g, d, tk, os⟩ := s
    wp_walk using wpAny_loadPart' hl1, wpAny_loadPart' hb1
    have hi1 : items[((i : Nat) : Int).toNat]? = some items[i] := by simp [hlt]
    have hi2 : items2[((i : Nat) : Int).toNat]? = some items2[i] := by simp [hlt2]
    have hc : ((i : Int) + 1) = ((i + 1 : Nat) : Int) := by omega
    rw [hi1, hi2]
    refine wpAny_bind (wpAny_mono ht (fun r s2 h2 => ?_) fun _ _ x => x)
    rcases h2 with ⟨hr, h2⟩ | ⟨hr, h2, hz⟩
    · subst hr
      have hrec := ih (i + 1) (by omega) (by omega) s2 h2
      obtain ⟨hp2, g2, d2, tk2, os2⟩ := s2
      wp_walk
      rw [hc]
      exact ⟨plainId_quiet plain_eq_loop _, codeAny_builtin entry_eq_loop (by
        rw [Around.under_plainId plain_eq_loop _]
        exact hrec)⟩
    · subst hr
      obtain ⟨jt, jt2, m, m2, ed, ed2, tl, tl2, jl1, jb1, js1, js2, _⟩ := hl _ _ h2
      have hR : R (.ok (.ret (.bool true))) s2 := fin2 s2 hz
      have ji1 : jt[((i : Nat) : Int).toNat]? = some (jt[i]'(by omega)) := by simp
      have ji2 : jt2[((i : Nat) : Int).toNat]? = some (jt2[i]'(by omega)) := by simp
      obtain ⟨hp2, g2, d2, tk2, os2⟩ := s2
      wp_walk using wpAny_loadPart' jl1, wpAny_loadPart' jb1
      rw [ji1, ji2]
      wp_walk
      exact hR
theorem list_neB (l b : Addr) (N : Nat) (I : Nat → Shared → Prop) (Z : Shared → Prop) (hl : ListB prog w A (fun e s' => R (.error e) s') l b N I Z)
    (fin : ∀ s, I N s → R (.ok (.ret (.bool false))) s) (fin2 : ∀ s, Z s → R (.ok (.ret (.bool true))) s) {s : Shared} (h : I 0 s) :
    wpAny (model prog w) A.in1 (Builtin.«list.__ne__» ⟨[.ref l, .ref b], []⟩) (GQ.FinOf prog w A R) (fun e s' => R (.error e) s') s := by
  obtain ⟨items, items2, n, n2, dd, dd2, sl, sl2, hl1, hb1, hs1, hs2, _⟩ := hl _ _ h
  have hrec := ne_loopB (A := A) (R := R) l b N I Z hl fin fin2 _ 0 rfl (Nat.zero_le _) s h
  obtain ⟨hp, g, d, tk, os⟩ := s
  have f3 := AutoSeq1.sub_list_list
  have hne : ¬ (items.size != items2.size) = true := by simp [hs1, hs2]
  wp_walk using wpAny_loadPart' hl1, wpAny_loadPart' hb1
  exact ⟨plainId_quiet plain_eq_loop _, codeAny_builtin entry_eq_loop (by
    rw [Around.under_plainId plain_eq_loop _]
    exact hrec)⟩
end
section
variable {prog : Program} {w : World} {A : Around} {E : Value → Shared → Prop} {s : Shared}
theorem rc_listN {l b : Addr} {N : Nat} {Q : Value → Shared → Prop} (hu : A.units < cLine) (I : Nat → Shared → Prop) (Z : Shared → Prop) (hl : ListB prog w A E l b N I Z)
    (fin : ∀ s, I N s → Q (.bool false) s) (fin2 : ∀ s, Z s → Q (.bool true) s) (h : I 0 s) : wpAny (model prog w) A (richCompare .NotEq (.ref l) (.ref b)) Q E s := by
  obtain ⟨items, items2, n, n2, dd, dd2, sl, sl2, hl1, hb1, _, _, _⟩ := hl _ _ h
  refine wpAny_richCompare_same_room (op := .NotEq) ⟨_, hl1, rfl⟩ ⟨_, hb1, rfl⟩ F.slot_list_ne (GQ.call_here F.slot_list_ne ⟨_, hl1, rfl⟩ F.entry_list_ne (F.args_list_ne_2 _ _) ?_) hu
  exact list_neB (R := wants (fun v s' => v ≠ .notImplemented ∧ Q v s') E) l b N I Z hl (fun s' q => ⟨(fun x => nomatch x), fin s' q⟩) (fun s' q => ⟨(fun x => nomatch x), fin2 s' q⟩) h
end
end DGN
namespace DL
open PySem PySem.Spec PyProof.Rows L2
def RcN (X : Cx) (n : Nat) (D : EqvB) : Prop :=
  ∀ (A : Around) (pins : List (Addr × Obj)) (s : Shared) (σ : L2.St) (H : Hp) (x y : V) (u v : Value) (b : Bool), SubG X n A → Inv X pins σ H s → RelV x u → RelV y v → D x y H b →
    wpAny (model X.prog X.w) A (richCompare .NotEq u v) (fun r s' => r = .bool (!b) ∧ ∃ H', Inv X pins σ H' s' ∧ Ext H H') X.xe s
section
variable {X : Cx} {n : Nat} {D : EqvB}
theorem rcN_list (hD : MonB D) (h : EqB X n D) : RcN X (n + 1) (DLB X.K D) := by
  intro A pins s σ H x y u v b sb I rx ry d
  obtain ⟨p, q, xs, ys, rfl, rfl, hp, hq, hl, f, hf, hb⟩ := d
  cases rx
  cases ry
  refine DGN.rc_listN (N := xs.length) sb.room.units0 (fun i s' => (∀ j, j < i → f j = true) ∧ LoopI X pins σ H s') (fun s' => (∃ j, j < xs.length ∧ f j = false) ∧ LoopI X pins σ H s') (fun i s' q => ?_)
    (fun s' q => ⟨by rw [hb.mpr q.1]; rfl, q.2⟩) (fun s' q => ⟨?_, q.2⟩) ⟨fun j hj => absurd hj (by omega), H, I, Ext.rfl'⟩
  · obtain ⟨hj, H1, I1, e1⟩ := q
    obtain ⟨its, r, ⟨o, m, g, gc, gd, gs⟩, z⟩ := I1.list (hp.ext e1)
    obtain ⟨its2, r2, ⟨o2, m2, g2, gc2, gd2, gs2⟩, z2⟩ := I1.list (hq.ext e1)
    obtain ⟨oc, od, dt, sl⟩ := o
    obtain ⟨oc2, od2, dt2, sl2⟩ := o2
    simp only at gc gs gc2 gs2
    subst gc gs gc2 gs2
    refine ⟨its.toArray, its2.toArray, m, m2, od, od2, sl, sl2, g, g2, by rw [List.size_toArray, ← r.length], by rw [List.size_toArray, ← r2.length, ← hl], fun h1 h2 => ?_⟩
    have h1' : i < its.length := by simpa using h1
    have h2' : i < its2.length := by simpa using h2
    have k1 : i < xs.length := by rw [r.length]; exact h1'
    have k2 : i < ys.length := by rw [r2.length]; exact h2'
    obtain ⟨u, hu, ru⟩ := r.get (List.getElem?_eq_getElem k1)
    obtain ⟨v, hv, rv⟩ := r2.get (List.getElem?_eq_getElem k2)
    have q1 : its.toArray[i] = u := by
      have : its[i]? = some its.toArray[i] := by rw [List.getElem?_eq_getElem h1'] <;> simp
      rw [this] at hu
      exact Option.some.inj hu
    have q2 : its2.toArray[i] = v := by
      have : its2[i]? = some its2.toArray[i] := by rw [List.getElem?_eq_getElem h2'] <;> simp
      rw [this] at hv
      exact Option.some.inj hv
    rw [q1, q2]
    refine wpAny_mono (h A.in1 pins s' σ H1 _ _ u v _ sb.in1 I1 ru rv (hD _ _ _ _ _ e1 (hf i _ _ (List.getElem?_eq_getElem k1) (List.getElem?_eq_getElem k2)))) (fun r s2 q => ?_) fun _ _ x => x
    obtain ⟨hr, H2, I2, e2⟩ := q
    cases hfi : f i with
    | true => exact .inl ⟨hr.trans hfi, fun j hj' => by
        by_cases e : j = i
        · subst e; exact hfi
        · exact hj j (by omega), H2, I2, e1.trans e2⟩
    | false => exact .inr ⟨hr.trans hfi, ⟨hj, H2, I2, e1.trans e2⟩, ⟨i, k1, hfi⟩, H2, I2, e1.trans e2⟩
  · obtain ⟨⟨j, hj, hf'⟩, _⟩ := q
    cases b with
    | false => rfl
    | true => rw [hb.mp rfl j hj] at hf'; cases hf'
end
end DL
set_option Elab.async false
set_option linter.all false
set_option maxRecDepth 100000
set_option maxHeartbeats 4000000
namespace DL
open PySem PySem.Spec PyProof.Rows L2
section
variable {X : Cx} {W : WX} {n : Nat} {C g : Addr} {fd : FuncData} {ps : List Str} {sp : DSp} {h₀ : ExceptHandler} {hs : List ExceptHandler} {body : List Stmt} {pos : Pos} {tb : DTS}
theorem op_rcN {D : EqvB} (h : RcN X n D) (hr : RoomG n X.A) : OpR X (compareOp .NotEq) (fun x y H Q => ∃ b, D x y H b ∧ ∀ H', Ext H H' → Q (.bl (!b)) H') := by
  intro pins s σ H x y v u Q I rx ry hq
  obtain ⟨b, d, q⟩ := hq
  show wpAny (model X.prog X.w) X.A (richCompare .NotEq v u) (EP X pins σ Q) X.xe s
  refine wpAny_mono (h X.A pins s σ H x y v u b ⟨hr, rfl⟩ I rx ry d) (fun r s' z => ?_) fun _ _ x => x
  obtain ⟨hr', H', I', e⟩ := z
  subst hr'
  exact ⟨.bl (!b), H', I', rfl, q H' e⟩
/-- != of two lists of instances -/
def dNeL (C : Addr) (sp : DSp) : DOp := fun x y G Q => ∃ (xs ys : List D) (f : Nat → Bool) (b : Bool), x = .lst xs ∧ y = .lst ys ∧ xs.length = ys.length ∧ (∀ (i : Nat) d e, xs[i]? = some d → ys[i]? = some e → ElD C sp d e (f i)) ∧ (b = true ↔ ∀ i, i < xs.length → f i = true) ∧ Q (.bl (!b)) G
theorem opd_neL (o : OwnC X.K C g) (F : FnD X.prog X.w X.K X.mg X.base n g fd ps sp) (hb : Binds X.K fd ps []) (hr : RoomG (n + 1) X.A) : OpD X (compareOp .NotEq) (dNeL C sp) :=
  OpD.mk (op_rcN (rcN_list mon_el (eqB_el o F hb)) hr) fun S G H x y v u Q P hc rx ry ho hq => by
    obtain ⟨xs, ys, f, b, rfl, rfl, hl, hf, hbb, q⟩ := ho
    obtain ⟨p, vs, rfl, h1, r1⟩ := rx
    obtain ⟨p', us, rfl, h2, r2⟩ := ry
    refine ⟨b, ⟨p, p', vs, us, rfl, rfl, hc.sub.l h1, hc.sub.l h2, by rw [r1.length, r2.length, hl], f, fun i z w hz hw => ?_, by rw [r1.length]; exact hbb⟩, fun H' e => hq _ _ _ (.bl (!b)) _ (hc.extA e) rfl q⟩
    obtain ⟨d, hd, rd⟩ := r1.get hz
    obtain ⟨e, he, re⟩ := r2.get hw
    exact (hf i d e hd he).v hc rd re
theorem opd_neLP (o : OwnC X.K C g) (F : Pm X.prog X.w X.K X.mg X.base n g ps [] sp) (hr : RoomG (n + 1) X.A) : OpD X (compareOp .NotEq) (dNeL C sp) := by
  obtain ⟨fd, h1, h2⟩ := pm_nil F
  exact opd_neL o h1 h2 hr
/-! ### a try that runs through -/
def dThru (tb : DTS) : DTS := fun N R σ G => tb N (fun _ _ _ _ => False) σ G
theorem ds_thru (hb : DSs X.nox wX0 body tb) : DS X W (.Try body (h₀ :: hs) [] [] pos) (dThru tb) :=
  ps_imp (ps_try_thru0 hb) fun D σV H ⟨S, σ, G, N, R, cn, hee, ht, hx, hq⟩ =>
    ⟨S, σ, G, N, _, cn, hee, ht, fun cls dx σV' H' S' σ' fs G' af er xr xn z => z.elim, hq⟩
end
section
variable {σ : Ev} {G : GS} {N : DEnds} {R : DXK} {t : DTS}
theorem r_thru : dThru t N R σ G = t N (fun _ _ _ _ => False) σ G := propext Iff.rfl
end
end DL
set_option Elab.async false
set_option linter.all false
set_option maxRecDepth 100000
set_option maxHeartbeats 4000000
namespace DGN
open PySem PySem.SeqAt
open AutoSeq1 (wpAny_loadPart')
open MeetsSeq MeetsSeq2 MeetsSeq3 SeqRoads2
section
variable {prog : Program} {w : World} {A : Around} {R : Result → Shared → Prop}
/-- unlike lengths -/
theorem list_neS (l b : Addr) {s : Shared} {items items2 : Array Value} {n n2 : Nat} {dd dd2 : Option Addr} {sl sl2 : Array (Option Value)} (hl1 : s.heap.get? l = some { cls := .type "list", dict := dd, data := .seq items n, slots := sl })
    (hb1 : s.heap.get? b = some { cls := .type "list", dict := dd2, data := .seq items2 n2, slots := sl2 }) (hs : (items.size != items2.size) = true) (fin : R (.ok (.ret (.bool true))) s) :
    wpAny (model prog w) A.in1 (Builtin.«list.__ne__» ⟨[.ref l, .ref b], []⟩) (GQ.FinOf prog w A R) (fun e s' => R (.error e) s') s := by
  obtain ⟨hp, g, d, tk, os⟩ := s
  have f3 := AutoSeq1.sub_list_list
  wp_walk using wpAny_loadPart' hl1, wpAny_loadPart' hb1
  exact fin
end
section
variable {prog : Program} {w : World} {A : Around} {E : Value → Shared → Prop} {s : Shared}
theorem rc_listS {l b : Addr} {Q : Value → Shared → Prop} (hu : A.units < cLine) {items items2 : Array Value} {n n2 : Nat} {dd dd2 : Option Addr} {sl sl2 : Array (Option Value)} (hl1 : s.heap.get? l = some { cls := .type "list", dict := dd, data := .seq items n, slots := sl })
    (hb1 : s.heap.get? b = some { cls := .type "list", dict := dd2, data := .seq items2 n2, slots := sl2 }) (hs : (items.size != items2.size) = true) (fin : Q (.bool true) s) : wpAny (model prog w) A (richCompare .NotEq (.ref l) (.ref b)) Q E s := by
  refine wpAny_richCompare_same_room (op := .NotEq) ⟨_, hl1, rfl⟩ ⟨_, hb1, rfl⟩ F.slot_list_ne (GQ.call_here F.slot_list_ne ⟨_, hl1, rfl⟩ F.entry_list_ne (F.args_list_ne_2 _ _) ?_) hu
  exact list_neS (R := wants (fun v s' => v ≠ .notImplemented ∧ Q v s') E) l b hl1 hb1 hs ⟨(fun x => nomatch x), fin⟩
end
end DGN
namespace DL
open PySem PySem.Spec PyProof.Rows L2
section
variable {X : Cx} {n : Nat}
/-- xs != [] -/
theorem op_neE (hr : RoomG 1 X.A) : OpR X (compareOp .NotEq) (fun x y H Q => ∃ p q xs, x = .ref p ∧ y = .ref q ∧ SqL X.K H p xs ∧ SqL X.K H q [] ∧ Q (.bl (!xs.isEmpty)) H) := by
  intro pins s σ H x y v u Q I rx ry hq
  obtain ⟨p, q, xs, rfl, rfl, hp, hq2, q0⟩ := hq
  cases rx
  cases ry
  show wpAny (model X.prog X.w) X.A (richCompare .NotEq (.ref p) (.ref q)) (EP X pins σ Q) X.xe s
  obtain ⟨its, r, ⟨o, m, g, gc, gd, gs⟩, z⟩ := I.list hp
  obtain ⟨its2, r2, ⟨o2, m2, g2, gc2, gd2, gs2⟩, z2⟩ := I.list hq2
  obtain ⟨oc, od, dt, sl⟩ := o
  obtain ⟨oc2, od2, dt2, sl2⟩ := o2
  simp only at gc gs gc2 gs2
  subst gc gs gc2 gs2
  cases r2
  cases r with
  | nil =>
    refine DGN.rc_listN (N := 0) hr.units0 (fun i s' => EP X pins σ Q (.bool false) s' ∧ s' = s) (fun _ => False) (fun i s' hi => ?_) (fun s' hi => hi.1) (fun _ z => z.elim) ⟨⟨.bl false, H, I, rfl, q0⟩, rfl⟩
    obtain ⟨_, rfl⟩ := hi
    exact ⟨_, _, m, m2, od, od2, sl, sl2, g, g2, rfl, rfl, fun h1 h2 => absurd h1 (by simp)⟩
  | cons ra rr => exact DGN.rc_listS hr.units0 g g2 (by simp) ⟨.bl true, H, I, rfl, q0⟩
def dNeE : DOp := fun x y G Q => y = .lst [] ∧ ∃ xs, (x = .lst xs ∨ ∃ p, x = .ref p ∧ (p, Cell.lst xs) ∈ G) ∧ Q (.bl (!xs.isEmpty)) G
theorem opd_neE (hr : RoomG 1 X.A) : OpD X (compareOp .NotEq) dNeE :=
  OpD.mk (op_neE hr) fun S G H x y v u Q P hc rx ry ho hq => by
    obtain ⟨rfl, xs, hx, q⟩ := ho
    obtain ⟨p', us, rfl, h2, r2⟩ := ry
    have e2 : us = [] := List.length_eq_zero_iff.mp (by rw [r2.length]; rfl)
    subst e2
    rcases hx with rfl | ⟨p, rfl, hm⟩
    · obtain ⟨p, vs, rfl, h1, r1⟩ := rx
      refine ⟨p, p', vs, rfl, rfl, hc.sub.l h1, hc.sub.l h2, ?_⟩
      have e : vs.isEmpty = xs.isEmpty := by
        have := r1.length
        cases vs <;> cases xs <;> first | rfl | (simp at this)
      rw [e]
      exact hq _ _ _ (.bl _) _ hc.aft rfl q
    · obtain ⟨vs, h1, r1⟩ := hc.cell _ hm
      obtain rfl : v = .ref p := rx
      refine ⟨p, p', vs, rfl, rfl, SqL.of h1, hc.sub.l h2, ?_⟩
      have e : vs.isEmpty = xs.isEmpty := by
        have := r1.length
        cases vs <;> cases xs <;> first | rfl | (simp at this)
      rw [e]
      exact hq _ _ _ (.bl _) _ hc.aft rfl q
end
end DL
set_option Elab.async false
set_option linter.all false
set_option maxRecDepth 100000
set_option maxHeartbeats 4000000
namespace DL
open PySem PySem.Spec PyProof.Rows L2
section
variable {X : Cx} {W : WX} {i j : Nat} {x y : Str} {a b : Expr} {t : DTA} {px py pt pos : Pos} {kt k2 : Nat} {pt2 : Pos}
theorem ds_par {kt k2} (hc : X.calm = true) (hN : X.N.Nodup) (hi : X.N[i]? = some x) (hj : X.N[j]? = some y) (hij : i ≠ j) (hx : X.env.scope.names.lookup x = some .local) (hy : X.env.scope.names.lookup y = some .local) (ha : DA X W [a, b] t)
    (hw : swappedStores [.Tuple [.Name x px, .Name y py] kt pt] (.Tuple [a, b] k2 pt2) X.env = pure (some [x, y]))
    (hs : swapsWithSole [.Tuple [.Name x px, .Name y py] kt pt] (.Tuple [a, b] k2 pt2) pos.line X.env = pure false := by rfl) :
    DS X W (.Assign [.Tuple [.Name x px, .Name y py] kt pt] (.Tuple [a, b] k2 pt2) pos) (dPar i j t) :=
  ps_imp (ps_par hc hN hi hj hij hx hy ha hw hs) fun D σV H ⟨S, σ, G, N, R, hc, hee, ht, hx, hq⟩ => by
    refine ⟨S, σ, G, _, R, hc, hee, ht, hx, fun vs H1 S1 ds G1 a1 r1 q1 => ?_⟩
    match ds, q1, r1 with
    | [d, e], q1, r1 =>
      obtain ⟨v, vs', rfl, rv, r1⟩ := r1
      obtain ⟨w, vs'', rfl, rw', r1⟩ := r1
      cases r1
      exact ⟨v, w, rfl, hq.nx _ H1 S1 _ G1 a1 (((hee.up a1.sub).set rv i).set rw' j) q1⟩
def pr2 (ds : List D) (P : D → D → Prop) : Prop := match ds with | [v, w] => P v w | _ => False
end
section
variable {σ : Ev} {G : GS} {N : DEnds} {R : DXK} {t : DTA} {i j : Nat} {v w : D} {P : D → D → Prop}
theorem r_par : dPar i j t N R σ G = t σ G (fun ds G1 => pr2 ds fun v w => N.nx ((σ.set i (some v)).set j (some w)) G1) R := by
  unfold dPar
  refine congrArg (fun z => t σ G z R) (funext fun ds => funext fun G1 => ?_)
  match ds with
  | [] => rfl
  | [_] => rfl
  | [_, _] => rfl
  | _ :: _ :: _ :: _ => rfl
theorem q_pr2 : pr2 [v, w] P = P v w := propext Iff.rfl
end
end DL
set_option Elab.async false
set_option linter.all false
set_option maxRecDepth 100000
set_option maxHeartbeats 4000000
/-! ### own exceptions over any base: the store of a field -/
namespace DX
open PySem PySem.W PySem.Calls PyProof.Rows
/-- own classes, then the base's line -/
def tailB (bmB : List Value) : List Value → Bool
  | .ref _ :: r => tailB bmB r
  | l => l == bmB
theorem tailB_cases {bmB : List Value} : ∀ l : List Value, tailB bmB l = true → (∃ c r, l = .ref c :: r ∧ tailB bmB r = true) ∨ l = bmB := fun l e => by
  unfold tailB at e
  split at e
  · rename_i c r
    exact .inl ⟨c, r, rfl, e⟩
  · exact .inr (eq_of_beq e)
theorem tailB_pass {bmB : List Value} (hp : ∀ self, refuseLoop self "__setattr__" bmB = pure ()) (self : Value) (l : List Value) (e : tailB bmB l = true) : refuseLoop self "__setattr__" l = pure () := by
  induction l with
  | nil =>
    rcases tailB_cases _ e with ⟨c, r, q, _⟩ | q
    · cases q
    · rw [q]; exact hp self
  | cons a r ih =>
    rcases tailB_cases _ e with ⟨c, r', q, h⟩ | q
    · cases q
      rw [refuseLoop_ref]
      exact ih h
    · rw [q]; exact hp self
theorem tailB_has {bmB : List Value} (Y : String) (l : List Value) (e : tailB bmB l = true) : l.contains (.type Y) = bmB.contains (.type Y) := by
  induction l with
  | nil =>
    rcases tailB_cases _ e with ⟨c, r, q, _⟩ | q
    · cases q
    · rw [q]
  | cons a r ih =>
    rcases tailB_cases _ e with ⟨c, r', q, h⟩ | q
    · cases q
      rw [List.contains_cons, ih h]
      rfl
    · rw [q]
section
open Builtin Builtin.ObjectAttr
variable {prog : Program} {w : World} {A : Around} {E : Value → Shared → Prop} {R : Result → Shared → Prop} {hp : Heap} {g : Array GenState} {d : Drawn} {t : Nat} {os : OsState}
/-- up to the own dict -/
theorem osa_to {K : W.Frag} {name : Str} {tk : Tok} {v : Value} {x C : Addr} {ox : Obj} {od : Option Obj} {cd : ClassData} (X : K.In hp) (I : W.InstAt hp x ox C od) (cdA : W.clsIn K C = some cd)
    (hne : cd.mro.isEmpty = false) (hob : cd.mro.contains (.type "object") = true) (hps : refuseLoop (.ref x) "__setattr__" cd.mro = pure ()) (evA : W.findIn K (.ref C) name = some none)
    (fin : wpAny (model prog w) A.in1 (storeInOwnDict (.ref x) (.ref C) (.str name tk) name v false) (fun fin s' => match fin with | .done f => R (.ok f) s' | .again c' => c'.quiet = true ∧ codeAny (model prog w) A c' R s') (fun e s' => R (.error e) s') ⟨hp, g, d, t, os⟩) :
    codeAny (model prog w) A (.call (.builtin "object.__setattr__") ⟨[.ref x, .str name tk, v], []⟩) R ⟨hp, g, d, t, os⟩ := by
  have hin : W.mroIn K C (.type "object") = some true := by
    unfold W.mroIn
    rw [cdA, Option.bind_some, hob, if_neg (by rw [hne]; exact Bool.false_ne_true)]
  have ob : W.Looks (model prog w) hp (isInstance (.ref x) (.type "object")) true := I.type.andThen (W.looks_mroIn X hin)
  have fs := F.store_object
  refine codeAny_call_builtin fs.slot.plain fs.entry (W.check_slot (M := model prog w) (s := ⟨hp, g, d, t, os⟩) (i := "object.__setattr__") (owner := "object") (n := "__setattr__") (self := .ref x) (rest := [.str name tk, v]) (kw := []) fs.kind fs.split ob (fs.args (.ref x) (.str name tk) v) ?_)
  have lm : W.Looks (model prog w) hp (mroOf (.ref C)) cd.mro := (W.looks_clsIn X cdA).andThen .now
  have ln : W.Looks (model prog w) hp (storeTaker? none) none := .now
  rw [W.osa_eq, refuse_eq]
  refine wpAny_bind (wpAny_bind (I.type.at (wpAny_bind (lm.at ?_))))
  rw [hps]
  exact wpAny_pure (wpAny_bind (I.type.at (wpAny_bind ((W.looks_findIn X evA).at (wpAny_bind (ln.at fin))))))
end
end DX
set_option Elab.async false
set_option linter.all false
set_option maxRecDepth 100000
set_option maxHeartbeats 4000000
namespace DX
open PySem PySem.Spec PyProof.Rows L2
/-- what is known of the base -/
structure BaseF (B newId ini : String) (bmB : List Value) : Prop where
  fb : ExcBaseFacts B newId ini bmB
  pass : ∀ self, PySem.refuseLoop self "__setattr__" bmB = pure ()
  obj : bmB.contains (.type "object") = true
  ne : bmB.isEmpty = false
/-- what the text tells of the class -/
structure OexG (K : PySem.W.Frag) (newId : String) (bmB : List Value) (C : Addr) : Prop where
  cls : ∃ nmC q N bs bmC snC sub ab col dd k0 k1 k2 k3 k5, K.lookup C = some (excClassObj nmC q C N bs bmC true snC sub ab col dd k0 k1 k2 k3 k5 newId) ∧ tailB bmB bmC = true
  sa : PySem.W.findIn K (.ref C) "__setattr__" = some (some (.builtin "object.__setattr__"))
  exC : PySem.W.subIn K (.ref C) (.type "BaseException") = some true
  tyC : PySem.W.typeIn K (.ref C) = some (.type "type")
  kC : PySem.W.keepIn K (.ref C) = true
theorem OexG.cd {K : PySem.W.Frag} {B newId ini : String} {bmB : List Value} {C : Addr} (T : OexG K newId bmB C) (b : BaseF B newId ini bmB) : ∃ cd, PySem.W.clsIn K C = some cd ∧ cd.hasDict = true ∧ cd.mro.isEmpty = false ∧ cd.mro.contains (.type "object") = true ∧ ∀ self, PySem.refuseLoop self "__setattr__" cd.mro = pure () := by
  obtain ⟨nmC, q, N, bs, bmC, snC, sub, ab, col, dd, k0, k1, k2, k3, k5, cAt, tlB⟩ := T.cls
  refine ⟨{ name := nmC, bases := bs, mro := .ref C :: bmC, ns := N, qualname := q, hasDict := true, slotNames := snC, subclasses := sub, abstract := ab, collection := col, hasDel := false }, by unfold PySem.W.clsIn; rw [cAt] <;> rfl, rfl, rfl, ?_, fun self => ?_⟩
  · show (Value.ref C :: bmC).contains (.type "object") = true
    rw [List.contains_cons, tailB_has "object" bmC tlB, b.obj, Bool.or_true]
  · show PySem.refuseLoop self "__setattr__" (.ref C :: bmC) = pure ()
    rw [refuseLoop_ref]
    exact tailB_pass b.pass self bmC tlB
section
open PySem.Builtin PySem.Builtin.ObjectAttr
variable {prog : Program} {w : World} {A : Around} {E : Value → Shared → Prop} {R : Result → Shared → Prop} {hp : Heap} {g : Array GenState} {d : Drawn} {t : Nat} {os : OsState}
variable {K : PySem.W.Frag} {B newId ini : String} {bmB : List Value} {name : Str} {tk : Tok} {v : Value} {x C da : Addr} {flv : Array Value}
theorem put_new (T : OexG K newId bmB C) (b : BaseF B newId ini bmB) (X : K.In hp) (xAt : hp.get? x = some { cls := .ref C, data := .fields flv }) (evA : PySem.W.findIn K (.ref C) name = some none)
    (fin : ∀ h' tk' da, (∀ c o, c ≠ x → hp.get? c = some o → h'.get? c = some o) → hp.objs.size ≤ da → da ≠ x → h'.get? x = some { cls := .ref C, dict := some da, data := .fields flv } → h'.Ns1 da (fun y => if y = name then some v else none) → R (.ok (.ret .none)) ⟨h', g, d, tk', os⟩) :
    codeAny (model prog w) A (.call (.builtin "object.__setattr__") ⟨[.ref x, .str name tk, v], []⟩) R ⟨hp, g, d, t, os⟩ := by
  obtain ⟨cd, cdA, hh, c1, c2, c3⟩ := T.cd b
  have xNe : x ≠ hp.objs.size := Nat.ne_of_lt (Heap.lt_size xAt)
  refine osa_to X (od := none) ⟨xAt, rfl, rfl, trivial⟩ cdA c1 c2 (c3 _) evA ?_
  have lc : PySem.W.Looks (model prog w) hp (classData C) cd := PySem.W.looks_clsIn X cdA
  obtain ⟨nmC, bs, mro, ns, qn, hd, snC, sb, ab, col, del⟩ := cd
  cases (show hd = true from hh)
  unfold storeInOwnDict ownDictForStores
  repeat (first | with_reducible refine PySem.HandSPX.store_in_new ?_ ?_ | with_reducible refine wpAny_loadPart_at xAt ?_ | with_reducible refine lc.at ?_ | wp_step)
  · exact ⟨_, #[], _, (Heap.get?_update_ne _ _ _ _ xNe.symm).trans (Heap.get?_push_at rfl rfl), rfl, fun e stE => absurd stE (by simp), fun _ => rfl⟩
  · intro h' tk' hn' swE
    have hx1 := Heap.get?_push_of_some (h := hp) { cls := .type "dict", data := .dict #[] } xAt
    exact fin h' tk' hp.objs.size (fun c o bdX evO => (swE.2 c (Nat.ne_of_lt (Heap.lt_size evO))).trans ((Heap.get?_update_ne _ _ _ _ bdX).trans (Heap.get?_push_of_some _ evO))) (Nat.le_refl _) xNe.symm ((swE.2 x xNe).trans (Heap.get?_update_self _ hx1 rfl)) hn'
theorem put_old {m0 : Str → Option Value} {nl : List Str} (T : OexG K newId bmB C) (b : BaseF B newId ini bmB) (X : K.In hp) (xAt : hp.get? x = some { cls := .ref C, dict := some da, data := .fields flv }) (nsD : hp.Ns1 da m0) (wiN : Within m0 nl) (hz : nl.length ≤ 1000) (evA : PySem.W.findIn K (.ref C) name = some none)
    (fin : ∀ h' tk', (∀ c o, c ≠ da → hp.get? c = some o → h'.get? c = some o) → h'.Ns1 da (fun y => if y = name then some v else m0 y) → R (.ok (.ret .none)) ⟨h', g, d, tk', os⟩) :
    codeAny (model prog w) A (.call (.builtin "object.__setattr__") ⟨[.ref x, .str name tk, v], []⟩) R ⟨hp, g, d, t, os⟩ := by
  obtain ⟨cd, cdA, hh, c1, c2, c3⟩ := T.cd b
  obtain ⟨odD, _, _, odA, _, _⟩ := nsD.count wiN
  refine osa_to X (od := some odD) ⟨xAt, rfl, rfl, odA⟩ cdA c1 c2 (c3 _) evA ?_
  have lc : PySem.W.Looks (model prog w) hp (classData C) cd := PySem.W.looks_clsIn X cdA
  obtain ⟨nmC, bs, mro, ns, qn, hd, snC, sb, ab, col, del⟩ := cd
  cases (show hd = true from hh)
  unfold storeInOwnDict ownDictForStores
  repeat (first | with_reducible refine PySem.OEX.store_in_old nsD wiN hz ?_ | with_reducible refine wpAny_loadPart_at xAt ?_ | with_reducible refine lc.at ?_ | wp_step)
  exact fun h' tk' hn' swE => fin h' tk' (fun c o bdX evO => (swE.2 c bdX).trans evO) hn'
end
end DX
set_option Elab.async false
set_option linter.all false
set_option maxRecDepth 100000
set_option maxHeartbeats 4000000
namespace DX
open PySem PySem.Spec PyProof.Rows L2
section
variable {X : Cx} {pins : List (Addr × Obj)} {σ : L2.St} {H : Hp} {s : Shared} {a C da : Addr} {f : Str} {y : V} {u : Value} {fs : List (Str × V)} {Q : Unit → Shared → Prop} {E : Value → Shared → Prop} {A : Around}
variable {B newId ini : String} {bmB : List Value}
/-- self.f = y, the first field -/
theorem st_new (T : OexG X.K newId bmB C) (b : BaseF B newId ini bmB) (I : Inv X pins σ H s) (e : H a = some (exo a C none)) (noF : PySem.W.findIn X.K (.ref C) f = some none) (ry : RelV y u)
    (h : ∀ da s', H da = none → da ≠ a → Inv X pins σ (upd (upd H da (exd da [(f, y)])) a (exo a C (some da))) s' → Q () s') : wpAny (model X.prog X.w) A (setAttr (.ref a) f u) Q E s := by
  obtain ⟨tr1, evO⟩ := exo_at I.hok e
  obtain ⟨hp, g, d, t, os⟩ := s
  refine PySem.W.set_plain I.kIn (od := none) (C := C) ⟨evO, rfl, rfl, trivial⟩ T.sa (put_new T b I.kIn evO noF fun h' tk' da k dn dne xAt nwA => ?_)
  have daN : H da = none := I.hok.fresh dn
  have nd : ∀ {c : Addr} {o : Obj}, hp.get? c = some o → c ≠ da := fun {c o} q => Nat.ne_of_lt (Nat.lt_of_lt_of_le (Heap.lt_size q) dn)
  have na : ∀ {c : Addr}, H c = none → c ≠ a := fun {c} n z => by rw [z, e] at n; cases n
  have U : Un X.fs [] H (upd (upd H da (exd da [(f, y)])) a (exo a C (some da))) hp h' := {
    keep := fun c o q n _ _ => k c o (na n) q
    slot := fun c o q n _ _ => ⟨o.slots, k c o (na n) q⟩
    free := fun c o q n _ => by rw [upd_ne (na n), upd_ne (nd q), n]
    there := fun c o q _ => by
      by_cases bdX : c = a
      · exact ⟨_, by rw [bdX]; exact xAt⟩
      · exact ⟨o, k c o bdX q⟩
    tups := fun c xs q => by rw [upd_ne (at_ne e q exo_tup), upd_ne (ne_of_none q daN), q]
    frzs := fun c o v q => by rw [upd_ne (at_ne e q exo_frz), upd_ne (ne_of_none q daN), q]
    tbls := fun c ps q => ⟨#[], by rw [upd_ne (at_ne e q exo_tbl), upd_ne (ne_of_none q daN), q]; simp⟩ }
  refine h da _ daN dne (I.un (t' := tk') U fun c o q => ?_)
  by_cases bdX : c = a
  · subst bdX
    rw [upd_same] at q
    obtain rfl := Option.some.inj q
    exact exo_ok xAt
  rw [upd_ne bdX] at q
  by_cases hd : c = da
  · subst hd
    rw [upd_same] at q
    obtain rfl := Option.some.inj q
    exact exd_ok nwA (relO_put (fs := []) ry fun _ => True.intro)
  rw [upd_ne hd] at q
  refine (I.hok c o q).stay (fun c2 v2 hc z => k c2 v2 ?_ z) (fun c2 hc => ?_) (fun c2 xs hc => ?_)
  · rcases hc with rfl | hc
    · exact bdX
    · exact at_ne e hc exo_own
  · rw [upd_ne (at_ne e hc exo_own), upd_ne (ne_of_none hc daN), hc]
  · rw [upd_ne (at_ne e hc exo_tup), upd_ne (ne_of_none hc daN), hc]
/-- a further field -/
theorem st_old (T : OexG X.K newId bmB C) (b : BaseF B newId ini bmB) (I : Inv X pins σ H s) (e : H a = some (exo a C (some da))) (atD : H da = some (exd da fs)) (lnF : fs.length ≤ 900) (noF : PySem.W.findIn X.K (.ref C) f = some none) (ry : RelV y u)
    (h : ∀ s', Inv X pins σ (upd H da (exd da ((f, y) :: fs))) s' → Q () s') : wpAny (model X.prog X.w) A (setAttr (.ref a) f u) Q E s := by
  obtain ⟨tr1, evO⟩ := exo_at I.hok e
  obtain ⟨mpA, nsD, relA⟩ := exd_at I.hok atD
  have wiN := within_of relA
  obtain ⟨hp, g, d, t, os⟩ := s
  obtain ⟨odD, _, _, odA, _, _⟩ := nsD.count wiN
  refine PySem.W.set_plain I.kIn (od := some odD) (C := C) ⟨evO, rfl, rfl, odA⟩ T.sa (put_old T b I.kIn evO nsD wiN (by rw [List.length_map]; omega) noF fun h' tk' k nwA => ?_)
  obtain ⟨o, _, _, e', _⟩ := id nwA
  exact h _ (I.write (t' := tk') (x := da) (e := da) (o := exd da ((f, y) :: fs)) (by rw [atD]; exact True.intro) (.inl rfl) k ⟨o, e'⟩ (exd_ok nwA (relO_put ry relA)))
/-- B.__init__(self, ..) -/
theorem ini_ok {us : List Value} {Q : Value → Shared → Prop} (T : OexG X.K newId bmB C) (b : BaseF B newId ini bmB) (I : Inv X pins σ H s) (e : H a = some (exo a C none)) (lnF : us.length ≤ sizeLine) (h : ∀ s', Inv X pins σ H s' → Q .none s') :
    wpAny (model X.prog X.w) A (call (.builtin ini) (.ref a :: us)) Q E s := by
  obtain ⟨nmC, q, N, bs, bmC, snC, sub, ab, col, dd, k0, k1, k2, k3, k5, cAt, tlB⟩ := T.cls
  obtain ⟨tr1, evO⟩ := exo_at I.hok e
  obtain ⟨hp, g, d, t, os⟩ := s
  refine wpAny_call (PySem.HandSPX.init_base b.fb (fun Y => tailB_has Y bmC tlB) (I.kIn _ _ cAt) evO lnF fun h' t2 k xAt => ?_)
  have J := I.write (t' := t) (x := a) (e := a) (o := exo a C none) (by rw [e]; exact True.intro) (.inl rfl) k ⟨_, xAt⟩ (exo_ok xAt)
  have eqH : upd H a (exo a C none) = H := by
    funext c
    by_cases bdX : c = a
    · rw [bdX, upd_same, e]
    · exact upd_ne bdX
  exact h _ (eqH ▸ J)
end
end DX
set_option Elab.async false
set_option linter.all false
set_option maxRecDepth 100000
set_option maxHeartbeats 4000000
namespace DX
open PySem PySem.Spec PyProof.Rows L2 ClX
/-! ### readings and rules -/
/-- B.__init__(self, ..), B built in -/
def tBI (K : PySem.W.Frag) (newId : String) (bmB : List Value) (ta : TA) : TE := fun σ H Q => ta σ H fun vs H1 => ∃ (a C : Addr) (ws : List V), vs = .ref a :: ws ∧ ws.length ≤ 1000 ∧ OexG K newId bmB C ∧ H1 a = some (exo a C none) ∧ Q .non H1
/-- self.f = e -/
def tStG (K : PySem.W.Frag) (newId : String) (bmB : List Value) (f : Str) (to te : TE) : TS := fun D σ H => te σ H fun y H1 => to σ H1 fun x H2 => ∃ a C : Addr, x = .ref a ∧ OexG K newId bmB C ∧ PySem.W.findIn K (.ref C) f = some none ∧
  ((H2 a = some (exo a C none) ∧ ∀ da, H2 da = none → da ≠ a → D.nx σ (upd (upd H2 da (exd da [(f, y)])) a (exo a C (some da)))) ∨
    ∃ (da : Addr) (fs : List (Str × V)), H2 a = some (exo a C (some da)) ∧ H2 da = some (exd da fs) ∧ fs.length ≤ 900 ∧ D.nx σ (upd H2 da (exd da ((f, y) :: fs))))
section
variable {X : Cx} {o e : Expr} {es : List Expr} {to te : TE} {ta : TA} {f : Str} {p p' p1 p2 pos : Pos} {B newId ini : String} {bmB : List Value}
theorem pe_bini {x : Str} {pl : Sem Bool} (b : BaseF B newId ini bmB) (glX : Gl X x) (mgX : X.mg x = none) (hv : bootBuiltins x = some (.type B)) (ht : typeOf (.type B) = pure (.type "type")) (hst : Manifest.isStub B = false)
    (vV : PySem.W.findCls X.K (.type B) (.type "type") "__init__" = some (.val (.builtin ini))) (hh : PySem.W.handedIn (.builtin ini) = true) (evA : PA X (e :: es) ta)
    (hc : eval (.Call (.Attribute (.Name x p1) "__init__" p2) (e :: es) [] pos) X.env = (do
      let ov ← eval (.Name x p1) X.env
      standAt p2.atName
      let (f, first) ← holding [ov] (getMethod ov "__init__" pl)
      callWith pos f first (backTo pos (starEach (e :: es) X.env)) (backToKw pos (keywordEach [] X.env))) := by rfl)
    (nwA : x ≠ "__name__" := by decide) (hd : (x == ("__debug__" : Str)) = false := by decide)
    (stE : starEach (e :: es) X.env = (false, eval e X.env) :: starEach es X.env := by rfl) (plE : (backTo pos (starEach es X.env)).any (·.1) = false := by rfl) :
    PE X (.Call (.Attribute (.Name x p1) "__init__" p2) (e :: es) [] pos) (tBI X.K newId bmB ta) := by
  refine ⟨fun pins s σ H Q I h => ?_⟩
  refine PySem.W.methodCall_KW (ld_blt I glX mgX hv ?_ nwA hd) hc
  obtain ⟨m, fr⟩ := I.fr
  refine PySem.W.method_type fr I.ok.mod.kin ht hst vV hh ?_
  show wpAny _ _ (callWith pos (Value.builtin ini) [] (backTo pos (starEach (e :: es) X.env)) []) _ _ _
  refine PyProof.Rows.callWith_method1 (thn (evA.run pos pins _ σ H _ (I.tok _) h) fun us s1 hu => ?_) stE plE
  obtain ⟨vs, H1, I1, r1, a, C, ws, rfl, lnF, T, atA, q⟩ := hu
  obtain ⟨rlA, rw'⟩ : ∃ ur, us = Value.ref a :: ur ∧ Vals ws ur := by
    cases r1 with
    | cons q1 q2 => exact ⟨_, by rw [show _ = Value.ref a from q1], q2⟩
  obtain ⟨rfl, rw'⟩ := rw'
  exact ini_ok T b I1 atA (by rw [← Paired.length rw', sizeLine_eq]; omega) fun s' J => ⟨.non, H1, J, rfl, q⟩
theorem ps_stG (b : BaseF B newId ini bmB) (evO : PE X o to) (stE : PE X e te) (swE : swapsWith e (some (.Attribute o f p')) pos.line X.env = pure false := by rfl) : PS X (.Assign [.Attribute o f p'] e pos) (tStG X.K newId bmB f to te) := by
  refine ⟨fun pins s σ H D I h => ?_⟩
  refine plainObj_wpAny_Assign_Attribute (thn (stE.run pins s σ H _ I h) fun v s1 hv => ?_) swE
  obtain ⟨y, H1, I1, r1, q1⟩ := hv
  refine thn (evO.run pins s1 σ H1 _ I1 q1) fun u s2 hu => ?_
  obtain ⟨x, H2, I2, r2, a, C, rfl, T, noF, q⟩ := hu
  obtain rfl : u = Value.ref a := r2
  rcases q with ⟨atA, q⟩ | ⟨da, fs, atA, atD, lnF, q⟩
  · exact st_new T b I2 atA noF r1 fun da s' n ne J => ⟨σ, _, J, q da n ne⟩
  · exact st_old T b I2 atA atD lnF noF r1 fun s' J => ⟨σ, _, J, q⟩
theorem pmk_g {CX : CXT} {x : Str} {C fI : Addr} {k : Nat} {fd : FuncData} {ps : List Str} {sp : Sp} {ds : List Value} {dvs : List V} (b : BaseF B newId ini bmB) (T : OexG X.K newId bmB C) (iC : PySem.W.findIn X.K (.ref C) "__init__" = some (some (.ref fI)))
    (tI : PySem.W.typeIn X.K (.ref fI) = some (.type "function")) (F1 : FnOk X.prog X.w X.K X.mg X.base CX k fI fd ps sp) (rmX : Room (k + 1) X.A) (bdX : Binds X.K fd ps ds) (hd : Vals dvs ds) (xAt : Passes CX X (fun _ _ _ => False)) (glX : Gl X x) (mgX : X.mg x = some (.ref C)) (evA : PA X (e :: es) ta)
    (dbX : (x == ("__debug__" : Str)) = false := by decide) (stE : starEach (e :: es) X.env = (false, eval e X.env) :: starEach es X.env := by rfl) (plE : (backTo pos (starEach es X.env)).any (·.1) = false := by rfl) :
    PMk X (.Call (.Name x p) (e :: es) [] pos) (tMkO C sp dvs ta) := by
  intro pins s σ H Q I h
  obtain ⟨nmC, q, N, bs, bmC, snC, sub, ab, col, dd, k0, k1, k2, k3, k5, cAt, tlB⟩ := T.cls
  refine wpAny_Call_Name_kw (ld_glob I glX mgX ?_ dbX)
  refine PySem.W.callWith_K (h₀ := X.base) I.ok.mod.kin T.kC (thn (evA.run pos pins s σ H _ I h) fun us s1 hu => ?_) stE plE
  obtain ⟨vs, H1, I1, r1, hz, q1⟩ := hu
  refine ⟨I1.kIn, ?_⟩
  show wpAny _ _ (call (.ref C) us) _ _ _
  obtain ⟨hp, g, dr, tk, os⟩ := s1
  let a := hp.objs.size + 1
  let h2 := (hp.push (PySem.W.kdv_tup us)).push (PySem.HandSPX.excO C hp.objs.size)
  have szA : hp.objs.size ≤ a := Nat.le_succ _
  have nwA : H1 a = none := I1.hok.fresh szA
  have fin := q1 a nwA
  have kpA : ∀ c o, hp.get? c = some o → h2.get? c = some o := fun c o z => Heap.get?_push_of_some _ (Heap.get?_push_of_some _ z)
  have gtA : h2.get? a = some (PySem.HandSPX.excO C hp.objs.size) := by
    show ((hp.push (PySem.W.kdv_tup us)).push (PySem.HandSPX.excO C hp.objs.size)).get? (hp.objs.size + 1) = some (PySem.HandSPX.excO C hp.objs.size)
    heap_get
  have I2 : Inv X pins σ (upd H1 a (exo a C none)) ⟨h2, g, dr, tk, os⟩ := I1.laid (t' := tk) (a := a) (o := exo a C none) (h' := h2) kpA szA (exo_ok gtA)
  have r2 : Vals (V.ref a :: (vs ++ dvs)) (Value.ref a :: (us ++ ds)) := .cons rfl (r1.append hd)
  have lnF : (Value.ref a :: us ++ ds).length = ps.length := by
    have z := r2.length
    rw [F1.len _ _ _ _ fin] at z
    exact z.symm
  have szU : us.length ≤ sizeLine := by rw [← Paired.length r1, sizeLine_eq]; omega
  refine wpAny_call (PySem.HandSPX.call_own b.fb (fun Y => tailB_has Y bmC tlB) (I1.kIn _ _ cAt) (PySem.W.looks_findIn I1.kIn iC) (fun self => PySem.W.bind_fn I1.kIn self tI) szU
    (codeAny_mono (F1.run _ X.stack _ _ ⟨Value.ref a :: us, []⟩ (Value.ref a :: (us ++ ds)) _ _ (fun _ _ _ => False) (rmX.make C us []) (I2.env0.make C us []) (bdX _ (Value.ref a :: us) I2.kIn lnF) r2 fin) fun r s' hq' => ?_))
  match r, hq' with
  | .error er, hq' => exact xAt pins σ _ _ er s' I2 hq'
  | .ok (.ret u), hq' =>
    obtain ⟨v, H2, os2, bare2, un2, hok2, rv, ev, d, fs, atA, atD, hd1, q2⟩ := hq'
    subst ev
    obtain ⟨h3, g2, d2, t2, os'⟩ := s'
    exact ⟨rv, mk_end (raises_own T.exC T.tyC) I1 szA kpA un2 hok2 os2 bare2 atA atD hd1 q2⟩
  | .ok .next, hq' => exact False.elim hq'
  | .ok .brk, hq' => exact False.elim hq'
  | .ok .cont, hq' => exact False.elim hq'
/-- C.__init__(self, ..), C an own class -/
theorem pe_cini {CX : CXT} {k : Nat} {x m : Str} {C g : Addr} {mc : Value} {fd : FuncData} {ps : List Str} {sp : Sp} {E : L2.St → XK} {pl : Sem Bool} (glX : Gl X x) (mgX : X.mg x = some (.ref C)) (r : CRead X.K C mc) (c : CVal X.K C mc m (.ref g) (.ref g)) (hk : PySem.W.keepIn X.K (.ref g) = true)
    (F : FnOk X.prog X.w X.K X.mg X.base CX k g fd ps sp) (rmX : Room k X.A) (bdX : Binds X.K fd ps []) (xAt : ∀ σ, PassesAt CX X σ (E σ)) (evA : PA X (e :: es) ta)
    (hc : eval (.Call (.Attribute (.Name x p1) m p2) (e :: es) [] pos) X.env = (do
      let ov ← eval (.Name x p1) X.env
      standAt p2.atName
      let (f, first) ← holding [ov] (getMethod ov m pl)
      callWith pos f first (backTo pos (starEach (e :: es) X.env)) (backToKw pos (keywordEach [] X.env))) := by rfl)
    (dbX : (x == ("__debug__" : Str)) = false := by decide) (stE : starEach (e :: es) X.env = (false, eval e X.env) :: starEach es X.env := by rfl) (plE : (backTo pos (starEach es X.env)).any (·.1) = false := by rfl) :
    PE X (.Call (.Attribute (.Name x p1) m p2) (e :: es) [] pos) (tCallS sp E ta) := by
  refine ⟨fun pins s σ H Q I h => ?_⟩
  refine PySem.W.methodCall_KW (ld_glob I glX mgX ?_ dbX) hc
  refine PySem.W.method_cls I.kIn r.ga (getcval_ok I r c fun s1 I1 => ?_)
  refine PySem.W.callWith_K (h₀ := X.base) I.ok.mod.kin hk (thn (evA.run pos pins _ σ H _ I1 h) fun us s2 hu => ?_) stE plE
  obtain ⟨vs, H1, I2, r1, q⟩ := hu
  exact ⟨I2.kIn, run_fnS F rmX bdX (xAt σ) I2 r1 q⟩
end
end DX
set_option Elab.async false
set_option linter.all false
set_option maxRecDepth 100000
set_option maxHeartbeats 4000000
namespace DX
open PySem PySem.Spec PyProof.Rows L2
abbrev Sui := Addr → Value → Option Addr → TS
/-- the ends of a suite whose name falls behind it -/
def endA (i : Nat) (D : Ends) : Ends := { nx := fun τ H' => D.nx (τ.set i none) H', rt := D.rt, bk := fun τ H' => D.bk (τ.set i none) H', ct := fun τ H' => D.ct (τ.set i none) H' }
/-- what several clauses with names wish -/
def wMA (K : PySem.W.Frag) (Wout : WX) (D : Ends) : List (Value × Nat × Sui) → WX
  | [] => Wout
  | (c, i, ts) :: r => fun cls d τ H => ∃ b, PySem.W.exmOne K cls c = some b ∧ (b = true → ∀ ea, H ea = none → ts ea cls d (endA i D) (τ.set i (some (.ref ea))) H) ∧ (b = false → wMA K Wout D r cls d τ H)
inductive HdA (X : Cx) : List ExceptHandler → List (Value × Nat × Sui) → Prop
  | nil : HdA X [] []
  | cons {x n : Str} {c : Value} {i : Nat} {ts : Sui} {b0 : Stmt} {suite : List Stmt} {np ps : Pos} {hds : List ExceptHandler} {l : List (Value × Nat × Sui)} (nmC : Names X x c) (at_ : X.N[i]? = some n) (kd : X.env.kindOf n = some .local)
      (sui : ∀ (ea : Addr) (eo : Obj) (cls : Value) (d : Option Addr) (pn : List (Addr × Obj)), Zc cls d eo → (∃ fv, eo.data = .fields fv) → PSs (X.suite ea ((ea, eo) :: pn)) (b0 :: suite) (ts ea cls d)) (r : HdA X hds l) :
      HdA X (.ExceptHandler (some (.Name x np)) (some n) (b0 :: suite) ps :: hds) ((c, i, ts) :: l)
section
variable {X : Cx} {body : List Stmt} {hd0 : ExceptHandler} {hds : List ExceptHandler} {l : List (Value × Nat × Sui)} {pos : Pos} {tb : WX → TS} {Wout : WX}
theorem ps_tryMA (stk : X.stack = X.env :: X.outer) (frm : X.env.frame = some X.env.locals) (nod : X.N.Nodup) (tk : Takes X Wout)
    (bod : ∀ (W : WX) (pn : List (Addr × Obj)) (xe : Value → Shared → Prop), Takes (X.tr pn xe) W → PassesOwn (model X.prog X.w) X.A X.env xe → PSs (X.tr pn xe) body (tb W))
    (hk : HdA X (hd0 :: hds) l) : PS X (.Try body (hd0 :: hds) [] [] pos) (fun D τ H => tb (wMA X.K Wout D l) D τ H) := by
  refine ⟨fun pins s0 τ H D J0 h => ?_⟩
  have okx := J0.ok
  have frA : X.A.frames = some (X.env :: X.outer) := by rw [okx.frames, stk]
  refine wpAny_Try_except (wpAny_mono ((bod (wMA X.K Wout D l) (X.pn ++ pins) (fun ev sa => wpAny (model X.prog X.w) X.A (noteFrame ev X.env) (fun _ sb => wpAny (model X.prog X.w) X.A (setFlight ev none) (fun _ sc =>
    wpAny (model X.prog X.w) X.A (handleBy ev X.env (hd0 :: hds)) (SP X pins D) X.xe sc) X.xe sb) X.xe sa) (fun ev sx xx => ?_) PassesOwn.looking).run [] s0 τ H D (J0.toTry _) h) (fun fl sn hsp => ?_) (fun _ _ z => z))
  · obtain ⟨ea, Bs, sJ, pinJ, τJ, HJ, cls, d, rfl, Jt, nbJ, upJ, skJ, naJ, osJ, agJ, wsh⟩ := xx
    have J := Jt.ofTry (pins := pins) okx
    have skE : Sky Bs (X.env :: X.outer) ea (Zc cls d) X.env.locals sx.heap := stk ▸ skJ
    show wpAny (model X.prog X.w) X.A (noteFrame (.ref ea) X.env) _ _ _
    refine Sky.land Zc.steady frA frm skE fun g3 fly upg => ?_
    have J3 : Inv X pins τJ HJ { sx with heap := g3 } := J.landed nbJ fly.1 (upJ.trans upg) osJ agJ
    obtain ⟨eo, ev3, at3, z3, dt3⟩ := fly.there
    have nfr : ea ∉ frs (X.env :: X.outer) := fun hm => by
      obtain ⟨_, ob, obE, hnf⟩ := fly.2.2.1.mem hm
      cases at3.symm.trans obE
      exact hnf _ dt3
    have nL : ea ≠ X.env.locals := fun z => nfr (List.mem_filterMap.mpr ⟨X.env, List.mem_cons_self, by rw [frm, ← z]⟩)
    have nF : ea ∉ X.fs := fun hm => by
      obtain ⟨en, hen, q⟩ := List.mem_filterMap.mp hm
      exact nfr (List.mem_filterMap.mpr ⟨en, List.mem_cons_of_mem _ hen, q⟩)
    have S3 := J3.suite at3 dt3 naJ nL nF
    have go : ∀ {hds' : List ExceptHandler} {l' : List (Value × Nat × Sui)}, HdA X hds' l' → wMA X.K Wout D l' cls d τJ HJ → wpAny (model X.prog X.w) X.A (handleBy (.ref ea) X.env hds') (SP X pins D) X.xe { sx with heap := g3 } := by
      intro hds' l' hk'
      induction hk' with
      | nil =>
        intro wsh
        refine wpAny_handleBy_nil ?_
        obtain ⟨_, _, _, oe, vs, T, oT, ts', he, hz, hd, h1, hr⟩ := id fly
        unfold PySem.passOn
        refine wpAny_bind (wpAny_field he hd h1 ?_)
        rw [if_neg (show ¬ ((Value.ref T == Value.none) = true) by simp)]
        have fin : wpAny (model X.prog X.w) X.A (setFlight (.ref ea) X.env.frame) (fun _ s4 => wpAny (model X.prog X.w) X.A (throw (.ref ea) : Sem Flow) (SP X pins D) X.xe s4) X.xe { sx with heap := g3 } := by
          rw [frm]
          refine PySem.HandSPX.setFlight_upZ fly fun g4 hg4 up4 => wpAny_throw (tk _ _ ?_)
          exact ⟨ea, Bs, sJ, pins, τJ, HJ, cls, d, rfl, J, nbJ, (upJ.trans upg).trans up4, .inr (.inr (by rw [stk]; exact hg4)), naJ, osJ, agJ, wsh⟩
        first | exact wpAny_bind (wpAny_pure (wpAny_bind fin)) | exact wpAny_bind fin
      | @cons x n c i ts b0 suite np ps hd2 l2 nmC at_ kd sui r ih =>
        intro wsh
        obtain ⟨b, eb, yes, no⟩ := wsh
        refine wpAny_handleBy_cons (codeAny_handlers_test ?_) (by intro q; cases q)
        have lT : PySem.W.Looks (model X.prog X.w) g3 (typeOf (.ref ea)) cls := fun _ _ _ _ k q => wpAny_typeOf_ref (k _ _ at3) (by rw [z3.1]; exact q)
        have lM := PySem.W.exm_one (M := model X.prog X.w) J3.kIn lT eb
        have tst : ∀ {Q : Value → Shared → Prop} {E : Value → Shared → Prop}, Q c { sx with heap := g3 } → wpAny (model X.prog X.w) (X.A.mark (some (.ref ea))) (eval (.Name x np) X.env) Q E { sx with heap := g3 } := fun {Q E} q => by
          obtain ⟨hg, hdbg, hm | ⟨hm, hv, hnn⟩⟩ := nmC
          · exact ld_glob (X := X.suite ea ((ea, eo) :: (X.pn ++ pins))) S3 hg hm q hdbg
          · exact ld_blt (X := X.suite ea ((ea, eo) :: (X.pn ++ pins))) S3 hg hm hv q hnn hdbg
        refine tst (lM.here ?_)
        cases b with
        | false => exact ih (no rfl)
        | true =>
          refine codeAny_handlers_suite_as (PySem.HandSPX.lands_againZ fly fun g4 fly4 up4 => ?_)
          have J4 : Inv X pins τJ HJ { sx with heap := g4 } := J.landed nbJ fly4.1 ((upJ.trans upg).trans up4) osJ agJ
          obtain ⟨eo4, ev4, at4, z4, dt4⟩ := fly4.there
          refine store_ok (X := X.suite ea ((ea, eo4) :: (X.pn ++ pins))) (v := .ref ea) (J4.suite at4 dt4 naJ nL nF) nod at_ (.inl kd) rfl (fun s5 S5 => ?_) (.inr kd)
          refine wpAny_mono ((sui ea eo4 cls d (X.pn ++ pins) z4 ⟨_, dt4⟩).run [] s5 _ HJ _ S5 (yes rfl ea naJ)) (fun fl s6 hsp => ?_) (fun _ _ z => False.elim z)
          have done : ∀ {τ6 : L2.St} {H6 : Hp} {Q : Shared → Prop}, Inv (X.suite ea ((ea, eo4) :: (X.pn ++ pins))) [] τ6 H6 s6 → (∀ s7, Inv X pins (τ6.set i none) H6 s7 → Q s7) → wpAny (model X.prog X.w) X.A (do bindName X.env n .none; unbindBehindTheSuite X.env n ps) (fun _ s7 => Q s7) X.xe s6 := fun {τ6 H6 Q} S6 hq => gone_ok (S6.unsuite okx) nod at_ kd hq
          match fl, hsp with
          | .next, ⟨τ6, H6, S6, q6⟩ => exact done S6 fun s7 J7 => ⟨_, _, J7, q6⟩
          | .brk, ⟨τ6, H6, S6, q6⟩ => exact done S6 fun s7 J7 => ⟨_, _, J7, q6⟩
          | .cont, ⟨τ6, H6, S6, q6⟩ => exact done S6 fun s7 J7 => ⟨_, _, J7, q6⟩
          | .ret u, ⟨v6, τ6, H6, S6, r6, q6⟩ => exact done S6 fun s7 J7 => ⟨_, _, _, J7, r6, q6⟩
    exact go hk wsh
  · match fl, hsp with
    | .next, ⟨τ6, H6, J6, q⟩ => exact wpAny_execs_nil ⟨τ6, H6, J6.ofTry okx, q⟩
    | .brk, ⟨τ6, H6, J6, q⟩ => exact ⟨τ6, H6, J6.ofTry okx, q⟩
    | .cont, ⟨τ6, H6, J6, q⟩ => exact ⟨τ6, H6, J6.ofTry okx, q⟩
    | .ret u, ⟨v, τ6, H6, J6, r6, q⟩ => exact ⟨v, τ6, H6, J6.ofTry okx, r6, q⟩
end
end DX
set_option Elab.async false
set_option linter.all false
set_option maxRecDepth 100000
set_option maxHeartbeats 4000000
namespace DX
open PySem PySem.Spec PyProof.Rows L2 DL ClX
/-! ### raise C(..), the fields told by the places of the arguments -/
abbrev FS := List (Str × Nat)
def evF {α : Type} (z : α) (F : FS) (ys : List α) : List (Str × α) := F.map fun p => (p.1, ys.getD p.2 z)
theorem evF_fst {α β : Type} {z : α} {u : β} {F : FS} {ys : List α} {xs : List β} : (evF z F ys).map (·.1) = (evF u F xs).map (·.1) := by
  unfold evF
  rw [List.map_map, List.map_map]
  rfl
theorem reps_ev {K : PySem.W.Frag} {S : Hp} {ds : List D} {vs : List V} (r : Reps K S ds vs) (F : FS) : Reps K S ((evF .non F ds).map (·.2)) ((evF .non F vs).map (·.2)) := by
  induction F with
  | nil => exact Reps.nil
  | cons p F ih =>
    refine Reps.cons ?_ ih
    show Rep K S (ds.getD p.2 .non) (vs.getD p.2 .non)
    rw [List.getD_eq_getElem?_getD, List.getD_eq_getElem?_getD]
    cases h : vs[p.2]? with
    | none =>
      have hl : ds[p.2]? = none := List.getElem?_eq_none_iff.mpr (by rw [← r.length]; exact List.getElem?_eq_none_iff.mp h)
      rw [hl]
      exact rfl
    | some v =>
      obtain ⟨d, hd, rd⟩ := r.get h
      rw [hd]
      exact rd
def spF (n : Nat) (F : FS) (ok : Addr → Prop) : Sp := fun vs H Q E => ∃ (a C : Addr) (ys : List V), vs = .ref a :: ys ∧ ys.length = n ∧ ok C ∧ H a = some (exo a C none) ∧ ∀ da, H da = none → da ≠ a → Q .non (upd (upd H da (exd da (evF .non F ys))) a (exo a C (some da)))
structure XPr (P : Program) (w : World) (K : PySem.W.Frag) (mg : Str → Option Value) (base : Heap) (k : Nat) (f : Addr) (ps : List Str) (dv : List D) (n : Nat) (F : FS) (ok : Addr → Prop) : Prop where
  ex : ∃ fd, FnOk P w K mg base (fun _ _ _ _ _ _ => False) k f fd ps (spF n F ok) ∧ ∀ j, j ≤ dv.length → ∃ dvs ds, Binds K fd ps ds ∧ Dfl K (dv.drop j) dvs ds
  kp : PySem.W.keepIn K (.ref f) = true
def dRaiseF (C : Addr) (n : Nat) (F : FS) (t : DTA) (dv : List D) : DTS := fun _ R σ G => t σ G (fun ds G1 => (ds ++ dv).length = n ∧ R (.ref C) (evF .non F (ds ++ dv)) σ G1) R
section
variable {X : Cx} {W : WX} {C : Addr} {n : Nat} {F : FS} {ok : Addr → Prop} {t : DTA} {dv : List D} {dvs : List V} {ds0 : List Value} {e0 : Expr} {pos' : Pos}
theorem raise_core (cal : X.calm = true) (tk : Takes X W) (okC : ok C) (hn : n ≤ 900) (dfl : Dfl X.K dv dvs ds0) (mk : PMk X e0 (tMkO C (spF n F ok) dvs (liftA X.K W t))) : DS X W (.Raise (some e0) none pos') (dRaiseF C n F t dv) := by
  refine ps_imp (L2.ps_raise cal tk mk) fun D σV H ⟨S, σ, G, N, R, cn, hee, ht, hx, hq⟩ => ?_
  refine ⟨S, σ, G, _, R, cn, hee, ht, hx, fun vs H1 S1 xs G1 a1 r1 q1 => ?_⟩
  obtain ⟨hl, q⟩ := q1
  have rr := r1.app (dfl.rep S1)
  have hlv : (vs ++ dvs).length = n := by rw [rr.length]; exact hl
  refine ⟨by rw [List.length_append] at hlv; omega, fun a na => ⟨a, C, vs ++ dvs, rfl, hlv, okC, upd_same, fun da nda hne => ?_⟩⟩
  have n1 : H1 da = none := by rw [upd_ne hne] at nda; exact nda
  refine ⟨rfl, da, evF .non F (vs ++ dvs), upd_same, by rw [upd_ne hne, upd_same], n1, ?_⟩
  have eH : upd (del (upd (upd (upd H1 a (exo a C none)) da (exd da (evF .non F (vs ++ dvs)))) a (exo a C (some da))) a) da (.xd (evF .non F (vs ++ dvs))) = upd H1 da (.xd (evF .non F (vs ++ dvs))) := by
    funext c
    by_cases h1 : c = da
    · subst h1; rw [upd_same, upd_same]
    · rw [upd_ne h1, upd_ne h1]
      by_cases h2 : c = a
      · subst h2; rw [del_same, na]
      · rw [del_ne h2, upd_ne h2, upd_ne h1, upd_ne h2]
  rw [eH]
  have a2 := a1.cn.junk (o := .xd (evF .non F (vs ++ dvs))) n1
  exact hx (.ref C) (some da) σV _ _ σ (evF .non F (xs ++ dv)) _ (a1.trans a2) (hee.up (a1.trans a2).sub) ⟨evF .non F (vs ++ dvs), upd_same, evF_fst, (reps_ev rr F).up a2.sub⟩ (fun c hc => by
    cases hc
    exact ⟨Classical.byContradiction fun z => a1.there da z n1, a1.cn.freshS n1, a1.cn.freshG n1⟩) q
end
end DX
set_option Elab.async false
set_option linter.all false
set_option maxRecDepth 100000
set_option maxHeartbeats 4000000
namespace DX
open PySem PySem.Spec PyProof.Rows L2 DL ClX
/-! ### the three forms of __init__ -/
section
variable {K : PySem.W.Frag} {newId : String} {bmB : List Value} {f f2 x x2 : Str}
/-- B.__init__(self, ..); self.f = x -/
def okG1 (K : PySem.W.Frag) (newId : String) (bmB : List Value) (f : Str) : Addr → Prop := fun C => OexG K newId bmB C ∧ PySem.W.findIn K (.ref C) f = some none
def tG1 (K : PySem.W.Frag) (newId : String) (bmB : List Value) (f : Str) (te : TE) : TS := tSeq (tDrop (tBI K newId bmB (tCons (tVar 0) (tCons te tNil)))) (tStG K newId bmB f (tVar 0) (tVar 1))
theorem pure_g1 {te : TE} (hte : ∀ (τ : L2.St) (H : Hp) (Q : VK), (∃ a y, τ = start ["self", x] [.ref a, y]) → (∀ v, Q v H) → te τ H Q) (vs : List V) (H : Hp) (Q : VK) (E : XK) (h : spF 1 [(f, 0)] (okG1 K newId bmB f) vs H Q E) :
    tG1 K newId bmB f te { nx := fun _ H' => Q .non H', rt := Q } (start ["self", x] vs) H := by
  obtain ⟨a, C, ys, rfl, hl, ⟨T, no⟩, at_, q⟩ := h
  match ys, hl with
  | [y], _ => exact ⟨_, rfl, hte _ _ _ ⟨a, y, rfl⟩ fun v => ⟨a, C, [v], rfl, by simp, T, at_, _, rfl, _, rfl, a, C, rfl, T, no, .inl ⟨at_, fun da n1 n2 => q da n1 n2⟩⟩⟩
theorem len_g1 {F : FS} {ok : Addr → Prop} {n : Nat} (vs : List V) (H : Hp) (Q : VK) (E : XK) (h : spF n F ok vs H Q E) : vs.length = n + 1 := by
  obtain ⟨a, C, ys, rfl, hl, _⟩ := h
  rw [List.length_cons, hl]
/-- PearlError.__init__(self, why); self.f = x -/
def okW1 (K : PySem.W.Frag) (f : Str) : Addr → Prop := fun C => OexC K C ∧ PySem.W.findIn K (.ref C) "why" = some none ∧ PySem.W.findIn K (.ref C) f = some none
def tW1 (K : PySem.W.Frag) (E : L2.St → XK) (f : Str) : TS := tSeq (tDrop (tCallS (spWhy K) E (tCons (tVar 0) (tCons (tVar 2) tNil)))) (tOst K f (tVar 0) (tVar 1))
theorem pure_w1 (Ew : L2.St → XK) (vs : List V) (H : Hp) (Q : VK) (E : XK) (h : spF 2 [(f, 0), ("why", 1)] (okW1 K f) vs H Q E) :
    tW1 K Ew f { nx := fun _ H' => Q .non H', rt := Q } (start ["self", x, "why"] vs) H := by
  obtain ⟨a, C, ys, rfl, hl, ⟨T, no1, no2⟩, at_, q⟩ := h
  match ys, hl with
  | [y, z], _ =>
    refine ⟨_, rfl, _, rfl, a, C, z, rfl, T, no1, at_, fun da n1 n2 => ?_⟩
    refine ⟨_, rfl, _, rfl, a, C, rfl, T, no2, .inr ⟨da, [("why", z)], upd_same, by rw [upd_ne n2, upd_same], by simp, ?_⟩⟩
    have e : upd (upd (upd H da (exd da [("why", z)])) a (exo a C (some da))) da (exd da [(f, y), ("why", z)]) = upd (upd H da (exd da [(f, y), ("why", z)])) a (exo a C (some da)) := by
      funext c
      by_cases h1 : c = da
      · subst h1; rw [upd_same, upd_ne n2, upd_same]
      · rw [upd_ne h1]
        by_cases h2 : c = a
        · subst h2; rw [upd_same, upd_same]
        · rw [upd_ne h2, upd_ne h1, upd_ne h2, upd_ne h1]
    show Q .non _
    rw [e]
    exact q da n1 n2
/-- C(why) alone -/
def okW0 (K : PySem.W.Frag) : Addr → Prop := fun C => OexC K C ∧ PySem.W.findIn K (.ref C) "why" = some none
theorem why_of (vs : List V) (H : Hp) (Q : VK) (E : XK) (h : spF 1 [("why", 0)] (okW0 K) vs H Q E) : spWhy K vs H Q E := by
  obtain ⟨a, C, ys, rfl, hl, ⟨T, no⟩, at_, q⟩ := h
  match ys, hl with
  | [y], _ => exact ⟨a, C, y, rfl, T, no, at_, fun da n1 n2 => q da n1 n2⟩
end
/-! ### several clauses, over data -/
abbrev DSui := Addr → Value → Option Addr → DTS
def dEndA (i : Nat) (N : DEnds) : DEnds := { nx := fun σ' G' => N.nx (σ'.set i none) G', rt := N.rt, bk := fun σ' G' => N.bk (σ'.set i none) G', ct := fun σ' G' => N.ct (σ'.set i none) G' }
def dMA (K : PySem.W.Frag) (N : DEnds) (R : DXK) : List (Value × Nat × DSui) → DXK
  | [] => R
  | (c, i, th) :: r => fun cls fs σ G => ∃ b, PySem.W.exmOne K cls c = some b ∧ (b = true → ∀ a d, (fs ≠ [] → ∃ dd, d = some dd) → th a cls d (dEndA i N) (fun _ _ _ _ => False) (σ.set i (some (.ref a))) (G ++ xdG d fs)) ∧ (b = false → dMA K N R r cls fs σ G)
def dTryMA (K : PySem.W.Frag) (l : List (Value × Nat × DSui)) (tb : DTS) : DTS := fun N R σ G => tb N (dMA K N R l) σ G
inductive DHd (X : Cx) : List ExceptHandler → List (Value × Nat × DSui) → Prop
  | nil : DHd X [] []
  | cons {x n : Str} {c : Value} {i : Nat} {th : DSui} {b0 : Stmt} {suite : List Stmt} {np ps : Pos} {hds : List ExceptHandler} {l : List (Value × Nat × DSui)} (nmC : Names X x c) (at_ : X.N[i]? = some n) (kd : X.env.kindOf n = some .local)
      (sui : ∀ (a : Addr) (oe : Obj) (cls : Value) (d : Option Addr) (pn : List (Addr × Obj)), Zc cls d oe → (∃ vs, oe.data = .fields vs) → DSs (X.suite a ((a, oe) :: pn)) wX0 (b0 :: suite) (th a cls d)) (r : DHd X hds l) :
      DHd X (.ExceptHandler (some (.Name x np)) (some n) (b0 :: suite) ps :: hds) ((c, i, th) :: l)
theorem xd_aft {K : PySem.W.Frag} {S G H S' G' H'} {dx : Option Addr} {fs : List (Str × D)} (af : Aft K S G H S' G' H') (xr : XRep K S' H' fs dx) (xn : XNew S' G' H dx) : Aft K S G H S' (G' ++ xdG dx fs) H' := by
  cases dx with
  | none =>
    show Aft K S G H S' (G' ++ []) H'
    rw [List.append_nil]
    exact af
  | some dd =>
    obtain ⟨n1, n2, n3⟩ := xn dd rfl
    obtain ⟨fv, f1, f2, f3⟩ := xr
    have hk : ∀ z, z ∈ keysG (G' ++ xdG (some dd) fs) ↔ z ∈ keysG G' ∨ z = dd := fun z => by unfold keysG xdG; simp
    refine ⟨af.sub, ⟨af.cn.sub, ?_, fun z hz => ?_, fun q hq => ?_⟩, fun z o hz hn => ?_, af.old, af.there⟩
    · unfold keysG xdG
      rw [List.map_append, List.nodup_append]
      refine ⟨af.cn.nd, by simp, fun z hz y hy => ?_⟩
      simp at hy
      subst hy
      exact fun e => n3 (by rw [← e]; exact hz)
    · rcases (hk z).mp hz with h | h
      · exact af.cn.sep z h
      · rw [h]; exact n2
    · rcases List.mem_append.mp hq with h | h
      · exact af.cn.cell q h
      · unfold xdG at h
        rw [List.mem_singleton.mp h]
        exact ⟨fv, f1, f2, f3⟩
    · obtain ⟨h1, h2⟩ := af.stp z o hz hn
      refine ⟨h1, fun h => ?_⟩
      rcases (hk z).mp h with h | h
      · exact h2 h
      · rw [h, n1] at hz; cases hz
end DX
set_option Elab.async false
set_option linter.all false
set_option maxRecDepth 100000
set_option maxHeartbeats 4000000
namespace DX
open PySem PySem.Spec PyProof.Rows L2 DL ClX
section
variable {X : Cx} {W : WX} {hd0 : ExceptHandler} {hds : List ExceptHandler} {l : List (Value × Nat × DSui)} {body : List Stmt} {pos : Pos} {tb : DTS}
abbrev liftMA (X : Cx) (l : List (Value × Nat × DSui)) : List (Value × Nat × Sui) := l.map fun p => (p.1, p.2.1, fun a cls d => liftS X.K wX0 (p.2.2 a cls d))
theorem hd_of {hs : List ExceptHandler} (h : DHd X hs l) : HdA X hs (liftMA X l) := by
  induction h with
  | nil => exact .nil
  | cons a b c d r ih => exact .cons a b c d ih
theorem wma_of {De : Ends} {S : Hp} {G : GS} {H : Hp} {N : DEnds} {R : DXK} {cls : Value} {dx : Option Addr} {σV' : L2.St} {H' S' : Hp} {σ' : Ev} {fs : List (Str × D)} {G' : GS} (hx : XOk X.K W S G H R) (hq : EndsOk X.K S G H N De) (af : Aft X.K S G H S' G' H') (er : EnvR X.K S' σ' σV') (xr : XRep X.K S' H' fs dx) (xn : XNew S' G' H dx) :
    ∀ (l : List (Value × Nat × DSui)), dMA X.K N R l cls fs σ' G' → wMA X.K W De (liftMA X l) cls dx σV' H'
  | [], q => hx cls dx σV' H' S' σ' fs G' af er xr xn q
  | (c, i, th) :: r, ⟨b, hb1, hyes, hno⟩ => by
    have hG := xd_aft af xr xn
    refine ⟨b, hb1, fun e a ha => ?_, fun e => wma_of hx hq af er xr xn r (hno e)⟩
    have hdd : fs ≠ [] → ∃ dd, dx = some dd := fun hne => by
      cases dx with
      | none => exact absurd xr hne
      | some dd => exact ⟨dd, rfl⟩
    exact ⟨S', σ'.set i (some (.ref a)), G' ++ xdG dx fs, _, _, hG.cn, er.set (d := .ref a) (v := .ref a) rfl i, hyes e a dx hdd, fun _ _ _ _ _ _ _ _ _ _ _ _ z => z.elim, ⟨fun σV2 H2 S2 σ2 G2 a2 e2 q2 => hq.nx _ H2 S2 _ G2 (hG.trans a2) (e2.unset i) q2, fun v H2 S2 d2 G2 a2 r2 q2 => hq.rt v H2 S2 d2 G2 (hG.trans a2) r2 q2, fun σV2 H2 S2 σ2 G2 a2 e2 q2 => hq.bk _ H2 S2 _ G2 (hG.trans a2) (e2.unset i) q2, fun σV2 H2 S2 σ2 G2 a2 e2 q2 => hq.ct _ H2 S2 _ G2 (hG.trans a2) (e2.unset i) q2⟩⟩
theorem ds_tryMA (hs : X.stack = X.env :: X.outer) (hf : X.env.frame = some X.env.locals) (hN : X.N.Nodup) (tk : Takes X W)
    (hb : ∀ (W' : WX) (pn : List (Addr × Obj)) (xe : Value → Shared → Prop), Takes (X.tr pn xe) W' → PassesOwn (model X.prog X.w) X.A X.env xe → DSs (X.tr pn xe) W' body tb)
    (hk : DHd X (hd0 :: hds) l) : DS X W (.Try body (hd0 :: hds) [] [] pos) (dTryMA X.K l tb) :=
  ps_imp (ps_tryMA (Wout := W) (tb := fun W' => liftS X.K W' tb) hs hf hN tk hb (hd_of hk)) fun D σV H ⟨S, σ, G, N, R, cn, hee, ht, hx, hq⟩ => by
    refine ⟨S, σ, G, N, _, cn, hee, ht, fun cls dx σV' H' S' σ' fs G' af er xr xn q => ?_, hq⟩
    exact wma_of hx hq af er xr xn l q
end
section
variable {K : PySem.W.Frag} {σ : Ev} {G : GS} {N : DEnds} {R : DXK} {tb : DTS} {l : List (Value × Nat × DSui)} {C : Addr} {n : Nat} {F : FS} {t : DTA} {dv : List D}
theorem r_tryMA : dTryMA K l tb N R σ G = tb N (dMA K N R l) σ G := propext Iff.rfl
theorem r_raiseF : dRaiseF C n F t dv N R σ G = t σ G (fun ds G1 => (ds ++ dv).length = n ∧ R (.ref C) (evF .non F (ds ++ dv)) σ G1) R := propext Iff.rfl
end
end DX
set_option Elab.async false
set_option linter.all false
set_option maxRecDepth 100000
set_option maxHeartbeats 4000000
namespace DX
open PySem PySem.Spec PyProof.Rows L2 DL ClX
/-! ### bases, by name -/
def bmIx : List Value := [.type "IndexError", .type "LookupError", .type "Exception", .type "BaseException", .type "object"]
def bmLk : List Value := [.type "LookupError", .type "Exception", .type "BaseException", .type "object"]
def bmZd : List Value := [.type "ZeroDivisionError", .type "ArithmeticError", .type "Exception", .type "BaseException", .type "object"]
theorem base_IndexError : BaseF "IndexError" "IndexError.__new__" "IndexError.__init__" bmIx := ⟨PySem.F.excBase_IndexError, PySem.F.store_IndexError.passes, by decide +kernel, rfl⟩
theorem base_LookupError : BaseF "LookupError" "LookupError.__new__" "LookupError.__init__" bmLk := ⟨PySem.F.excBase_LookupError, PySem.F.store_LookupError.passes, by decide +kernel, rfl⟩
theorem base_ZeroDivisionError : BaseF "ZeroDivisionError" "ZeroDivisionError.__new__" "ZeroDivisionError.__init__" bmZd := ⟨PySem.F.excBase_ZeroDivisionError, PySem.F.store_ZeroDivisionError.passes, by decide +kernel, rfl⟩
theorem ty_IndexError : typeOf (.type "IndexError") = pure (.type "type") := by kernel_rfl
theorem ty_LookupError : typeOf (.type "LookupError") = pure (.type "type") := by kernel_rfl
theorem ty_ZeroDivisionError : typeOf (.type "ZeroDivisionError") = pure (.type "type") := by kernel_rfl
theorem bt_ZeroDivisionError : bootBuiltins "ZeroDivisionError" = some (.type "ZeroDivisionError") := by decide +kernel
/-! ### the head's checks -/
def oexgB (K : PySem.W.Frag) (newId : String) (bmB : List Value) (C : Addr) : Bool := (match K.lookup C with
  | some ⟨.type "type", _, .cls cd, sl⟩ => (match cd.mro, sl.toList with
    | .ref C' :: bm, [_, _, _, _, some (.builtin n), _] => C' == C && (n == newId && (!cd.hasDel && (cd.hasDict && tailB bmB bm)))
    | _, _ => false)
  | _ => false) && (decide (PySem.W.findIn K (.ref C) "__setattr__" = some (some (.builtin "object.__setattr__"))) && (decide (PySem.W.subIn K (.ref C) (.type "BaseException") = some true) && (decide (PySem.W.typeIn K (.ref C) = some (.type "type")) && PySem.W.keepIn K (.ref C))))
theorem oexgB_ok {K : PySem.W.Frag} {newId : String} {bmB : List Value} {C : Addr} (h : oexgB K newId bmB C = true) : OexG K newId bmB C := by
  obtain ⟨h1, h⟩ := Bool.and_eq_true_iff.mp h
  obtain ⟨h2, h⟩ := Bool.and_eq_true_iff.mp h
  obtain ⟨h3, h⟩ := Bool.and_eq_true_iff.mp h
  obtain ⟨h4, h5⟩ := Bool.and_eq_true_iff.mp h
  refine ⟨?_, of_decide_eq_true h2, of_decide_eq_true h3, of_decide_eq_true h4, h5⟩
  split at h1
  · rename_i dct cd sl hl
    split at h1
    · rename_i C' bm k0 k1 k2 k3 n k5 hm hs
      obtain ⟨g1, h1⟩ := Bool.and_eq_true_iff.mp h1
      obtain ⟨g2, h1⟩ := Bool.and_eq_true_iff.mp h1
      obtain ⟨g3, h1⟩ := Bool.and_eq_true_iff.mp h1
      obtain ⟨g4, g5⟩ := Bool.and_eq_true_iff.mp h1
      have e1 : C' = C := by simpa using g1
      have e2 : n = newId := by simpa using g2
      have e3 : cd.hasDel = false := by simpa using g3
      subst e1 e2
      have es : sl = #[k0, k1, k2, k3, some (.builtin n), k5] := by
        rw [← Array.toList_inj, hs]
      subst es
      obtain ⟨nm, bs, mro, N, q, hd, sn, sub, ab, col, hdel⟩ := cd
      dsimp only at hm g4 e3
      subst hm g4 e3
      exact ⟨nm, q, N, bs, bm, sn, sub, ab, col, dct, k0, k1, k2, k3, k5, hl, g5⟩
    · cases h1
  · cases h1
def biniB (K : PySem.W.Frag) (B ini : String) : Bool := match PySem.W.findCls K (.type B) (.type "type") "__init__" with
  | some (.val (.builtin n)) => n == ini
  | _ => false
theorem biniB_ok {K : PySem.W.Frag} {B ini : String} (h : biniB K B ini = true) : PySem.W.findCls K (.type B) (.type "type") "__init__" = some (.val (.builtin ini)) := by
  unfold biniB at h
  split at h
  · rename_i n e
    rw [e, eq_of_beq h]
  · cases h
def creadB (K : PySem.W.Frag) (C : Addr) : Bool := PySem.W.readsIn K C (.type "type") && decide (PySem.W.specialIn K (.ref C) "__getattribute__" = some (some (.builtin "type.__getattribute__")))
theorem creadB_ok {K : PySem.W.Frag} {C : Addr} (h : creadB K C = true) : CRead K C (.type "type") := by
  obtain ⟨h1, h2⟩ := Bool.and_eq_true_iff.mp h
  exact ⟨h1, of_decide_eq_true h2⟩
def cvalB (K : PySem.W.Frag) (C : Addr) (m : Str) (g : Addr) : Bool := match PySem.W.findCls K (.ref C) (.type "type") m with
  | some (.val (.ref g')) => g' == g
  | _ => false
theorem cvalB_ok {K : PySem.W.Frag} {C : Addr} {m : Str} {g : Addr} (h : cvalB K C m g = true) : CVal K C (.type "type") m (.ref g) (.ref g) := by
  unfold cvalB at h
  split at h
  · rename_i g' e
    exact ⟨by rw [e, eq_of_beq h], rfl⟩
  · cases h
/-- what the text tells of a class raised with C(..): under any base, under ValueError -/
structure RaiG (K : PySem.W.Frag) (newId : String) (bmB : List Value) (C fI : Addr) (nos : List Str) : Prop where
  oex : OexG K newId bmB C
  ini : PySem.W.findIn K (.ref C) "__init__" = some (some (.ref fI))
  fn : PySem.W.typeIn K (.ref fI) = some (.type "function")
  no : ∀ f ∈ nos, PySem.W.findIn K (.ref C) f = some none
structure RaiO (K : PySem.W.Frag) (C fI : Addr) (nos : List Str) : Prop where
  oex : OexC K C
  ini : PySem.W.findIn K (.ref C) "__init__" = some (some (.ref fI))
  fn : PySem.W.typeIn K (.ref fI) = some (.type "function")
  no : ∀ f ∈ nos, PySem.W.findIn K (.ref C) f = some none
def iniB (K : PySem.W.Frag) (C fI : Addr) (nos : List Str) : Bool := decide (PySem.W.findIn K (.ref C) "__init__" = some (some (.ref fI))) && (decide (PySem.W.typeIn K (.ref fI) = some (.type "function")) && nos.all fun f => decide (PySem.W.findIn K (.ref C) f = some none))
def raigB (K : PySem.W.Frag) (newId : String) (bmB : List Value) (C fI : Addr) (nos : List Str) : Bool := oexgB K newId bmB C && iniB K C fI nos
def raioB (K : PySem.W.Frag) (C fI : Addr) (nos : List Str) : Bool := oexB K C && iniB K C fI nos
theorem raigB_ok {K : PySem.W.Frag} {newId : String} {bmB : List Value} {C fI : Addr} {nos : List Str} (h : raigB K newId bmB C fI nos = true) : RaiG K newId bmB C fI nos := by
  obtain ⟨h1, h⟩ := Bool.and_eq_true_iff.mp h
  obtain ⟨h2, h⟩ := Bool.and_eq_true_iff.mp h
  obtain ⟨h3, h4⟩ := Bool.and_eq_true_iff.mp h
  exact ⟨oexgB_ok h1, of_decide_eq_true h2, of_decide_eq_true h3, fun f hf => of_decide_eq_true (List.all_eq_true.mp h4 f hf)⟩
theorem raioB_ok {K : PySem.W.Frag} {C fI : Addr} {nos : List Str} (h : raioB K C fI nos = true) : RaiO K C fI nos := by
  obtain ⟨h1, h⟩ := Bool.and_eq_true_iff.mp h
  obtain ⟨h2, h⟩ := Bool.and_eq_true_iff.mp h
  obtain ⟨h3, h4⟩ := Bool.and_eq_true_iff.mp h
  exact ⟨oexB_ok h1, of_decide_eq_true h2, of_decide_eq_true h3, fun f hf => of_decide_eq_true (List.all_eq_true.mp h4 f hf)⟩
/-! ### len of an instance, by its own def -/
section
variable {X : Cx} {n : Nat} {C g : Addr} {fd : FuncData} {ps : List Str} {sp : DSp}
theorem own_lenL {A : Around} {pins : List (Addr × Obj)} {s : Shared} {σ : L2.St} {H : Hp} {x : V} {u : Value} {k : Nat} (o : OwnM X.K C "__len__" g) (F : FnD X.prog X.w X.K X.mg X.base n g fd ps sp) (hb : Binds X.K fd ps []) (sb : SubG X (n + 1) A) (I : Inv X pins σ H s) (rx : RelV x u)
    (ix : IsInsV C x H) (hk : k < 2 ^ 62) (h : OwnS X.K sp x H (.int k)) : wpAny (model X.prog X.w) A (call (.builtin "len") [u]) (fun r s' => (∃ t, r = .int k t) ∧ ∃ H', Inv X pins σ H' s' ∧ Ext H H') X.xe s := by
  have runX := own_runS F hb sb.in1 I rx h
  obtain ⟨a, dx, fs, rfl, ha⟩ := ix
  cases rx
  obtain ⟨mA, J, _⟩ := ins_get I.hok ha
  obtain ⟨od, J, _⟩ := J.look
  refine Calls.call_function_entry PySem.kind_len PySem.plain_len PySem.entry_len (PySem.args_len1 _) ?_
  unfold Builtin.«len»
  refine wpAny_bind (m := oneArg "len" _) (wpAny_pure ?_)
  unfold callSpecial?
  refine wpAny_bind (wpAny_bind (wpAny_bind (J.type.here ((PySem.W.looks_findIn I.kIn o.at_).here ?_))))
  refine wpAny_holding ?_
  refine wpAny_bind ((PySem.W.bind_fn I.kIn (.ref a) (beq_iff_eq.mp o.fn)).here ?_)
  refine wpAny_bind (wpAny_mono runX (fun v s' hv => ?_) fun _ _ e => e)
  obtain ⟨⟨S, y, ry, rv⟩, H', I', e⟩ := hv
  obtain rfl : y = .int k := ry
  obtain ⟨t, rfl⟩ := rv
  have n1 : ¬ ((k : Int) < 0) := by omega
  have n2 : ¬ ((k : Int) ≥ 2 ^ 63) := by omega
  wp_walk
  rw [if_neg n2]
  show wpAny _ _ (retInt (k : Int)) _ _ _
  unfold retInt
  exact wpAny_bind (wpAny_mkInt (wpAny_pure ⟨_, rfl, ⟨_, rfl⟩, H', I'.tok _, e⟩))
def rLenO (K : PySem.W.Frag) (C : Addr) (sp : DSp) : List V → Hp → VK → Prop := fun xs H Q => ∃ (x : V) (z : Nat), xs = [x] ∧ IsInsV C x H ∧ z < 2 ^ 62 ∧ OwnS K sp x H (.int z) ∧ ∀ H', Ext H H' → Q (.int z) H'
theorem call_lenO (o : OwnM X.K C "__len__" g) (F : FnD X.prog X.w X.K X.mg X.base n g fd ps sp) (hb : Binds X.K fd ps []) (hr : RoomG (n + 1) X.A) : CallR X (.builtin "len") (rLenO X.K C sp) := by
  intro pins s σ H xs us Q I r h
  obtain ⟨x, z, rfl, ix, hz, hs, q⟩ := h
  cases r with
  | cons rx rr =>
    cases rr
    exact wpAny_mono (own_lenL o F hb ⟨hr, rfl⟩ I rx ix hz hs) (fun r s' hv => by
      obtain ⟨⟨t, rfl⟩, H', I', e⟩ := hv
      exact ⟨.int z, H', I', ⟨t, rfl⟩, q H' e⟩) fun _ _ e => e
def dLenO (C : Addr) (sp : DSp) : DCo := fun ds G Q => ∃ (x : D) (z : Nat), ds = [x] ∧ DIn C x ∧ z < 2 ^ 62 ∧ sp [x] [] (fun r G' => r = .int z ∧ G' = []) dE0 ∧ Q (.int z) G
theorem cd_lenO (o : OwnM X.K C "__len__" g) (F : Pm X.prog X.w X.K X.mg X.base n g ps [] sp) (hr : RoomG (n + 1) X.A) : CalD X (.builtin "len") (dLenO C sp) := by
  obtain ⟨fd, h1, h2⟩ := pm_nil F
  refine CalD.mk (call_lenO o h1 h2 hr) fun S G H xs vs Q P hc r ho hq => ?_
  obtain ⟨x, z, rfl, hd, hz, hs, q⟩ := ho
  obtain ⟨v, r', rfl, rv, rfl⟩ := r
  exact ⟨v, z, rfl, hd.v hc rv, hz, ⟨S, x, hc.emp, rv, hs⟩, fun H' e => hq _ _ _ (.int z) _ (hc.extA e) rfl q⟩
end
end DX
set_option Elab.async false
set_option linter.all false
set_option maxRecDepth 100000
set_option maxHeartbeats 4000000
namespace DX
open PySem PySem.Spec PyProof.Rows L2 DL ClX
/-! ### raise C(..), over data -/
section
variable {X : Cx} {W : WX} {k n : Nat} {f C : Addr} {ps : List Str} {F : FS} {ok : Addr → Prop} {x : Str} {p pos pos' : Pos} {e : Expr} {es : List Expr} {t : DTA} {dv : List D} {nos : List Str} {B newId ini : String} {bmB : List Value}
theorem ds_raiseO (cal : X.calm = true) (tk : Takes X W) (T : RaiO X.K C f nos) (okC : ok C) (F1 : XPr X.prog X.w X.K X.mg X.base k f ps dv n F ok) (j : Nat) (hr : RoomG (k + 1) X.A) (hg : Gl X x) (hm : X.mg x = some (.ref C)) (ha : DA X W (e :: es) t) (hn : n ≤ 900 := by decide) (hj : j ≤ dv.length := by decide)
    (hdb : (x == ("__debug__" : Str)) = false := by decide) (he : starEach (e :: es) X.env = (false, eval e X.env) :: starEach es X.env := by rfl) (hpl : (backTo pos (starEach es X.env)).any (·.1) = false := by rfl) :
    DS X W (.Raise (some (.Call (.Name x p) (e :: es) [] pos)) none pos') (dRaiseF C n F t (dv.drop j)) := by
  obtain ⟨fd, h1, h2⟩ := F1.ex
  obtain ⟨dvs, ds, hb, hd⟩ := h2 j hj
  exact raise_core cal tk okC hn hd (pmk_oex (pos := pos) T.oex T.ini T.fn h1 hr.rm hb hd.val (fun _ _ _ _ _ _ _ z => z.elim) hg hm ha hdb he hpl)
theorem ds_raiseG (b : BaseF B newId ini bmB) (cal : X.calm = true) (tk : Takes X W) (T : RaiG X.K newId bmB C f nos) (okC : ok C) (F1 : XPr X.prog X.w X.K X.mg X.base k f ps dv n F ok) (j : Nat) (hr : RoomG (k + 1) X.A) (hg : Gl X x) (hm : X.mg x = some (.ref C)) (ha : DA X W (e :: es) t) (hn : n ≤ 900 := by decide) (hj : j ≤ dv.length := by decide)
    (hdb : (x == ("__debug__" : Str)) = false := by decide) (he : starEach (e :: es) X.env = (false, eval e X.env) :: starEach es X.env := by rfl) (hpl : (backTo pos (starEach es X.env)).any (·.1) = false := by rfl) :
    DS X W (.Raise (some (.Call (.Name x p) (e :: es) [] pos)) none pos') (dRaiseF C n F t (dv.drop j)) := by
  obtain ⟨fd, h1, h2⟩ := F1.ex
  obtain ⟨dvs, ds, hb, hd⟩ := h2 j hj
  exact raise_core cal tk okC hn hd (pmk_g b T.oex T.ini T.fn h1 hr.rm hb hd.val (fun _ _ _ _ _ _ _ z => z.elim) hg hm ha hdb he hpl)
end
section
variable {P : Program} {w : World} {K : PySem.W.Frag} {mg : Str → Option Value} {base : Heap} {x qual a fld : Str} {st : Stmt} {dvs : List V} {kws : List (Str × V)} {f : Addr} {fd : FuncData} {ps : List Str} {k n : Nat} {F : FS} {ok : Addr → Prop} {newId : String} {bmB : List Value}
theorem XPr.of0 (Fd : FunD K x qual (defArgs st) (defBody st) (defScope st) [] kws f fd) (h : FnOk P w K mg base (fun _ _ _ _ _ _ => False) k f fd ps (spF n F ok))
    (hb : ∀ (kV doc pm : Value) (an : Option Addr) (cdv ct : Value) (us : List Value), us.length = ps.length → bindArgs (PySem.W.fnOf x qual (defArgs st) (defBody st) (defScope st) .none kV doc pm an cdv ct) ⟨us, []⟩ = pure (ps.zip us)) : XPr P w K mg base k f ps [] n F ok :=
  ⟨⟨fd, h, fun j hj => ⟨[], [], Fd.bindsN hb, by simpa using Dfl.nil⟩⟩, Fd.kp⟩
theorem XPr.fnG (Fd : FunD K x qual (defArgs st) (defBody st) (defScope st) dvs kws f fd) (S : FnScope ["self", a] ["self", a] (defScope st)) {te : TE} (hte : ∀ (τ : L2.St) (H : Hp) (Q : VK), (∃ z y, τ = start ["self", a] [.ref z, y]) → (∀ v, Q v H) → te τ H Q)
    (hb : ∀ (cdv : Value) (A : Around) (outer : List Env) (s : Shared) (H : Hp) (E : XK), PSs (cxOf (fun _ _ _ _ _ _ => False) P w K mg base ["self", a] qual (defScope st) f cdv A outer s H E) (defBody st) (tG1 K newId bmB fld te)) : FnOk P w K mg base (fun _ _ _ _ _ _ => False) 1 f fd ["self", a] (spF 1 [(fld, 0)] (okG1 K newId bmB fld)) :=
  Fd.ok S (fun vs H Q E h => len_g1 vs H Q E h) fun cdv A outer s H vs Q E hr h => ⟨_, hb cdv A outer s H E, pure_g1 hte vs H Q E h⟩
theorem XPr.fnW (Fd : FunD K x qual (defArgs st) (defBody st) (defScope st) dvs kws f fd) (S : FnScope ["self", a, "why"] ["self", a, "why"] (defScope st)) (Ew : L2.St → XK)
    (hb : ∀ (cdv : Value) (A : Around) (outer : List Env) (s : Shared) (H : Hp) (E : XK), Room 2 (A.deeper (envOfC qual (defScope st) s.heap.objs.size f cdv)) → PSs (cxOf (fun _ _ _ _ _ _ => False) P w K mg base ["self", a, "why"] qual (defScope st) f cdv A outer s H E) (defBody st) (tW1 K Ew fld)) : FnOk P w K mg base (fun _ _ _ _ _ _ => False) 3 f fd ["self", a, "why"] (spF 2 [(fld, 0), ("why", 1)] (okW1 K fld)) :=
  Fd.ok S (fun vs H Q E h => len_g1 vs H Q E h) fun cdv A outer s H vs Q E hr h => ⟨_, hb cdv A outer s H E hr, pure_w1 Ew vs H Q E h⟩
theorem WhyI.nil {dv : List D} (F : WhyI P w K mg base k f dv) : ∃ fd, FnOk P w K mg base (fun _ _ _ _ _ _ => False) k f fd ["self", "why"] (spWhy K) ∧ Binds K fd ["self", "why"] [] := by
  obtain ⟨fd, h1, h2⟩ := F.ex
  obtain ⟨dvs, ds, hb, hd⟩ := h2 dv.length (Nat.le_refl _)
  rw [List.drop_length] at hd
  have e1 : dvs = [] := hd.rep (fun _ => none)
  subst e1
  have e2 : ds = [] := by cases hd.val; rfl
  subst e2
  exact ⟨fd, h1, hb⟩
end
/-! ### o.m(a=..), no places -/
def dMethN (C : Addr) (m : Str) (sp : DSp) (to : DTE) (l : Nat) (pm : List Nat) (dv : List D) (tk : DTA) : DTE := fun σ G Q R => to σ G (fun o G1 => (∃ ns vs, isIns C o G1 ns vs ∧ m ∉ ns) ∧ tk σ G1 (fun zs G2 => pkN sp 1 l pm dv [o] zs σ G2 Q R) R) R
section
variable {X : Cx} {W : WX} {k : Nat} {f C : Addr} {ps ks : List Str} {sp : DSp} {m : Str} {apos pos : Pos} {o : Expr} {kws : List Keyword} {to : DTE} {tk : DTA} {dv : List D} {pm : List Nat}
theorem de_methN0 {pl : Sem Bool} (he : DE X W o to) (c : Cls X.K C) (hm : Meth X.K C m f) (F : PmN X.prog X.w X.K X.mg X.base k f ps 1 ks pm dv sp) (hr : RoomG k X.A) (tt : Takes X W) (hkw : DKw X W kws tk)
    (hall : (backToKw pos (keywordEach kws X.env)).all (·.1.isSome) = true := by rfl) (hks : (backToKw pos (keywordEach kws X.env)).filterMap (·.1) = ks := by rfl)
    (hpl : ((backTo pos (starEach [] X.env)).any (·.1) || (backToKw pos (keywordEach kws X.env)).any (·.1.isNone)) = false := by rfl)
    (ht : eval (.Call (.Attribute o m apos) [] kws pos) X.env = (do
      let ov ← eval o X.env
      standAt apos.atName
      let (f, first) ← holding [ov] (getMethod ov m pl)
      callWith pos f first (backTo pos (starEach [] X.env)) (backToKw pos (keywordEach kws X.env))) := by rfl) :
    DE X W (.Call (.Attribute o m apos) [] kws pos) (dMethN C m sp to ks.length pm dv tk) := by
  refine ⟨fun pins s σV H Pq I h => ?_⟩
  obtain ⟨S, σ, G, Q, R, hc, hee, hto, hx, hq⟩ := h
  obtain ⟨fd, F1, dvs, ds, hdf, hb⟩ := F.ex
  refine PySem.W.methodCall_KW (pl := pl) (thn (he.run pins s σV H (fun v H1 => ∃ a dx fs, v = .ref a ∧ H1 a = some (.ins C dx fs) ∧ fs.lookup m = none ∧ liftA X.K W tk σV H1 (fun zs H2 => zs.length = ks.length ∧ conc X.K sp (pick pm ([v] ++ (zs ++ dvs))) H2 Pq (WE W σV))) I ⟨S, σ, G, _, R, hc, hee, hto, hx, fun v H1 S1 d G1 a1 r1 q1 => ?_⟩) fun u s1 ⟨v, H1, I1, rx, a, dx, fs, ex, ea, l, q⟩ => ?_) ht
  · obtain ⟨⟨ns, vs, hi, hm'⟩, q⟩ := q1
    obtain ⟨a, dx, fs, rfl, h4, h5, h6⟩ := ins_of a1.cn r1 hi
    refine ⟨a, dx, fs, rfl, h4, lookup_none (by rw [h5]; exact hm'), S1, σ, G1, _, R, a1.cn, hee.up a1.sub, q, hx.aft a1, fun zs H2 S2 zd G2 a2 r2 q2 => ?_⟩
    obtain ⟨_, l2, q2⟩ := q2
    exact ⟨r2.length.trans l2, run_conc a2.cn (hee.up (a1.trans a2).sub) (hx.aft (a1.trans a2)) (reps_pick ((Reps.cons (r1.up a2.sub) Reps.nil).app (r2.app (hdf.rep S2))) pm) q2 fun v H3 S3 d3 G3 a3 r3 q3 => hq v H3 S3 d3 G3 ((a1.trans a2).trans a3) r3 q3⟩
  · subst ex
    obtain rfl : u = Value.ref a := rx
    refine getmeth_ok I1 ea c hm l ?_
    refine PySem.W.callWith_KW0 (first := [.ref a]) (h₀ := X.base) I.ok.mod.kin F.kp hall (thn (hkw.run pos pins s1 σV H1 _ I1 q) fun ws s2 ⟨zs, H2, I2, rz, l2, q2⟩ => ⟨I2.kIn, ?_⟩) hpl
    rw [hks]
    exact runN (us := [.ref a]) (vs := [.ref a]) F1 hr hb hdf.val tt I2 (.cons rfl .nil) rz rfl l2 q2
end
theorem r_methN {C : Addr} {m : Str} {sp : DSp} {to : DTE} {l : Nat} {pm : List Nat} {dv : List D} {tk : DTA} {σ : Ev} {G : GS} {Q : DK} {R : DXK} : dMethN C m sp to l pm dv tk σ G Q R = to σ G (fun o G1 => (∃ ns vs, isIns C o G1 ns vs ∧ m ∉ ns) ∧ tk σ G1 (fun zs G2 => pkN sp 1 l pm dv [o] zs σ G2 Q R) R) R := propext Iff.rfl
end DX
set_option Elab.async false
set_option linter.all false
set_option maxRecDepth 100000
set_option maxHeartbeats 4000000
/-! ### enumerate over a tuple -/
namespace DEn
open PySem
open PySem.Sem (wp)
open AutoSeq1 (wpAny_loadPart')
section
variable {prog : Program} {w : World} {A : Around} {E : Value → Shared → Prop} {s : Shared}
theorem new_ok (tu : Addr) (its : Array Value) (ob : Obj) (hc : ob.cls = .type "tuple") (hd : ∃ n, ob.data = .seq its n) :
    Meets (Builtin.«enumerate.__new__» ⟨[.type "enumerate", .ref tu], []⟩) (fun _ R s => s.heap.get? tu = some ob ∧
      R (.ok (.ret (.ref (s.heap.objs.size + 1)))) { s with heap := (s.heap.push { cls := .type "tuple_iterator", data := .fields #[.ref tu, .int 0 0] }).push { cls := .type "enumerate", data := .fields #[.none, .bool false, .ref s.heap.objs.size, rawInt 0, .none, .none] } }) :=
  .of_wp fun prog w A R s hyp => by
    obtain ⟨hp, gs, dr, tk, osx⟩ := s
    obtain ⟨hl, hR⟩ := hyp
    have hR' : R (.ok (.ret (.ref (hp.push { cls := .type "tuple_iterator", data := .fields #[.ref tu, .int 0 0] }).objs.size))) ⟨(hp.push { cls := .type "tuple_iterator", data := .fields #[.ref tu, .int 0 0] }).push { cls := .type "enumerate", data := .fields #[.none, .bool false, .ref hp.objs.size, rawInt 0, .none, .none] }, gs, dr, tk, osx⟩ := by
      rw [Heap.size_push]
      exact hR
    clear hR
    have hsb := sub_enumerate
    have hT : Heap.IsTuple (Shared.heap ⟨hp, gs, dr, tk, osx⟩) tu its := ⟨ob, hl, hc, hd⟩
    wp_walk using wpAny_loadPart' hl
    refine wpAny_stack_any fun st0 => wpAny_pure ?_
    split
    · rename_i c _ _ _ _ _
      cases (c == Value.type "enumerate") <;> (wp_walk using wpAny_loadPart' hl, wpAny_pyIter_tuple hT; exact ⟨_, rfl, hR'⟩)
    · wp_walk using wpAny_loadPart' hl, wpAny_pyIter_tuple hT
      exact ⟨_, rfl, hR'⟩
theorem call_ok {tu : Addr} {its : Array Value} {Q : Value → Shared → Prop} (hT : s.heap.IsTuple tu its)
    (k : ∀ h2, IsEnum h2 (s.heap.objs.size + 1) s.heap.objs.size 0 .none → h2.IsTupleIter s.heap.objs.size tu 0 → (∀ b o, s.heap.get? b = some o → h2.get? b = some o) → Q (.ref (s.heap.objs.size + 1)) { s with heap := h2 }) :
    wpAny (model prog w) A (call (.type "enumerate") [.ref tu]) Q E s := by
  obtain ⟨ob, hl, hc, hd⟩ := hT
  refine callType_new F.called_enumerate (by decide) (F.typeCall_enumerate_1 _) (F.newCall_enumerate_1 _) (fun z => F.args_object_init_2 z _) F.entry_enumerate_new (new_ok tu its ob hc hd) ⟨hl, ?_⟩
  have hz : (s.heap.push { cls := .type "tuple_iterator", data := .fields #[.ref tu, .int 0 0] }).objs.size = s.heap.objs.size + 1 := Heap.size_push ..
  have he : IsEnum ((s.heap.push { cls := .type "tuple_iterator", data := .fields #[.ref tu, .int 0 0] }).push { cls := .type "enumerate", data := .fields #[.none, .bool false, .ref s.heap.objs.size, rawInt 0, .none, .none] }) (s.heap.objs.size + 1) s.heap.objs.size 0 .none := by
    have q := Heap.get?_push_size (s.heap.push { cls := .type "tuple_iterator", data := .fields #[.ref tu, .int 0 0] }) (o := { cls := .type "enumerate", data := .fields #[.none, .bool false, .ref s.heap.objs.size, rawInt 0, .none, .none] }) rfl
    rwa [hz] at q
  exact ⟨⟨_, he, rfl⟩, k _ he ⟨_, Heap.get?_push_of_some _ (Heap.get?_push_size _ rfl), rfl, rfl⟩ fun b o x => Heap.get?_push_of_some _ (Heap.get?_push_of_some _ x)⟩
theorem kept {it tu x : Addr} {i : Nat} {h h2 : Heap} (hi : h.IsTupleIter it tu i) (k : Heap.SameBut x h h2) (ne : it ≠ x) : h2.IsTupleIter it tu i := hi.extBut k.extBut ne
theorem next_ok {en it tu : Addr} {i : Nat} {its : Array Value} {x pre : Value} {Q : Value → Shared → Prop}
    (he : IsEnum s.heap en it i pre) (hi : s.heap.IsTupleIter it tu i) (hT : s.heap.IsTuple tu its) (hx : its[i]? = some x) (ne : en ≠ it)
    (k : ∀ h2, IsEnumOut h2 en it ((i : Int) + 1) x s.heap.objs.size → h2.IsTupleIter it tu (i + 1) → h2.get? s.heap.objs.size = some { cls := .type "tuple", data := .seq #[.int i s.toks, x] } →
      (∀ b o, b ≠ en → b ≠ it → s.heap.get? b = some o → h2.get? b = some o) → Q (.ref s.heap.objs.size) { s with heap := h2, toks := s.toks + 1 }) :
    wpAny (model prog w) A (Builtin.«enumerate.__next__» ⟨[.ref en], []⟩) (fun fin s' => ∃ v, fin = .done (.ret v) ∧ Q v s') E s := by
  obtain ⟨hp, gs, dr, tk, osx⟩ := s
  have en' : it ≠ en := fun z => ne z.symm
  have hlt : en < hp.objs.size := Heap.lt_size he
  show wpAny _ _ (field (.ref en) 2 >>= _) _ _ _
  refine wpAny_bind (wpAny_field he rfl (x := .ref it) rfl (wpAny_bind (RZ.nextOf_tuple_item hi hT hx fun ha hia ka => ?_)))
  have ka : Heap.SameBut it hp ha := ka
  have hea : IsEnum ha en it i pre := (ka.2 en ne).trans he
  show wpAny _ _ (field (.ref en) 3 >>= _) _ _ ⟨ha, gs, dr, tk, osx⟩
  refine wpAny_bind (wpAny_field hea rfl (x := rawInt i) rfl ?_)
  show wpAny _ _ (field (.ref en) 4 >>= _) _ _ ⟨ha, gs, dr, tk, osx⟩
  refine wpAny_bind (wpAny_field hea rfl (x := .none) rfl ?_)
  show wpAny _ _ (mkInt i >>= _) _ _ ⟨ha, gs, dr, tk, osx⟩
  refine wpAny_bind (wpAny_mkInt ?_)
  show wpAny _ _ (setField (.ref en) 3 (rawInt ((i : Int) + 1)) >>= _) _ _ ⟨ha, gs, dr, tk + 1, osx⟩
  refine wpAny_bind (wpAny_setField_rec hea (by simp) fun hb heb kb => ?_)
  have kb : Heap.SameBut en ha hb := kb
  have heb : IsEnum hb en it ((i : Int) + 1) pre := heb
  show wpAny _ _ (setField (.ref en) 4 .none >>= _) _ _ ⟨hb, gs, dr, tk + 1, osx⟩
  refine wpAny_bind (wpAny_setField_rec heb (by simp) fun hc hec kc => ?_)
  have kc : Heap.SameBut en hb hc := kc
  have hec : IsEnum hc en it ((i : Int) + 1) pre := hec
  show wpAny _ _ (newTuple [.int i tk, x] >>= _) _ _ ⟨hc, gs, dr, tk + 1, osx⟩
  refine wpAny_bind (wpAny_newTuple ?_)
  have szc : hc.objs.size = hp.objs.size := kc.1.trans (kb.1.trans ka.1)
  have hed : IsEnum (hc.push { cls := .type "tuple", data := .seq #[.int i tk, x] }) en it ((i : Int) + 1) pre := Heap.get?_push_of_some _ hec
  have hid : (hc.push { cls := .type "tuple", data := .seq #[.int i tk, x] }).IsTupleIter it tu (i + 1) := by
    obtain ⟨o, ho, r⟩ := kept (kept hia kb en') kc en'
    exact ⟨o, Heap.get?_push_of_some _ ho, r⟩
  have htd : (hc.push { cls := .type "tuple", data := .seq #[.int i tk, x] }).get? hp.objs.size = some { cls := .type "tuple", data := .seq #[.int i tk, x] } := by
    rw [← szc]
    exact Heap.get?_push_size _ rfl
  have kd : ∀ b o, b ≠ en → b ≠ it → hp.get? b = some o → (hc.push { cls := .type "tuple", data := .seq #[.int i tk, x] }).get? b = some o := fun b o be bi q => Heap.get?_push_of_some _ (kc.extBut b o be (kb.extBut b o be (ka.extBut b o bi q)))
  show wpAny _ _ (Builtin.SmallTypes.ownedTupleIsFree (.ref en) >>= _) _ _ ⟨_, gs, dr, tk + 1, osx⟩
  rw [szc]
  generalize hc.push { cls := .type "tuple", data := .seq #[.int i tk, x] } = hd at hed hid htd kd ⊢
  clear hec kc heb kb hea ka hia szc
  refine wpAny_bind ?_
  unfold Builtin.SmallTypes.ownedTupleIsFree
  refine wpAny_bind (wpAny_field hed rfl (x := .none) rfl (wpAny_pure ?_))
  simp only [if_true]
  refine wpAny_bind (wpAny_rule ?_)
  refine wpAny_bind (wpAny_field hed rfl (x := pre) rfl ?_)
  refine wpAny_bind (wpAny_setField_rec hed (by simp) fun h5 he5 k5 => ?_)
  have k5 : Heap.SameBut en hd h5 := k5
  have he5 : IsEnum h5 en it ((i : Int) + 1) x := he5
  show wpAny _ _ (Builtin.SmallTypes.ownedTupleHandOut (.ref en) (.ref hp.objs.size) >>= _) _ _ ⟨h5, gs, dr, tk + 1, osx⟩
  refine wpAny_bind ?_
  unfold Builtin.SmallTypes.ownedTupleHandOut
  refine wpAny_bind (wpAny_setField_rec he5 (by simp) fun h6 he6 k6 => ?_)
  have k6 : Heap.SameBut en h5 h6 := k6
  have he6 : IsEnumOut h6 en it ((i : Int) + 1) x hp.objs.size := he6
  refine wpAny_setField_rec he6 (by simp) fun h7 he7 k7 => ?_
  have k7 : Heap.SameBut en h6 h7 := k7
  have he7 : IsEnumOut h7 en it ((i : Int) + 1) x hp.objs.size := he7
  have big := Nat.ne_of_gt hlt
  exact wpAny_bind (wpAny_letGo (wpAny_pure ⟨_, rfl, k h7 he7 (kept (kept (kept hid k5 en') k6 en') k7 en') (k7.extBut _ _ big (k6.extBut _ _ big (k5.extBut _ _ big htd)))
    fun b o be bi q => k7.extBut b o be (k6.extBut b o be (k5.extBut b o be (kd b o be bi q)))⟩))
theorem item_ok {en it tu : Addr} {i : Nat} {its : Array Value} {x pre : Value} {Q : Option Value → Shared → Prop}
    (he : IsEnum s.heap en it i pre) (hi : s.heap.IsTupleIter it tu i) (hT : s.heap.IsTuple tu its) (hx : its[i]? = some x) (ne : en ≠ it)
    (k : ∀ h2, IsEnumOut h2 en it ((i : Int) + 1) x s.heap.objs.size → h2.IsTupleIter it tu (i + 1) → h2.get? s.heap.objs.size = some { cls := .type "tuple", data := .seq #[.int i s.toks, x] } →
      (∀ b o, b ≠ en → b ≠ it → s.heap.get? b = some o → h2.get? b = some o) → Q (some (.ref s.heap.objs.size)) { s with heap := h2, toks := s.toks + 1 }) :
    wpAny (model prog w) A (pyNext (.ref en)) Q E s := by
  have ht : s.TypeIs (.ref en) "enumerate" := ⟨_, he, rfl⟩
  unfold pyNext
  exact wpAny_bind (wpAny_attempt (wpAny_callSpecial?_slot (name := Str.ofString "__next__") ht F.slot_enumerate_next (wpAny_call_entry F.slot_enumerate_next ht F.entry_enumerate_next
    (next_ok he hi hT hx ne fun h2 a b c d => wpAny_pure (k h2 a b c d)) (F.args_enumerate_next_1 _))))
theorem end_ok {en it tu : Addr} {i : Nat} {its : Array Value} {pre : Value} {Q : Option Value → Shared → Prop} (hh : A.handled = none)
    (he : IsEnum s.heap en it i pre) (hi : s.heap.IsTupleIter it tu i) (hT : s.heap.IsTuple tu its) (hx : its[i]? = none)
    (k : ∀ h2, Heap.ExtBut it s.heap h2 → Q none { s with heap := h2 }) : wpAny (model prog w) A (pyNext (.ref en)) Q E s := by
  have ht : s.TypeIs (.ref en) "enumerate" := ⟨_, he, rfl⟩
  unfold pyNext
  refine wpAny_bind (wpAny_attempt (wpAny_callSpecial?_slot (name := Str.ofString "__next__") ht F.slot_enumerate_next (wpAny_call_entry F.slot_enumerate_next ht F.entry_enumerate_next ?_ (F.args_enumerate_next_1 _))))
  show wpAny _ _ (field (.ref en) 2 >>= _) _ _ _
  refine wpAny_bind (wpAny_field he rfl (x := .ref it) rfl (wpAny_bind (RZ.nextOf_tuple_end hh hi hT hx fun h2 ex ke ⟨o, ho, hc⟩ => ?_)))
  exact wpAny_bind (wpAny_isInstance (T := "StopIteration") (b := true) ⟨o, ho, hc⟩ isSubtype_stop (wpAny_pure (k _ ke)))
end
open PySem.Spec PyProof.Rows L2
/-- the tuple at a, each item in a new pair -/
def ItT (K : PySem.W.Frag) (a : Addr) : It :=
  ⟨fun i H => ∃ (xs : List V) (x : V), SqT K H a xs ∧ xs[i]? = some x, fun i H v H2 => ∃ T x, v = .ref T ∧ H T = none ∧ H2 = upd H T (.tup [.int (i : Nat), x]) ∧ ∀ xs, SqT K H a xs → xs[i]? = some x, fun i H => ∃ xs : List V, SqT K H a xs ∧ xs.length ≤ i⟩
theorem two_mem {b x y : Addr} (h : b ∈ [x, y]) : b = x ∨ b = y := by simpa using h
theorem turn_t {P : Program} {w : World} {K : PySem.W.Frag} {elts : List Expr} {kk : Nat} {tpos : Pos} (a en it : Addr) :
    Turn P w K (.Tuple elts kk tpos) (ItT K a) [en, it] en (fun i h => (∃ pre, IsEnum h en it ((i : Nat) : Int) pre) ∧ h.IsTupleIter it a i ∧ en ≠ it) where
  mem := List.mem_cons_self
  obj := fun i h ⟨⟨pre, he⟩, ⟨o, ho, _, hd⟩, _⟩ b hb => by
    rcases two_mem hb with rfl | rfl
    · exact ⟨_, he, fun v q => nomatch q⟩
    · exact ⟨o, ho, fun v q => by rw [hd] at q; cases q⟩
  keep := fun i h h2 ⟨⟨pre, he⟩, hi, ne⟩ k => ⟨⟨pre, k en List.mem_cons_self _ he⟩, hi.at fun o q => k it (List.mem_cons_of_mem _ List.mem_cons_self) o q, ne⟩
  item := by
    intro X hP hw hK hc i pins s σ H E I hf st hg
    subst hP hw hK
    obtain ⟨⟨pre, he⟩, hi, ne⟩ := st
    obtain ⟨xs, x, hq, hx⟩ := hg
    obtain ⟨its, rv, pt, hz⟩ := I.tuple hq
    obtain ⟨u, hu, ru⟩ := rv.get hx
    have le : en < s.heap.objs.size := Heap.lt_size he
    have li : it < s.heap.objs.size := by obtain ⟨_, q, _⟩ := hi; exact Heap.lt_size q
    refine item_ok he hi pt (x := u) (by simpa using hu) ne fun h2 ho hi2 hT hk => ?_
    refine ⟨_, rfl, wpAny_letOwnedTupleGo_enum (s := { s with heap := h2, toks := s.toks + 1 }) ho fun h3 he3 sb => ?_⟩
    have hT3 : h3.get? s.heap.objs.size = some { cls := .type "tuple", data := .seq #[.int i s.toks, u] } := (sb.2 _ (Nat.ne_of_gt le)).trans hT
    have nw : ObjOk X.prog X.w (upd H s.heap.objs.size (.tup [.int (i : Nat), x])) h3 s.heap.objs.size (.tup [.int (i : Nat), x]) :=
      ⟨by show 2 ≤ sizeLine; decide, [.int i s.toks, u], .cons ⟨_, rfl⟩ (.cons ru .nil), ⟨_, hT3, rfl, _, rfl⟩⟩
    have nin : ∀ b, b ∉ [en, it] → b ≠ en ∧ b ≠ it := fun b hb => ⟨fun z => hb (z ▸ List.mem_cons_self), fun z => hb (z ▸ List.mem_cons_of_mem _ List.mem_cons_self)⟩
    have J : Inv X pins σ (upd H s.heap.objs.size (.tup [.int (i : Nat), x])) { s with heap := h3, toks := s.toks + 1 } :=
      I.turnedNew (ch := [en, it]) (fun b ob hb q => (sb.2 b (nin b hb).1).trans (hk b ob (nin b hb).1 (nin b hb).2 q)) hf (Nat.le_refl _) nw
    refine ⟨.ref s.heap.objs.size, _, J, rfl, ⟨_, x, rfl, I.hok.fresh (Nat.le_refl _), rfl, fun ys hy => by rw [I.tuple_inj hy hq]; exact hx⟩, ⟨⟨u, by rw [show ((i + 1 : Nat) : Int) = (i : Int) + 1 by omega]; exact he3⟩, hi2.at fun o q => (sb.2 it (Ne.symm ne)).trans q, ne⟩, fun b hb => ?_⟩
    have lb : b < s.heap.objs.size := by rcases two_mem hb with rfl | rfl <;> assumption
    rw [upd_ne (Nat.ne_of_lt lb)]
    exact (hf b hb).1
  done := by
    intro X hP hw hK hc i pins s σ H E I hf st hg
    subst hP hw hK
    obtain ⟨⟨pre, he⟩, hi, ne⟩ := st
    obtain ⟨xs, hq, hx⟩ := hg
    obtain ⟨its, rv, pt, hz⟩ := I.tuple hq
    obtain ⟨f0, f1, f2, f3, f4, f5⟩ := hf it (List.mem_cons_of_mem _ List.mem_cons_self)
    have hl := rv.length
    exact end_ok (I.ok.hd hc) he hi pt (by simp; omega) fun h2 eb => ⟨rfl, I.turned (t' := s.toks) (fun b o hb q => eb b o hb q) f0 f1 f3 f4 f5⟩
  self := fun A i s Q E ⟨⟨_, he⟩, _⟩ h => wpAny_pyIter_enum he h
def iEnumT (K : PySem.W.Frag) (ta : TA) : TI := fun σ H R => ta σ H fun vs H1 => ∃ a xs, vs = [.ref a] ∧ SqT K H1 a xs ∧ R (ItT K a) H1
theorem pi_enumT {X : Cx} {e : Expr} {ta : TA} {p pos tpos : Pos} {elts : List Expr} {kk : Nat} (hg : Gl X "enumerate") (hm : X.mg "enumerate" = none) (ha : PA X [e] ta) (hs : starEach [e] X.env = [(false, eval e X.env)] := by rfl) :
    PI X (.Tuple elts kk tpos) (.Call (.Name "enumerate" p) [e] [] pos) (iEnumT X.K ta) := by
  refine ⟨fun pins s σ H R I h => ?_⟩
  refine Call_ (ld_blt I hg hm boot_enumerate (PyProof.Rows.callWith_type1 (thn (ha.run pos pins s σ H _ I h) fun us s1 ⟨vs, H1, I1, r1, a, xs, ex, hq, q⟩ => ?_) hs rfl))
  subst ex
  obtain ⟨u, rfl, r⟩ : ∃ u, us = [u] ∧ RelV (.ref a) u := by
    cases r1 with
    | cons r rr => cases rr; exact ⟨_, rfl, r⟩
  cases r
  obtain ⟨its, rv, pt, hz⟩ := I1.tuple hq
  refine call_ok pt fun h2 he hi hk => wpAny_pyIter_enum he ?_
  refine ⟨s1.heap.objs.size + 1, [s1.heap.objs.size + 1, s1.heap.objs.size], _, _, H1, rfl, I1.kept (t' := s1.toks) hk, turn_t a (s1.heap.objs.size + 1) s1.heap.objs.size, ⟨⟨.none, he⟩, hi, Nat.succ_ne_self _⟩, fun b hb => ?_, q⟩
  have hle : s1.heap.objs.size ≤ b := by rcases two_mem hb with rfl | rfl <;> omega
  exact I1.fpOk hle (I1.hok.fresh hle)
end DEn
namespace DL
open PySem PyProof.Rows L2
section
variable {X : Cx} {W : WX} {e : Expr} {t : DTA} {pos p : Pos}
def dEnumT (t : DTA) : DTI := fun σ G Q R => t σ G (fun ds G1 => match ds with | [.tup xs] => Q (enumD xs) (fun _ => True) G1 | _ => False) R
theorem di_enumT {tpos : Pos} {elts : List Expr} {kk : Nat} (hg : Gl X "enumerate") (hm : X.mg "enumerate" = none) (ha : DA X W [e] t) (hs : starEach [e] X.env = [(false, eval e X.env)] := by rfl) : DI X W (.Tuple elts kk tpos) (.Call (.Name "enumerate" p) [e] [] pos) (dEnumT t) :=
  pi_imp (DEn.pi_enumT hg hm ha hs) fun σV H P ⟨S, σ, G, Q, R, hc, hee, ht, hx, hq⟩ => by
    refine ⟨S, σ, G, _, R, hc, hee, ht, hx, fun vs H1 S1 ds G1 a1 r1 q1 => ?_⟩
    split at q1
    · rename_i xs
      obtain ⟨v, r', rfl, r2, rfl⟩ := r1
      obtain ⟨a, us, rfl, h1, r3⟩ := r2
      have h1H : SqT X.K H1 a us := a1.cn.sub.t h1
      refine ⟨a, us, rfl, h1H, hq _ H1 S1 _ _ G1 a1 (fun i S2 G2 H2 hs hc2 _ => ?_) q1⟩
      have h2 : SqT X.K H2 a us := hc2.sub.t (hs.t h1)
      have r4 := r3.up hs
      refine ⟨fun d hd => ?_, fun hl => ⟨us, h2, by rw [r4.length]; simpa [enumD] using hl⟩⟩
      unfold enumD at hd
      rw [List.getElem?_map, List.getElem?_zipIdx] at hd
      cases e0 : xs[i]? with
      | none => rw [e0] at hd; cases hd
      | some x =>
        rw [e0] at hd
        simp at hd
        subst hd
        obtain ⟨w, hw, rw'⟩ := r4.get' e0
        refine ⟨⟨us, w, h2, hw⟩, fun y H3 ⟨T, z, e1, e2, e3, e4⟩ => ?_⟩
        subst e1 e3
        have q4 := e4 us h2
        rw [hw] at q4
        cases q4
        have a4 := hc2.still (o := .tup [.int (i : Nat), w]) e2
        exact ⟨_, a4, T, _, rfl, SqT.of upd_same, Reps.cons rfl (Reps.cons (rw'.up a4.sub) Reps.nil)⟩
    · exact q1.elim
def enqT (ds : List D) (G : GS) (QI : List D → (GS → Prop) → GS → Prop) : Prop := match ds with | [.tup xs] => QI (enumD xs) (fun _ => True) G | _ => False
theorem r_enumT {σ : Ev} {G : GS} {R : DXK} {QI : List D → (GS → Prop) → GS → Prop} : dEnumT t σ G QI R = t σ G (fun ds G1 => enqT ds G1 QI) R := propext Iff.rfl
theorem z_enT {xs : List D} {G : GS} {QI : List D → (GS → Prop) → GS → Prop} : enqT [.tup xs] G QI = QI (enumD xs) (fun _ => True) G := propext Iff.rfl
/-- the ways of one statement joined -/
theorem seq_join {u v : DTS} {N : DEnds} {R : DXK} {σ : Ev} {G : GS} (J : Ev → GS → Prop) (h2 : ∀ σ G, J σ G → v N R σ G) (h1 : ∀ NX : Ev → GS → Prop, (∀ σ G, J σ G → NX σ G) → u { N with nx := NX } R σ G) : dSeq u v N R σ G := h1 _ h2
theorem eq_cell {n : Nat} {xs : List D} {p : Addr} {G : GS} {Q : DK} (h : PLn n (.lst xs)) (hn : n ≤ 60) (hm : (p, Cell.lst xs) ∈ G) (q : Q (.bl true) G) : dEq (.lst xs) (.ref p) G Q := by
  obtain ⟨p', h1, h2⟩ := h.pl hn
  obtain ⟨p2, g1, g2, _⟩ := h.ex
  rw [g1] at h1
  cases h1
  have e := g1
  simp only [D.py, Option.map_eq_some_iff] at e
  obtain ⟨ps, e1, rfl⟩ := e
  refine ⟨_, _, .inl g1, .inr ⟨p, xs, ps, rfl, hm, e1, rfl⟩, h2, h2, ?_⟩
  rw [PySem.SeqAt.eqv_refl _ g2]
  exact q
theorem pick2 {a b j : Int} (h : j = 0 ∨ j = 1) : ∃ z : Int, L2.atI [D.int a, D.int b] j = some (.int z) ∧ (z = a ∨ z = b) := by
  rcases h with rfl | rfl
  · exact ⟨a, rfl, .inl rfl⟩
  · exact ⟨b, rfl, .inr rfl⟩
end
end DL
set_option Elab.async false
set_option linter.all false
set_option maxRecDepth 100000
set_option maxHeartbeats 4000000
namespace DL
open PySem PyProof.Rows L2
/-! ### the head's hook, the interpreter's statics among what is looked at -/
def obsSG (n : Nat) (fa : List He.Fa) (fn : List He.DefD) (ex : PySem.W.Frag → List Bool) (g : Addr → Option Obj) : He.AlD := obsE fa fn ex (He.frG g (He.asD g n ++ [cStatics]))
def hookS (n : Nat) (fa : List He.Fa) (fn : List He.DefD) (ex : PySem.W.Frag → List Bool) : PySem.W.Hook where
  α := He.AlD
  obs := fun s => obsSG n fa fn ex s.heap.get?
  val := fun _ => He.valD fn
  says := fun _ h => ∃ K : PySem.W.Frag, K.In h ∧ He.SaysD fa fn K ∧ (ex K).all id = true
  of := fun _ _ e => ⟨_, He.frG_in, obsE_ok e⟩
  keeps := fun _ _ _ ⟨K, hK, c⟩ k => ⟨K, PySem.W.Frag.In.keeps hK k, c⟩
theorem obsSG_eq {n : Nat} {fa : List He.Fa} {fn : List He.DefD} {ex : PySem.W.Frag → List Bool} {g : Addr → Option Obj} {s : Shared} (h : ∀ a, g a = s.heap.get? a) : obsSG n fa fn ex g = (hookS n fa fn ex).obs s := by
  have e : g = s.heap.get? := funext h
  rw [e] <;> rfl
end DL
set_option Elab.async false
set_option linter.all false
set_option maxRecDepth 100000
set_option maxHeartbeats 4000000
/-! ### in, count, index of a list whose items have an own == -/
namespace DI
open PySem PySem.SeqAt
open AutoSeq1 (wpAny_loadPart')
open MeetsSeq MeetsSeq2 MeetsSeq3 SeqRoads2
section
variable {prog : Program} {w : World} {A : Around} {R : Result → Shared → Prop}
/-- the list at l, read anew at each turn; f: which items equal x -/
def ItB (prog : Program) (w : World) (A : Around) (E : Value → Shared → Prop) (l : Addr) (x : Value) (N : Nat) (f : Nat → Bool) (I : Shared → Prop) : Prop :=
  ∀ s, I s → ∃ (its : Array Value) (n : Nat) (dd : Option Addr) (sl : Array (Option Value)), s.heap.get? l = some { cls := .type "list", dict := dd, data := .seq its n, slots := sl } ∧ its.size = N ∧
    ∀ (i : Nat) (h : i < its.size), wpAny (model prog w) A.in1 (eqBool its[i] x) (fun r s' => r = f i ∧ I s') E s
theorem any_f {N : Nat} {f : Nat → Bool} (h : ∀ j, j < N → f j = false) : (List.range N).any f = false := List.any_eq_false.mpr fun j hj => by
  rw [h j (List.mem_range.mp hj)]
  exact Bool.false_ne_true
theorem any_t {N i : Nat} {f : Nat → Bool} (hi : i < N) (h : f i = true) : (List.range N).any f = true := List.any_eq_true.mpr ⟨i, List.mem_range.mpr hi, h⟩
theorem in_loop {l : Addr} {x : Value} {N : Nat} {f : Nat → Bool} {I : Shared → Prop} (hl : ItB prog w A (fun e s' => R (.error e) s') l x N f I)
    (fin : ∀ s b, I s → (List.range N).any f = b → R (.ok (.ret (.bool b))) s) (k : Nat) :
    ∀ i : Nat, N - i = k → i ≤ N → (∀ j, j < i → f j = false) → ∀ s, I s →
      wpAny (model prog w) A.in1 (Builtin.«list.__contains__.loop» ⟨[.ref l, x, rawInt i], []⟩) (GQ.FinOf prog w A R) (fun e s' => R (.error e) s') s := by
  induction k with
  | zero =>
    intro i hk hi no s h
    obtain ⟨its, n, dd, sl, h1, h2, _⟩ := hl s h
    have hin : i = N := by omega
    have hR : R (.ok (.ret (.bool false))) s := fin s false h (any_f fun j hj => no j (by omega))
    obtain ⟨hp, g, d, tk, os⟩ := s
    wp_walk using wpAny_loadPart' h1
    have hi1 : its[((i : Nat) : Int).toNat]? = none := by simp; omega
    rw [hi1]
    wp_walk
    exact hR
  | succ k ih =>
    intro i hk hi no s h
    obtain ⟨its, n, dd, sl, h1, h2, turn⟩ := hl s h
    have hlt : i < its.size := by omega
    have ht := turn i hlt
    obtain ⟨hp, g, d, tk, os⟩ := s
    wp_walk using wpAny_loadPart' h1
    have hi1 : its[((i : Nat) : Int).toNat]? = some its[i] := by simp [hlt]
    have hc : ((i : Int) + 1) = ((i + 1 : Nat) : Int) := by omega
    rw [hi1]
    refine wpAny_bind (wpAny_mono ht (fun r s2 h2' => ?_) fun _ _ x => x)
    obtain ⟨rfl, hI⟩ := h2'
    cases hf : f i with
    | true =>
      have hR : R (.ok (.ret (.bool true))) s2 := fin s2 true hI (any_t (by omega) hf)
      obtain ⟨hp2, g2, d2, tk2, os2⟩ := s2
      wp_walk
      exact hR
    | false =>
      have hrec := ih (i + 1) (by omega) (by omega) (fun j hj => by
        by_cases e : j = i
        · rw [e]; exact hf
        · exact no j (by omega)) s2 hI
      obtain ⟨hp2, g2, d2, tk2, os2⟩ := s2
      wp_walk
      rw [hc]
      exact ⟨plainId_quiet plain_contains_loop _, codeAny_builtin entry_contains_loop (by
        rw [Around.under_plainId plain_contains_loop _]
        exact hrec)⟩
theorem in_body {l : Addr} {x : Value} {N : Nat} {f : Nat → Bool} {I : Shared → Prop} (hl : ItB prog w A (fun e s' => R (.error e) s') l x N f I)
    (fin : ∀ s b, I s → (List.range N).any f = b → R (.ok (.ret (.bool b))) s) {s : Shared} (h : I s) :
    wpAny (model prog w) A.in1 (Builtin.«list.__contains__» ⟨[.ref l, x], []⟩) (GQ.FinOf prog w A R) (fun e s' => R (.error e) s') s := by
  obtain ⟨its, n, dd, sl, h1, h2, _⟩ := hl s h
  have hrec := in_loop (A := A) (R := R) hl fin _ 0 rfl (Nat.zero_le _) (fun j hj => absurd hj (by omega)) s h
  obtain ⟨hp, g, d, tk, os⟩ := s
  wp_walk using wpAny_loadPart' h1
  exact ⟨plainId_quiet plain_contains_loop _, codeAny_builtin entry_contains_loop (by
    rw [Around.under_plainId plain_contains_loop _]
    exact hrec)⟩
theorem cnt_loop {l : Addr} {x : Value} {N : Nat} {f : Nat → Bool} {I : Shared → Prop} (hl : ItB prog w A (fun e s' => R (.error e) s') l x N f I)
    (fin : ∀ s, I s → R (.ok (.ret (.int ((List.range N).countP f : Nat) s.toks))) { s with toks := s.toks + 1 }) (k : Nat) :
    ∀ i : Nat, N - i = k → i ≤ N → ∀ s, I s →
      wpAny (model prog w) A.in1 (Builtin.«list.count.loop» ⟨[.ref l, x, rawInt i, rawInt ((List.range i).countP f : Nat)], []⟩) (GQ.FinOf prog w A R) (fun e s' => R (.error e) s') s := by
  induction k with
  | zero =>
    intro i hk hi s h
    obtain ⟨its, n, dd, sl, h1, h2, _⟩ := hl s h
    have hin : i = N := by omega
    subst hin
    have hR := fin s h
    obtain ⟨hp, g, d, tk, os⟩ := s
    wp_walk using wpAny_loadPart' h1
    have hi1 : its[((i : Nat) : Int).toNat]? = none := by simp; omega
    rw [hi1]
    wp_walk
    exact hR
  | succ k ih =>
    intro i hk hi s h
    obtain ⟨its, n, dd, sl, h1, h2, turn⟩ := hl s h
    have hlt : i < its.size := by omega
    have ht := turn i hlt
    obtain ⟨hp, g, d, tk, os⟩ := s
    wp_walk using wpAny_loadPart' h1
    have hi1 : its[((i : Nat) : Int).toNat]? = some its[i] := by simp [hlt]
    have hc : ((i : Int) + 1) = ((i + 1 : Nat) : Int) := by omega
    rw [hi1]
    refine wpAny_bind (wpAny_mono ht (fun r s2 h2' => ?_) fun _ _ x => x)
    obtain ⟨rfl, hI⟩ := h2'
    have hrec := ih (i + 1) (by omega) (by omega) s2 hI
    have hcnt : (if f i = true then (((List.range i).countP f : Nat) : Int) + 1 else ((List.range i).countP f : Nat)) = ((List.range (i + 1)).countP f : Nat) := by
      rw [List.range_succ, List.countP_append, List.countP_singleton]
      split <;> simp
    obtain ⟨hp2, g2, d2, tk2, os2⟩ := s2
    wp_walk
    rw [hc]
    refine ⟨plainId_quiet plain_count_loop _, codeAny_builtin entry_count_loop (by
      rw [Around.under_plainId plain_count_loop _]
      rw [← hcnt] at hrec
      exact hrec)⟩
theorem cnt_body {l : Addr} {x : Value} {N : Nat} {f : Nat → Bool} {I : Shared → Prop} (hl : ItB prog w A (fun e s' => R (.error e) s') l x N f I)
    (fin : ∀ s, I s → R (.ok (.ret (.int ((List.range N).countP f : Nat) s.toks))) { s with toks := s.toks + 1 }) {s : Shared} (h : I s) :
    wpAny (model prog w) A.in1 (Builtin.«list.count» ⟨[.ref l, x], []⟩) (GQ.FinOf prog w A R) (fun e s' => R (.error e) s') s := by
  obtain ⟨its, n, dd, sl, h1, h2, _⟩ := hl s h
  have hrec := cnt_loop (A := A) (R := R) hl fin _ 0 rfl (Nat.zero_le _) s h
  obtain ⟨hp, g, d, tk, os⟩ := s
  wp_walk using wpAny_loadPart' h1
  exact ⟨plainId_quiet plain_count_loop _, codeAny_builtin entry_count_loop (by
    rw [Around.under_plainId plain_count_loop _]
    exact hrec)⟩
theorem ix_loop {l : Addr} {x : Value} {N j : Nat} {upto : Int} {f : Nat → Bool} {I : Shared → Prop} (hl : ItB prog w A (fun e s' => R (.error e) s') l x N f I) (hj : j < N) (hs : (j : Int) < upto) (hit : f j = true) (no : ∀ m, m < j → f m = false)
    (fin : ∀ s, I s → R (.ok (.ret (.int (j : Nat) s.toks))) { s with toks := s.toks + 1 }) (k : Nat) :
    ∀ i : Nat, j - i = k → i ≤ j → ∀ s, I s →
      wpAny (model prog w) A.in1 (Builtin.«list.index.loop» ⟨[.ref l, x, rawInt i, rawInt upto], []⟩) (GQ.FinOf prog w A R) (fun e s' => R (.error e) s') s := by
  induction k with
  | zero =>
    intro i hk hi s h
    obtain ⟨its, n, dd, sl, h1, h2, turn⟩ := hl s h
    obtain rfl : i = j := by omega
    have hlt : i < its.size := by omega
    have ht := turn i hlt
    obtain ⟨hp, g, d, tk, os⟩ := s
    wp_walk using wpAny_loadPart' h1
    have hi1 : (if (i : Int) < upto then its[((i : Nat) : Int).toNat]? else none) = some its[i] := by
      rw [if_pos hs]
      simp [hlt]
    rw [hi1]
    refine wpAny_bind (wpAny_mono ht (fun r s2 h2' => ?_) fun _ _ x => x)
    obtain ⟨rfl, hI⟩ := h2'
    have hR := fin s2 hI
    rw [hit]
    obtain ⟨hp2, g2, d2, tk2, os2⟩ := s2
    wp_walk
    exact hR
  | succ k ih =>
    intro i hk hi s h
    obtain ⟨its, n, dd, sl, h1, h2, turn⟩ := hl s h
    have hlt : i < its.size := by omega
    have ht := turn i hlt
    obtain ⟨hp, g, d, tk, os⟩ := s
    wp_walk using wpAny_loadPart' h1
    have hi1 : (if (i : Int) < upto then its[((i : Nat) : Int).toNat]? else none) = some its[i] := by
      rw [if_pos (by omega)]
      simp [hlt]
    have hc : ((i : Int) + 1) = ((i + 1 : Nat) : Int) := by omega
    rw [hi1]
    refine wpAny_bind (wpAny_mono ht (fun r s2 h2' => ?_) fun _ _ x => x)
    obtain ⟨rfl, hI⟩ := h2'
    rw [no i (by omega)]
    have hrec := ih (i + 1) (by omega) (by omega) s2 hI
    obtain ⟨hp2, g2, d2, tk2, os2⟩ := s2
    wp_walk
    rw [hc]
    exact ⟨plainId_quiet plain_index_loop _, codeAny_builtin entry_index_loop (by
      rw [Around.under_plainId plain_index_loop _]
      exact hrec)⟩
theorem ix_body {l : Addr} {x : Value} {N j : Nat} {f : Nat → Bool} {I : Shared → Prop} (hl : ItB prog w A (fun e s' => R (.error e) s') l x N f I) (hj : j < N) (hs : (j : Int) < 2 ^ 63 - 1) (hit : f j = true) (no : ∀ m, m < j → f m = false)
    (fin : ∀ s, I s → R (.ok (.ret (.int (j : Nat) s.toks))) { s with toks := s.toks + 1 }) {s : Shared} (h : I s) :
    wpAny (model prog w) A.in1 (Builtin.«list.index» ⟨[.ref l, x], []⟩) (GQ.FinOf prog w A R) (fun e s' => R (.error e) s') s := by
  obtain ⟨its, n, dd, sl, h1, h2, _⟩ := hl s h
  have hrec := ix_loop (A := A) (R := R) hl hj hs hit no fin _ 0 rfl (Nat.zero_le _) s h
  obtain ⟨hp, g, d, tk, os⟩ := s
  wp_walk using wpAny_loadPart' h1
  have a1 : ((fun i : Int => if i < 0 then max 0 (i + (its.size : Int)) else i) ((none : Option Int).getD 0)) = ((0 : Nat) : Int) := by simp
  have a2 : ((fun i : Int => if i < 0 then max 0 (i + (its.size : Int)) else i) ((none : Option Int).getD (2 ^ 63 - 1))) = 2 ^ 63 - 1 := by simp
  rw [a1, a2]
  exact ⟨plainId_quiet plain_index_loop _, codeAny_builtin entry_index_loop (by
    rw [Around.under_plainId plain_index_loop _]
    exact hrec)⟩
end
end DI
namespace DL
open PySem PySem.Spec PyProof.Rows L2
section
variable {X : Cx} {n : Nat} {D : EqvB}
/-- the items of xs beside y -/
def MemB (D : EqvB) (xs : List V) (y : V) (H : Hp) (f : Nat → Bool) : Prop := ∀ (i : Nat) z, xs[i]? = some z → D z y H (f i)
theorem itB (hD : MonB D) (h : EqB X n D) {A : Around} (sb : SubG X (n + 1) A) {pins : List (Addr × Obj)} {σ : L2.St} {H : Hp} {p : Addr} {xs : List V} {y : V} {u : Value} {f : Nat → Bool} (hp : SqL X.K H p xs) (ry : RelV y u) (m : MemB D xs y H f) :
    DI.ItB X.prog X.w A X.xe p u xs.length f (LoopI X pins σ H) := by
  intro s' ⟨H1, I1, e1⟩
  obtain ⟨its, r, ⟨⟨oc, od, dt, sl⟩, k, g, gc, gd, gs⟩, z⟩ := I1.list (hp.ext e1)
  simp only at gc gs
  subst gc gs
  refine ⟨its.toArray, k, od, sl, g, by rw [List.size_toArray, ← r.length], fun i hi => ?_⟩
  have hi' : i < its.length := by simpa using hi
  have k1 : i < xs.length := by rw [r.length]; exact hi'
  obtain ⟨v, hv, rv⟩ := r.get (List.getElem?_eq_getElem k1)
  have q1 : its.toArray[i] = v := by
    have : its[i]? = some its.toArray[i] := by rw [List.getElem?_eq_getElem hi'] <;> simp
    rw [this] at hv
    exact Option.some.inj hv
  rw [q1]
  refine wpAny_mono (h A.in1 pins s' σ H1 _ _ v u _ sb.in1 I1 rv ry (hD _ _ _ _ _ e1 (m i _ (List.getElem?_eq_getElem k1)))) (fun r s2 q => ?_) fun _ _ x => x
  obtain ⟨hr, H2, I2, e2⟩ := q
  exact ⟨hr, H2, I2, e1.trans e2⟩
def rInB (K : PySem.W.Frag) (D : EqvB) (neg : Bool) : R2 := fun x y H Q => ∃ p xs f, y = .ref p ∧ SqL K H p xs ∧ MemB D xs x H f ∧ ∀ H', Ext H H' → Q (.bl (if neg = true then !(List.range xs.length).any f else (List.range xs.length).any f)) H'
theorem op_inB (hD : MonB D) (h : EqB X n D) (hr : RoomG (n + 1) X.A) : OpR X (compareOp .In) (rInB X.K D false) := by
  intro pins s σ H x y v u Q I rx ry hq
  obtain ⟨p, xs, f, rfl, hp, m, q⟩ := hq
  cases ry
  obtain ⟨its, r, ⟨⟨oc, od, dt, sl⟩, k, g, gc, gd, gs⟩, z⟩ := I.list hp
  simp only at gc gs
  subst gc gs
  have hT : s.TypeIs (.ref p) "list" := ⟨_, g, rfl⟩
  show wpAny _ X.A (do return Value.bool (← contains (.ref p) v)) _ _ s
  refine wpAny_bind (wpAny_contains_slot hT PySem.F.slot_list_contains (wpAny_mono (GQ.call_here (Q := fun v s' => ∃ b, v = .bool b ∧ (List.range xs.length).any f = b ∧ LoopI X pins σ H s') PySem.F.slot_list_contains hT PySem.F.entry_list_contains (PySem.F.args_list_contains_2 _ _) (DI.in_body (itB hD h ⟨hr, rfl⟩ hp rx m) (fun s' b hI hb => ⟨b, rfl, hb, hI⟩) ⟨H, I, Ext.rfl'⟩)) (fun v s' hv => ?_) fun _ _ e => e))
  obtain ⟨b, rfl, hb, H', I', e⟩ := hv
  exact wpAny_truthy_bool (wpAny_pure ⟨.bl b, H', I', rfl, by rw [← hb]; exact q H' e⟩)
theorem op_notInB (hD : MonB D) (h : EqB X n D) (hr : RoomG (n + 1) X.A) : OpR X (compareOp .NotIn) (rInB X.K D true) := by
  intro pins s σ H x y v u Q I rx ry hq
  obtain ⟨p, xs, f, rfl, hp, m, q⟩ := hq
  cases ry
  obtain ⟨its, r, ⟨⟨oc, od, dt, sl⟩, k, g, gc, gd, gs⟩, z⟩ := I.list hp
  simp only at gc gs
  subst gc gs
  have hT : s.TypeIs (.ref p) "list" := ⟨_, g, rfl⟩
  show wpAny _ X.A (do return Value.bool (!(← contains (.ref p) v))) _ _ s
  refine wpAny_bind (wpAny_contains_slot hT PySem.F.slot_list_contains (wpAny_mono (GQ.call_here (Q := fun v s' => ∃ b, v = .bool b ∧ (List.range xs.length).any f = b ∧ LoopI X pins σ H s') PySem.F.slot_list_contains hT PySem.F.entry_list_contains (PySem.F.args_list_contains_2 _ _) (DI.in_body (itB hD h ⟨hr, rfl⟩ hp rx m) (fun s' b hI hb => ⟨b, rfl, hb, hI⟩) ⟨H, I, Ext.rfl'⟩)) (fun v s' hv => ?_) fun _ _ e => e))
  obtain ⟨b, rfl, hb, H', I', e⟩ := hv
  exact wpAny_truthy_bool (wpAny_pure ⟨.bl (!b), H', I', rfl, by rw [← hb]; exact q H' e⟩)
def rCntB (K : PySem.W.Frag) (D : EqvB) : V → List V → Hp → VK → Prop := fun x xs H Q => ∃ p ys y f, x = .ref p ∧ xs = [y] ∧ SqL K H p ys ∧ MemB D ys y H f ∧ ∀ H', Ext H H' → Q (.int ((List.range ys.length).countP f : Nat)) H'
theorem mt_cntB (hD : MonB D) (h : EqB X n D) (hr : RoomG (n + 1) X.A) : MtR X "list.count" (rCntB X.K D) := by
  intro pins s σ H x xs v us Q I rx rxs hq
  obtain ⟨p, ys, y, f, rfl, rfl, hp, m, q⟩ := hq
  cases rx
  obtain ⟨u, rfl, ry⟩ := rxs.one
  obtain ⟨its, r, ⟨⟨oc, od, dt, sl⟩, k, g, gc, gd, gs⟩, z⟩ := I.list hp
  simp only at gc gs
  subst gc gs
  refine GQ.call_here PySem.F.slot_list_count ⟨_, g, rfl⟩ PySem.F.entry_list_count (PySem.F.args_list_count_2 _ _) (DI.cnt_body (itB hD h ⟨hr, rfl⟩ hp ry m) (fun s' hI => ?_) ⟨H, I, Ext.rfl'⟩)
  obtain ⟨H', I', e⟩ := hI
  exact ⟨.int _, H', I'.tok _, ⟨_, rfl⟩, q H' e⟩
def rIxB (K : PySem.W.Frag) (D : EqvB) : V → List V → Hp → VK → Prop := fun x xs H Q => ∃ p ys y f j, x = .ref p ∧ xs = [y] ∧ SqL K H p ys ∧ MemB D ys y H f ∧ j < ys.length ∧ f j = true ∧ (∀ m, m < j → f m = false) ∧ ∀ H', Ext H H' → Q (.int (j : Nat)) H'
theorem mt_ixB (hD : MonB D) (h : EqB X n D) (hr : RoomG (n + 1) X.A) : MtR X "list.index" (rIxB X.K D) := by
  intro pins s σ H x xs v us Q I rx rxs hq
  obtain ⟨p, ys, y, f, j, rfl, rfl, hp, m, hj, hit, no, q⟩ := hq
  cases rx
  obtain ⟨u, rfl, ry⟩ := rxs.one
  obtain ⟨its, r, ⟨⟨oc, od, dt, sl⟩, k, g, gc, gd, gs⟩, z⟩ := I.list hp
  simp only at gc gs
  subst gc gs
  have hsl := sizeLine_eq
  refine GQ.call_here PySem.F.slot_list_index ⟨_, g, rfl⟩ PySem.F.entry_list_index (PySem.F.args_list_index_2 _ _) (DI.ix_body (itB hD h ⟨hr, rfl⟩ hp ry m) hj (by omega) hit no (fun s' hI => ?_) ⟨H, I, Ext.rfl'⟩)
  obtain ⟨H', I', e⟩ := hI
  exact ⟨.int _, H', I'.tok _, ⟨_, rfl⟩, q H' e⟩
end
/-! ### over data -/
def isLst (y : D) (G : GS) (xs : List D) : Prop := y = .lst xs ∨ ∃ p, y = .ref p ∧ (p, Cell.lst xs) ∈ G
theorem isLst.v {K : PySem.W.Frag} {S H : Hp} {G : GS} {y : D} {u : V} {xs : List D} (h : isLst y G xs) (c : Cn K S G H) (r : Rep K S y u) : ∃ p vs, u = .ref p ∧ SqL K H p vs ∧ Reps K S xs vs := by
  rcases h with rfl | ⟨p, rfl, hm⟩
  · obtain ⟨p, vs, rfl, h1, r1⟩ := r
    exact ⟨p, vs, rfl, c.sub.l h1, r1⟩
  · cases (show u = .ref p from r)
    obtain ⟨vs, h1, r1⟩ := c.cell _ hm
    exact ⟨p, vs, rfl, SqL.of h1, r1⟩
def MemD (C : Addr) (sp : DSp) (xs : List D) (y : D) (f : Nat → Bool) : Prop := ∀ (i : Nat) d, xs[i]? = some d → ElD C sp d y (f i)
section
variable {X : Cx} {W : WX} {n : Nat} {C g : Addr} {ps : List Str} {sp : DSp}
theorem MemD.v {K : PySem.W.Frag} {S H : Hp} {G : GS} {xs : List D} {vs : List V} {y : D} {u : V} {f : Nat → Bool} (h : MemD C sp xs y f) (c : Cn K S G H) (r : Reps K S xs vs) (ry : Rep K S y u) : MemB (DEl K C sp) vs u H f := fun i z hz => by
  obtain ⟨d, hd, rd⟩ := r.get hz
  exact (h i d hd).v c rd ry
def dInO (C : Addr) (sp : DSp) : DOp := fun x y G Q => ∃ xs f, isLst y G xs ∧ MemD C sp xs x f ∧ Q (.bl ((List.range xs.length).any f)) G
def dNotInO (C : Addr) (sp : DSp) : DOp := fun x y G Q => ∃ xs f, isLst y G xs ∧ MemD C sp xs x f ∧ Q (.bl (!(List.range xs.length).any f)) G
theorem opd_inOP (o : OwnC X.K C g) (F : Pm X.prog X.w X.K X.mg X.base n g ps [] sp) (hr : RoomG (n + 1) X.A) : OpD X (compareOp .In) (dInO C sp) := by
  obtain ⟨fd, h1, h2⟩ := pm_nil F
  refine OpD.mk (op_inB mon_el (eqB_el o h1 h2) hr) fun S G H x y v u Q P hc rx ry ho hq => ?_
  obtain ⟨xs, f, hl, hm, q⟩ := ho
  obtain ⟨p, vs, rfl, h3, r3⟩ := hl.v hc ry
  exact ⟨p, vs, f, rfl, h3, hm.v hc r3 rx, fun H' e => hq _ _ _ (.bl _) _ (hc.extA e) (by rw [r3.length]; rfl) q⟩
theorem opd_notInOP (o : OwnC X.K C g) (F : Pm X.prog X.w X.K X.mg X.base n g ps [] sp) (hr : RoomG (n + 1) X.A) : OpD X (compareOp .NotIn) (dNotInO C sp) := by
  obtain ⟨fd, h1, h2⟩ := pm_nil F
  refine OpD.mk (op_notInB mon_el (eqB_el o h1 h2) hr) fun S G H x y v u Q P hc rx ry ho hq => ?_
  obtain ⟨xs, f, hl, hm, q⟩ := ho
  obtain ⟨p, vs, rfl, h3, r3⟩ := hl.v hc ry
  exact ⟨p, vs, f, rfl, h3, hm.v hc r3 rx, fun H' e => hq _ _ _ (.bl _) _ (hc.extA e) (by rw [r3.length]; rfl) q⟩
def mCntO (C : Addr) (sp : DSp) : DMo := fun x ds G Q => ∃ xs y f, ds = [y] ∧ isLst x G xs ∧ MemD C sp xs y f ∧ Q (.int ((List.range xs.length).countP f : Nat)) G
def mIxO (C : Addr) (sp : DSp) : DMo := fun x ds G Q => ∃ xs y f j, ds = [y] ∧ isLst x G xs ∧ MemD C sp xs y f ∧ j < xs.length ∧ f j = true ∧ (∀ m, m < j → f m = false) ∧ Q (.int (j : Nat)) G
theorem md_cntO (o : OwnC X.K C g) (F : Pm X.prog X.w X.K X.mg X.base n g ps [] sp) (hr : RoomG (n + 1) X.A) : MtD X "list.count" (mCntO C sp) := by
  obtain ⟨fd, h1, h2⟩ := pm_nil F
  refine MtD.mk (mt_cntB mon_el (eqB_el o h1 h2) hr) fun S G H x xs v vs Q P hc rx rs ho hq => ?_
  obtain ⟨ys, y, f, rfl, hl, hm, q⟩ := ho
  obtain ⟨u, r', rfl, ry, rfl⟩ := rs
  obtain ⟨p, us, rfl, h3, r3⟩ := hl.v hc rx
  exact ⟨p, us, u, f, rfl, rfl, h3, hm.v hc r3 ry, fun H' e => hq _ _ _ (.int _) _ (hc.extA e) (by rw [r3.length]; rfl) q⟩
theorem md_ixO (o : OwnC X.K C g) (F : Pm X.prog X.w X.K X.mg X.base n g ps [] sp) (hr : RoomG (n + 1) X.A) : MtD X "list.index" (mIxO C sp) := by
  obtain ⟨fd, h1, h2⟩ := pm_nil F
  refine MtD.mk (mt_ixB mon_el (eqB_el o h1 h2) hr) fun S G H x xs v vs Q P hc rx rs ho hq => ?_
  obtain ⟨ys, y, f, j, rfl, hl, hm, hj, hit, no, q⟩ := ho
  obtain ⟨u, r', rfl, ry, rfl⟩ := rs
  obtain ⟨p, us, rfl, h3, r3⟩ := hl.v hc rx
  exact ⟨p, us, u, f, j, rfl, rfl, h3, hm.v hc r3 ry, by rw [r3.length]; exact hj, hit, no, fun H' e => hq _ _ _ (.int _) _ (hc.extA e) rfl q⟩
end
end DL
set_option Elab.async false
set_option linter.all false
set_option maxRecDepth 100000
set_option maxHeartbeats 4000000
namespace DL
open PySem PySem.Spec PyProof.Rows L2
/-! ### str(x), x an instance with its own __str__ -/
section
variable {X : Cx} {n : Nat} {C g : Addr} {fd : FuncData} {ps : List Str} {sp : DSp}
theorem call_strO (o : OwnM X.K C "__str__" g) (F : FnD X.prog X.w X.K X.mg X.base n g fd ps sp) (hb : Binds X.K fd ps []) (hr : RoomG (n + 2) X.A) : CallR X (.type "str") (rReprO X.K C sp) := by
  intro pins s σ H xs us Q I r h
  obtain ⟨x, z, rfl, ix, hs, q⟩ := h
  obtain ⟨u, rfl, rx⟩ := vals1 r
  have sb : SubG X (n + 2) X.A := ⟨hr, rfl⟩
  have hc := own_runS F hb sb.in1.in1 I rx hs
  obtain ⟨a, dx, fs, rfl, ha⟩ := ix
  cases rx
  obtain ⟨mA, J, _⟩ := ins_get I.hok ha
  obtain ⟨od, J, _⟩ := J.look
  refine PySem.W.kso_call (f := g) sb.in1.in1.room.units0 I.kIn J o.at_ o.fn (wpAny_mono hc (fun v s' hv => ?_) fun _ _ e => e)
  obtain ⟨⟨S, y, ry, rv⟩, H', I', e⟩ := hv
  obtain rfl : y = .str z := ry
  obtain ⟨t, rfl⟩ := rv
  exact ⟨.str z, H', I', ⟨t, rfl⟩, q H' e⟩
theorem cd_strO (o : OwnM X.K C "__str__" g) (F : Pm X.prog X.w X.K X.mg X.base n g ps [] sp) (hr : RoomG (n + 2) X.A) : CalD X (.type "str") (dReprO C sp) := by
  obtain ⟨fd, h1, h2⟩ := pm_nil F
  refine CalD.mk (call_strO o h1 h2 hr) fun S G H xs vs Q P hc r ho hq => ?_
  obtain ⟨x, z, rfl, hi, hsp, q⟩ := ho
  obtain ⟨v, r', rfl, rx, rfl⟩ := r
  exact ⟨v, z, rfl, hi.v hc rx, ⟨S, x, hc.emp, rx, hsp⟩, fun H' e => hq _ _ _ (.str z) _ (hc.extA e) rfl q⟩
end
/-! ### x != y, x an instance with an own == and no own != -/
structure OwnN (K : PySem.W.Frag) (C : Addr) (g : Addr) : Prop where
  eq : OwnC K C g
  ne : PySem.W.findIn K (.ref C) "__ne__" = some (some (.builtin "object.__ne__"))
  ob : PySem.W.mroIn K C (.type "object") = some true
section
variable {M : Model} {prog : Program} {w : World} {A : Around} {E : Value → Shared → Prop} {s : Shared} {K : PySem.W.Frag} {x C g : Addr} {ox : Obj} {od : Option Obj} {b : Value}
theorem ifb_ne {args : List Value} {Q : Option Value → Shared → Prop} (X : K.In s.heap) (J : PySem.W.InstAt s.heap x ox C od) (hs : PySem.W.findIn K (.ref C) "__ne__" = some (some (.builtin "object.__ne__")))
    (h : wpAny M A (call (.builtin "object.__ne__") (.ref x :: args)) (fun v => Q (some v)) E s) : wpAny M A (callSpecialIfBound? (.ref x) "__ne__" args) Q E s := by
  simp only [callSpecialIfBound?, bindSpecialIfBound?]
  refine wpAny_holding (wpAny_bind (wpAny_bind (wpAny_bind (J.type.here ((PySem.W.looks_findIn X hs).here (wpAny_bind (wpAny_askSetting (wpAny_ite ?_))))))))
  have last : wpAny M A (call (.builtin "object.__ne__") ([.ref x] ++ args) >>= fun v => pure (some v)) Q E s := wpAny_bind (wpAny_mono h (fun _ _ q => wpAny_pure q) fun _ _ q => q)
  split
  · exact wpAny_bind (wpAny_of_eq (PySem.F.cmp_object.ne.bind _) (wpAny_pure (by exact last)))
  · exact wpAny_tryCatch (wpAny_bind (wpAny_of_eq (PySem.F.cmp_object.ne.bind _) (wpAny_pure (by exact last))))
theorem body_ne {Z : Shared → Prop} {k : Bool} {Q : Fin → Shared → Prop} (X : K.In s.heap) (J : PySem.W.InstAt s.heap x ox C od) (o : OwnN K C g) (hu : A.units < cLine)
    (h : wpAny (model prog w) A (call (.ref g) [.ref x, b]) (fun r s' => r = .bool k ∧ Z s') E s) (q : ∀ s', Z s' → Q (.done (.ret (.bool (!k)))) s') :
    wpAny (model prog w) A (Builtin.«object.__ne__» ⟨[.ref x, b], []⟩) Q E s := by
  unfold Builtin.«object.__ne__»
  repeat (first
    | with_reducible refine wpAny_cRoomFor hu ?_
    | (refine wpAny_bind (m := callSpecialIfBound? (.ref x) (Str.ofString "__eq__") [b]) (PySem.W.ifBound_K X J o.eq.at_ o.eq.fn (wpAny_mono h (fun r s' hr => by
        obtain ⟨rfl, hz⟩ := hr
        have hq := q s' hz
        repeat (first | exact hq | exact wpAny_pure hq | exact wpAny_truthy_bool hq | (refine wpAny_bind (m := truthy (.bool _)) (wpAny_truthy_bool ?_)) | wp_step)) fun _ _ e => e)))
    | wp_step)
theorem try_ne {Z : Shared → Prop} {k : Bool} (X : K.In s.heap) (J : PySem.W.InstAt s.heap x ox C od) (o : OwnN K C g) (hu : A.in1.units < cLine)
    (h : wpAny (model prog w) A.in1 (call (.ref g) [.ref x, b]) (fun r s' => r = .bool k ∧ Z s') E s) :
    wpAny (model prog w) A (tryCompare (.ref x) "__ne__" b) (fun r s' => r = some (.bool (!k)) ∧ Z s') E s := by
  unfold tryCompare
  refine wpAny_bind (ifb_ne X J o.ne (wpAny_call (codeAny_call_builtin PySem.F.cmp_object.ne.plain PySem.F.cmpEntry_ne (PySem.W.check_slot PySem.F.cmpKind_ne PySem.F.cmpSplit_ne (J.type.andThen (PySem.W.looks_mroIn X o.ob)) (PySem.F.cmpArgs_ne _ _) (body_ne X J o hu h fun s' hz => ?_)))))
  first | exact ⟨_, rfl, wpAny_pure ⟨rfl, hz⟩⟩ | exact wpAny_pure ⟨rfl, hz⟩
theorem rc_one {op : CmpOp} {tb : Value} {Q : Value → Shared → Prop} (hu : A.units < cLine) (X : K.In s.heap) (J : PySem.W.InstAt s.heap x ox C od) (hb : PySem.W.Looks (model prog w) s.heap (typeOf b) tb) (hn : PySem.W.notFirst K C tb = true)
    (one : wpAny (model prog w) A (tryCompare (.ref x) (cmpInfo op).2.1 b) (fun r s' => ∃ v, r = some v ∧ Q v s') E s) : wpAny (model prog w) A (richCompare op (.ref x) b) Q E s := by
  unfold richCompare
  simp only [oneThing_ref]
  refine wpAny_holding (wpAny_bind (wpAny_cRoomFor hu (wpAny_bind (J.type.here (wpAny_bind (hb.here ?_))))))
  split
  · rename_i q
    have e : PySem.W.subIn K tb (.ref C) = some false := by
      rcases Bool.or_eq_true_iff.mp hn with e | e
      · rw [beq_iff_eq.mp e] at q
        simp at q
      · exact beq_iff_eq.mp e
    refine wpAny_bind ((PySem.W.looks_subIn X e).here ?_)
    simp only [Bool.false_eq_true, if_false]
    refine wpAny_bind (wpAny_mono one (fun r s2 hz => ?_) fun _ _ q => q)
    obtain ⟨v, rfl, hq⟩ := hz
    exact wpAny_pure hq
  · refine wpAny_bind (wpAny_pure ?_)
    simp only [Bool.false_eq_true, if_false]
    refine wpAny_bind (wpAny_mono one (fun r s2 hz => ?_) fun _ _ q => q)
    obtain ⟨v, rfl, hq⟩ := hz
    exact wpAny_pure hq
end
section
variable {X : Cx} {n : Nat} {C g : Addr} {fd : FuncData} {ps : List Str} {sp : DSp}
theorem own_rcNe {A : Around} {pins : List (Addr × Obj)} {s : Shared} {σ : L2.St} {H : Hp} {x y : V} {u v : Value} {b : Bool} (o : OwnN X.K C g) (F : FnD X.prog X.w X.K X.mg X.base n g fd ps sp) (hb : Binds X.K fd ps []) (sb : SubG X (n + 1) A) (I : Inv X pins σ H s) (rx : RelV x u) (ry : RelV y v)
    (ix : IsInsV C x H) (iy : IsInsV C y H ∨ y = .non) (h : OwnB X.K sp x y H b) : wpAny (model X.prog X.w) A (richCompare .NotEq u v) (fun r s' => r = .bool (!b) ∧ ∃ H', Inv X pins σ H' s' ∧ Ext H H') X.xe s := by
  have hc := own_run o.eq F hb tkF sb.in1 I rx ry h
  obtain ⟨a, dx, fs, rfl, ha⟩ := ix
  cases rx
  obtain ⟨mA, J, _⟩ := ins_get I.hok ha
  obtain ⟨od, J, _⟩ := J.look
  have one : wpAny (model X.prog X.w) A (tryCompare (.ref a) (cmpInfo .NotEq).2.1 v) (fun r s' => ∃ z, r = some z ∧ (z = .bool (!b) ∧ ∃ H', Inv X pins σ H' s' ∧ Ext H H')) X.xe s := wpAny_mono (try_ne I.kIn J o sb.in1.room.units0 hc) (fun r s' ⟨h1, h2⟩ => ⟨_, h1, rfl, h2⟩) fun _ _ e => e
  rcases iy with ⟨a', dy, gs, rfl, hb'⟩ | rfl
  · cases ry
    obtain ⟨mB, J', _⟩ := ins_get I.hok hb'
    obtain ⟨od', J', _⟩ := J'.look
    exact rc_one (op := .NotEq) (tb := .ref C) sb.room.units0 I.kIn J J'.type (by simp [PySem.W.notFirst]) one
  · cases ry
    exact rc_one (op := .NotEq) (tb := .type "NoneType") sb.room.units0 I.kIn J (PySem.W.Looks.of_pure rfl) (by unfold PySem.W.notFirst; rw [none_sub]; simp) one
def dNeO (C : Addr) (sp : DSp) : DOp := fun x y G Q => ∃ b, DIn C x ∧ (DIn C y ∨ y = .non) ∧ Tells sp x y b ∧ Q (.bl (!b)) G
theorem opd_neOP (o : OwnN X.K C g) (F : Pm X.prog X.w X.K X.mg X.base n g ps [] sp) (hr : RoomG (n + 1) X.A) : OpD X (compareOp .NotEq) (dNeO C sp) := by
  obtain ⟨fd, h1, h2⟩ := pm_nil F
  refine OpD.mk (r := fun x y H Q => ∃ b, IsInsV C x H ∧ (IsInsV C y H ∨ y = .non) ∧ OwnB X.K sp x y H b ∧ ∀ H', Ext H H' → Q (.bl (!b)) H') ?_ ?_
  · intro pins s σ H x y v u Q I rx ry hq
    obtain ⟨b, ix, iy, h, q⟩ := hq
    show wpAny (model X.prog X.w) X.A (richCompare .NotEq v u) (EP X pins σ Q) X.xe s
    refine wpAny_mono (own_rcNe o h1 h2 ⟨hr, rfl⟩ I rx ry ix iy h) (fun r s' z => ?_) fun _ _ x => x
    obtain ⟨hr', H', I', e⟩ := z
    subst hr'
    exact ⟨.bl (!b), H', I', rfl, q H' e⟩
  · intro S G H x y v u Q P hc rx ry ho hq
    obtain ⟨b, g1, g2, g3, q⟩ := ho
    refine ⟨b, g1.v hc rx, ?_, ⟨S, x, y, hc.emp, rx, ry, g3⟩, fun H' e => hq _ _ _ (.bl (!b)) _ (hc.extA e) rfl q⟩
    rcases g2 with g2 | rfl
    · exact .inl (g2.v hc ry)
    · exact .inr ry
end
def ownnB (K : PySem.W.Frag) (C g : Addr) : Bool := ownB K C g && (decide (PySem.W.findIn K (.ref C) "__ne__" = some (some (.builtin "object.__ne__"))) && decide (PySem.W.mroIn K C (.type "object") = some true))
theorem ownnB_ok {K : PySem.W.Frag} {C g : Addr} (h : ownnB K C g = true) : OwnN K C g := by
  obtain ⟨h1, h⟩ := Bool.and_eq_true_iff.mp h
  obtain ⟨h2, h3⟩ := Bool.and_eq_true_iff.mp h
  exact ⟨ownB_ok h1, of_decide_eq_true h2, of_decide_eq_true h3⟩
end DL
set_option Elab.async false
set_option linter.all false
set_option maxRecDepth 100000
set_option maxHeartbeats 4000000
/-! ### x == y, y alone an instance with an own == -/
namespace DI
open PySem PySem.SeqAt
open AutoSeq1 (wpAny_loadPart')
section
variable {prog : Program} {w : World} {A : Around} {E : Value → Shared → Prop} {s : Shared} {K : PySem.W.Frag} {a C dx : Addr} {od : Option Obj} {Q : Fin → Shared → Prop}
theorem isi_no {M : Model} {T : String} {Q : Bool → Shared → Prop} {ox : Obj} (X : K.In s.heap) (J : PySem.W.InstAt s.heap a ox C od) (h : PySem.W.mroIn K C (.type T) = some false) (q : Q false s) : wpAny M A (isInstance (.ref a) (.type T)) Q E s := by
  have L : PySem.W.Looks M s.heap (isInstance (.ref a) (.type T)) false := J.type.andThen (PySem.W.looks_mroIn X h)
  exact L.at q
theorem int_no {i : Int} {t : Tok} (J : PySem.W.InstAt s.heap a (PySem.W.instObj C dx) C od) (q : Q (.done (.ret .notImplemented)) s) : wpAny (model prog w) A (Builtin.«int.__eq__» ⟨[.int i t, .ref a], []⟩) Q E s := by
  have hl := J.at_
  unfold PySem.W.instObj at hl
  obtain ⟨hp, g, d, tk, os⟩ := s
  wp_walk using wpAny_loadPart' hl
  exact q
theorem bool_no {i : Bool} (J : PySem.W.InstAt s.heap a (PySem.W.instObj C dx) C od) (q : Q (.done (.ret .notImplemented)) s) : wpAny (model prog w) A (Builtin.«int.__eq__» ⟨[.bool i, .ref a], []⟩) Q E s := by
  have hl := J.at_
  unfold PySem.W.instObj at hl
  obtain ⟨hp, g, d, tk, os⟩ := s
  wp_walk using wpAny_loadPart' hl
  exact q
theorem str_no {i : Str} {t : Tok} (J : PySem.W.InstAt s.heap a (PySem.W.instObj C dx) C od) (q : Q (.done (.ret .notImplemented)) s) : wpAny (model prog w) A (Builtin.«str.__eq__» ⟨[.str i t, .ref a], []⟩) Q E s := by
  have hl := J.at_
  unfold PySem.W.instObj at hl
  obtain ⟨hp, g, d, tk, os⟩ := s
  wp_walk using wpAny_loadPart' hl
  exact q
theorem list_no {l : Addr} {ox : Obj} (X : K.In s.heap) (J : PySem.W.InstAt s.heap a ox C od) (h : PySem.W.mroIn K C (.type "list") = some false) (q : Q (.done (.ret .notImplemented)) s) : wpAny (model prog w) A (Builtin.«list.__eq__» ⟨[.ref l, .ref a], []⟩) Q E s := by
  have f1 := fun (A : Around) (E : Value → Shared → Prop) (Q : Bool → Shared → Prop) => isi_no (M := model prog w) (A := A) (E := E) (Q := Q) X J h
  obtain ⟨hp, g, d, tk, os⟩ := s
  wp_walk using f1
  exact q
theorem tuple_no {l : Addr} {ox : Obj} (X : K.In s.heap) (J : PySem.W.InstAt s.heap a ox C od) (h : PySem.W.mroIn K C (.type "tuple") = some false) (q : Q (.done (.ret .notImplemented)) s) : wpAny (model prog w) A (Builtin.«tuple.__eq__» ⟨[.ref l, .ref a], []⟩) Q E s := by
  have f1 := fun (A : Around) (E : Value → Shared → Prop) (Q : Bool → Shared → Prop) => isi_no (M := model prog w) (A := A) (E := E) (Q := Q) X J h
  obtain ⟨hp, g, d, tk, os⟩ := s
  wp_walk using f1
  exact q
/-- a thing of a built-in type declines, the instance is asked -/
theorem rc_back {Z : Value → Shared → Prop} {T id : String} {B : Builtin} {v : Value} {ox : Obj} {g : Addr} {k : Bool} (hu : A.units < cLine) (X : K.In s.heap) (J : PySem.W.InstAt s.heap a ox C od) (hT : s.TypeIs v T) (one : oneThing? .Eq v (.ref a) = none) (slot : Slot T "__eq__" id) (entry : entryFor table id = some B) (args : argsOk id ⟨[v, .ref a], []⟩)
    (no : PySem.W.mroIn K C (.type T) = some false) (at_ : PySem.W.findIn K (.ref C) "__eq__" = some (some (.ref g))) (fn : PySem.W.isFn K (.ref g) = true)
    (decl : ∀ Q : Fin → Shared → Prop, Q (.done (.ret .notImplemented)) s → wpAny (model prog w) A.in1 (B ⟨[v, .ref a], []⟩) Q (fun e s' => wants (fun r s' => r = .notImplemented ∧ s' = s) E (.error e) s') s)
    (h : wpAny (model prog w) A (call (.ref g) [.ref a, v]) (fun r s' => r = .bool k ∧ Z r s') E s) : wpAny (model prog w) A (richCompare .Eq v (.ref a)) Z E s := by
  have l1 : wpAny (model prog w) A (tryCompare v "__eq__" (.ref a)) (fun r s' => r = none ∧ s' = s) E s :=
    wpAny_tryCompare_declines hT slot (wpAny_mono (GQ.call_here (Q := fun r s' => r = .notImplemented ∧ s' = s) slot hT entry args (decl _ ⟨rfl, rfl⟩)) (fun r s' ⟨h1, h2⟩ => ⟨h1, rfl, h2⟩) fun _ _ e => e)
  have l2 : wpAny (model prog w) A (tryCompare (.ref a) "__eq__" v) (fun r s' => ∃ z, r = some z ∧ Z z s') E s := by
    unfold tryCompare
    refine wpAny_bind (PySem.W.ifBound_K X J at_ fn (wpAny_mono h (fun r s' hv => ?_) fun _ _ e => e))
    obtain ⟨rfl, hv⟩ := hv
    exact wpAny_pure ⟨_, rfl, hv⟩
  have hne : (Value.type T != Value.ref C) = true := rfl
  simp only [richCompare, one, cmpInfo]
  refine wpAny_holding (wpAny_bind (wpAny_cRoomFor hu (wpAny_bind (wpAny_typeOf hT (wpAny_bind (J.type.here ?_))))))
  rw [if_pos (by first | rfl | (rw [bne_comm]; rfl) | simp)]
  refine wpAny_bind ((PySem.W.looks_mroIn X no).here ?_)
  simp only [Bool.false_eq_true, if_false, Bool.not_false, if_true]
  refine wpAny_bind (m := tryCompare _ _ _) (wpAny_mono l1 (fun r s' z => ?_) fun _ _ e => e)
  obtain ⟨rfl, rfl⟩ := z
  refine wpAny_bind (m := tryCompare _ _ _) (wpAny_mono l2 (fun r s' z => ?_) fun _ _ e => e)
  obtain ⟨v, rfl, hq⟩ := z
  exact wpAny_pure hq
end
end DI
namespace DL
open PySem PySem.Spec PyProof.Rows L2
structure OwnR (K : PySem.W.Frag) (C : Addr) (g : Addr) : Prop where
  eq : OwnC K C g
  ni : PySem.W.mroIn K C (.type "int") = some false
  nb : PySem.W.mroIn K C (.type "bool") = some false
  ns : PySem.W.mroIn K C (.type "str") = some false
  nt : PySem.W.mroIn K C (.type "tuple") = some false
  nl : PySem.W.mroIn K C (.type "list") = some false
section
variable {X : Cx} {n : Nat} {C g : Addr} {fd : FuncData} {ps : List Str} {sp : DSp}
theorem own_rcR {A : Around} {pins : List (Addr × Obj)} {s : Shared} {σ : L2.St} {S H : Hp} {d : D} {x y : V} {u v : Value} {b : Bool} (o : OwnR X.K C g) (F : FnD X.prog X.w X.K X.mg X.base n g fd ps sp) (hb : Binds X.K fd ps []) (sb : SubG X n A) (I : Inv X pins σ H s)
    (hd : othD d = true) (ss : Sub S H) (r : Rep X.K S d x) (rx : RelV x u) (ry : RelV y v) (iy : IsInsV C y H) (h : OwnB X.K sp y x H b) : wpAny (model X.prog X.w) A (richCompare .Eq u v) (fun r s' => r = .bool b ∧ ∃ H', Inv X pins σ H' s' ∧ Ext H H') X.xe s := by
  have hc := wpAny_mono (own_run o.eq F hb tkF sb I ry rx h) (Q' := fun r s' => r = .bool b ∧ (r = .bool b ∧ ∃ H', Inv X pins σ H' s' ∧ Ext H H')) (fun r s' z => ⟨z.1, z⟩) fun _ _ e => e
  cases d <;> first | (cases hd; done) | skip
  · cases (show x = _ from r)
    cases rx
    exact own_rcN o.eq F hb tkF sb I ry iy h
  all_goals
    obtain ⟨a, dx, fs, rfl, ha⟩ := iy
    cases ry
    obtain ⟨mA, J, _⟩ := ins_get I.hok ha
    obtain ⟨od, J, _⟩ := J.look
  · cases (show x = _ from r)
    cases rx
    exact DI.rc_back sb.room.units0 I.kIn J (PySem.typeIs_bool _ _) rfl PySem.F.slot_bool_eq PySem.F.entry_int_eq (PySem.F.args_int_eq_2 _ _) o.nb o.eq.at_ o.eq.fn (fun Q q => DI.bool_no J q) hc
  · cases (show x = _ from r)
    obtain ⟨t, rfl⟩ := rx
    exact DI.rc_back sb.room.units0 I.kIn J (PySem.typeIs_int _ _ _) rfl PySem.F.slot_int_eq PySem.F.entry_int_eq (PySem.F.args_int_eq_2 _ _) o.ni o.eq.at_ o.eq.fn (fun Q q => DI.int_no J q) hc
  · cases (show x = _ from r)
    obtain ⟨t, rfl⟩ := rx
    exact DI.rc_back sb.room.units0 I.kIn J (PySem.typeIs_str _ _ _) rfl PySem.F.slot_str_eq PySem.F.entry_str_eq (PySem.F.args_str_eq_2 _ _) o.ns o.eq.at_ o.eq.fn (fun Q q => DI.str_no J q) hc
  · obtain ⟨l, vs, rfl, hs, _⟩ := r
    cases rx
    obtain ⟨its, ob, m, _, ho, hcl, _⟩ := sqT_at I.hok I.kIn (ss.t hs)
    exact DI.rc_back sb.room.units0 I.kIn J ⟨ob, ho, hcl⟩ (oneThing_ref ..) PySem.F.slot_tuple_eq PySem.F.entry_tuple_eq (PySem.F.args_tuple_eq_2 _ _) o.nt o.eq.at_ o.eq.fn (fun Q q => DI.tuple_no I.kIn J o.nt q) hc
  · obtain ⟨l, vs, rfl, hs, _⟩ := r
    cases rx
    obtain ⟨its, ob, m, _, ho, hcl, _⟩ := sqL_at I.hok I.kIn (ss.l hs)
    exact DI.rc_back sb.room.units0 I.kIn J ⟨ob, ho, hcl⟩ (oneThing_ref ..) PySem.F.slot_list_eq PySem.F.entry_list_eq (PySem.F.args_list_eq_2 _ _) o.nl o.eq.at_ o.eq.fn (fun Q q => DI.list_no I.kIn J o.nl q) hc
def dEqR (C : Addr) (sp : DSp) : DOp := fun x y G Q => ∃ b, othD x = true ∧ DIn C y ∧ Tells sp y x b ∧ Q (.bl b) G
theorem opd_eqRP (o : OwnR X.K C g) (F : Pm X.prog X.w X.K X.mg X.base n g ps [] sp) (hr : RoomG n X.A) : OpD X (compareOp .Eq) (dEqR C sp) := by
  obtain ⟨fd, h1, h2⟩ := pm_nil F
  refine OpD.mk (r := fun x y H Q => ∃ b S d, IsInsV C y H ∧ Sub S H ∧ othD d = true ∧ Rep X.K S d x ∧ OwnB X.K sp y x H b ∧ ∀ H', Ext H H' → Q (.bl b) H') ?_ ?_
  · intro pins s σ H x y v u Q I rx ry hq
    obtain ⟨b, S, d, iy, ss, hd, r, h, q⟩ := hq
    show wpAny (model X.prog X.w) X.A (richCompare .Eq v u) (EP X pins σ Q) X.xe s
    refine wpAny_mono (own_rcR o h1 h2 ⟨hr, rfl⟩ I hd ss r rx ry iy h) (fun r s' z => ?_) fun _ _ x => x
    obtain ⟨hr', H', I', e⟩ := z
    subst hr'
    exact ⟨.bl b, H', I', rfl, q H' e⟩
  · intro S G H x y v u Q P hc rx ry ho hq
    obtain ⟨b, g1, g2, g3, q⟩ := ho
    exact ⟨b, S, x, g2.v hc ry, hc.sub, g1, rx, ⟨S, y, x, hc.emp, ry, rx, g3⟩, fun H' e => hq _ _ _ (.bl b) _ (hc.extA e) rfl q⟩
/-- x == y: one an instance at least -/
def dEqA (C : Addr) (sp : DSp) : DOp := fun x y G Q => (∃ b, DIn C x ∧ (DIn C y ∨ othD y = true) ∧ Tells sp x y b ∧ Q (.bl b) G) ∨ dEqR C sp x y G Q
theorem opd_eqAP (o : OwnR X.K C g) (F : Pm X.prog X.w X.K X.mg X.base n g ps [] sp) (hr : RoomG n X.A) : OpD X (compareOp .Eq) (dEqA C sp) :=
  ((opd_eqOP o.eq F hr).or ((opd_eqXP o.eq F hr).or (opd_eqRP o F hr))).imp fun x y G Q h => by
    rcases h with ⟨b, h1, h2 | h2, h3, q⟩ | h
    · exact .inl ⟨b, h1, .inl h2, h3, q⟩
    · exact .inr (.inl ⟨b, h1, h2, h3, q⟩)
    · exact .inr (.inr h)
end
def ownrB (K : PySem.W.Frag) (C g : Addr) : Bool := ownB K C g && (decide (PySem.W.mroIn K C (.type "int") = some false) && (decide (PySem.W.mroIn K C (.type "bool") = some false) && (decide (PySem.W.mroIn K C (.type "str") = some false) && (decide (PySem.W.mroIn K C (.type "tuple") = some false) && decide (PySem.W.mroIn K C (.type "list") = some false)))))
theorem ownrB_ok {K : PySem.W.Frag} {C g : Addr} (h : ownrB K C g = true) : OwnR K C g := by
  obtain ⟨h1, h⟩ := Bool.and_eq_true_iff.mp h
  obtain ⟨h2, h⟩ := Bool.and_eq_true_iff.mp h
  obtain ⟨h3, h⟩ := Bool.and_eq_true_iff.mp h
  obtain ⟨h4, h⟩ := Bool.and_eq_true_iff.mp h
  obtain ⟨h5, h6⟩ := Bool.and_eq_true_iff.mp h
  exact ⟨ownB_ok h1, of_decide_eq_true h2, of_decide_eq_true h3, of_decide_eq_true h4, of_decide_eq_true h5, of_decide_eq_true h6⟩
end DL
set_option Elab.async false
set_option linter.all false
set_option maxRecDepth 100000
set_option maxHeartbeats 4000000
namespace DL
open PySem PySem.Spec PyProof.Rows L2
/-! ### name += e: numbers, texts -/
section
variable {X : Cx} {W : WX} {e : Expr} {te : DTE} {pos pos' : Pos}
def augQ (x y : D) (P : D → Prop) : Prop := match x, y with
  | .int a, .int b => P (.int (a + b))
  | .str a, .str b => a.length + b.length ≤ sizeLine ∧ P (.str (a ++ b))
  | _, _ => False
def dAug (i : Nat) (te : DTE) : DTS := fun N R σ G => atS σ i fun x => te σ G (fun y G1 => augQ x y fun z => N.nx (σ.set i (some z)) G1) R
theorem ds_aug {i : Nat} {x : Str} (hN : X.N.Nodup) (hi : X.N[i]? = some x) (hx : Loc X.env.scope x) (he : DE X W e te) (hf : X.fn x = true ∨ X.env.scope.names.lookup x = some .local := by first | exact .inl rfl | exact .inr rfl | assumption) :
    DS X W (.AugAssign (.Name x pos') .Add e pos) (dAug i te) := by
  have ho : PIp X .Add (fun x y H Q => ipI (fun i j => i + j) x y H Q ∨ ∃ i j, x = .str i ∧ y = .str j ∧ i.length + j.length ≤ sizeLine ∧ Q (.str (i ++ j)) H) := by
    intro pins s σ H x y v u Q I rx ry h
    rcases h with h | h
    · exact ip_add pins s σ H x y v u Q I rx ry h
    · exact iop_add_str pins s σ H x y v u Q I rx ry h
  refine ps_imp (ps_aug hN hi hx he ho hf) fun D σV H ⟨S, σ, G, N, R, hc, hee, ht, hx, hq⟩ => ?_
  obtain ⟨d, h1, h2⟩ := atS_of ht
  obtain ⟨v, h3, h4⟩ := hee.2 _ _ h1
  refine ⟨v, h3, S, σ, G, _, R, hc, hee, h2, hx, fun u H1 S1 d2 G1 a1 r1 q1 => ?_⟩
  have h5 := h4.up a1.sub
  cases d <;> cases d2 <;> first | exact (show False from q1).elim | skip
  · exact .inl ⟨_, _, h5, r1, hq.nx _ H1 S1 _ G1 a1 ((hee.up a1.sub).set (d := .int _) (v := .int _) rfl i) q1⟩
  · exact .inr ⟨_, _, h5, r1, q1.1, hq.nx _ H1 S1 _ G1 a1 ((hee.up a1.sub).set (d := .str _) (v := .str _) rfl i) q1.2⟩
theorem m_aug {i : Nat} {x : D} {N : DEnds} {R : DXK} {σ : Ev} {G : GS} (h : σ[i]? = some (some x)) (q : te σ G (fun y G1 => augQ x y fun z => N.nx (σ.set i (some z)) G1) R) : dAug i te N R σ G := by
  show atS σ i _
  unfold atS
  rw [h]
  exact q
theorem q_augI {a b : Int} {P : D → Prop} : augQ (.int a) (.int b) P = P (.int (a + b)) := rfl
theorem q_augS {a b : Str} {P : D → Prop} : augQ (.str a) (.str b) P = (a.length + b.length ≤ sizeLine ∧ P (.str (a ++ b))) := rfl
/-! ### {x!r} of a text -/
def dFmtR (te : DTE) : DTE := fun σ G Q R => te σ G (fun x G1 => match x with | .str z => (reprText z).length ≤ sizeLine ∧ Q (.str (reprText z)) G1 | _ => False) R
theorem de_fmtR (he : DE X W e te) : DE X W (.FormattedValue e 114 none pos) (dFmtR te) :=
  pe_imp (pe_fmtR he) fun σV H P ⟨S, σ, G, Q, R, hc, hee, ht, hx, hq⟩ => by
    refine ⟨S, σ, G, _, R, hc, hee, ht, hx, fun v H1 S1 d G1 a1 r1 q1 => ?_⟩
    cases d <;> first | exact (show False from q1).elim | skip
    exact .inl ⟨_, r1, q1.1, hq _ _ _ (.str _) _ a1 rfl q1.2⟩
def fmrQ (x : D) (P : Str → Prop) : Prop := match x with | .str z => (reprText z).length ≤ sizeLine ∧ P (reprText z) | _ => False
theorem r_fmtR {σ : Ev} {G : GS} {Q : DK} {R : DXK} : dFmtR te σ G Q R = te σ G (fun x G1 => fmrQ x fun z => Q (.str z) G1) R := by
  have e : (fun (x : D) (G1 : GS) => (match x with | .str z => (reprText z).length ≤ sizeLine ∧ Q (.str (reprText z)) G1 | _ => False : Prop)) = fun x G1 => fmrQ x fun z => Q (.str z) G1 := by
    funext x G1
    cases x <;> rfl
  unfold dFmtR
  rw [← e]
theorem q_fmrS {z : Str} {P : Str → Prop} : fmrQ (.str z) P = ((reprText z).length ≤ sizeLine ∧ P (reprText z)) := rfl
/-- the cells the other way about -/
theorem eq_cell2 {n : Nat} {xs : List D} {p : Addr} {G : GS} {Q : DK} (h : PLn n (.lst xs)) (hn : n ≤ 60) (hm : (p, Cell.lst xs) ∈ G) (q : Q (.bl true) G) : dEq (.ref p) (.lst xs) G Q := by
  obtain ⟨p', h1, h2⟩ := h.pl hn
  obtain ⟨p2, g1, g2, _⟩ := h.ex
  rw [g1] at h1
  cases h1
  have e := g1
  simp only [D.py, Option.map_eq_some_iff] at e
  obtain ⟨ps, e1, rfl⟩ := e
  refine ⟨_, _, .inr ⟨p, xs, ps, rfl, hm, e1, rfl⟩, .inl g1, h2, h2, ?_⟩
  rw [PySem.SeqAt.eqv_refl _ g2]
  exact q
end
end DL
set_option Elab.async false
set_option linter.all false
set_option maxRecDepth 100000
set_option maxHeartbeats 4000000
/-! ### sorted by keys: the end of the shell -/
namespace SrtR
open PySem PyProof.Rows Srt SrtO
section
variable {prog : Program} {w : World} {A : Around} {E : Value → Shared → Prop} {s : Shared}
/-- the keys' kind is found, and any two compare as ltk says -/
def KeysOk (prog : Program) (w : World) (A : Around) (s : Shared) (keys : List Value) (ltk : Value → Value → Bool) : Prop :=
  ∃ κ, (∀ (Q : SortKind → Shared → Prop) (E : Value → Shared → Prop), Q κ s → wpAny (model prog w) A (keyKind' keys.toArray) Q E s) ∧ Cmp prog w A s κ (fun p => p.1 ∈ keys) (lt2 ltk)
theorem zip_arr (keys vs : List Value) : (keys.toArray.zip vs.toArray).toList = keys.zip vs := by simp
theorem key_tail {a kS : Addr} {keys vs : List Value} {e e1 : Nat} {ltk : Value → Value → Bool} {R : PySem.Fin → Shared → Prop} {st : SortSt}
    (nk : s.heap.get? kS = some (seqObj "list" keys.toArray e)) (na : s.heap.get? a = some (seqObj "list" #[] e1)) (hka : kS ≠ a) (hl : keys.length = vs.length) (hz : vs.length ≤ sizeLine)
    (h1 : Srtd (lt2 ltk) (arrOf st).toList) (h2 : Stb (lt2 ltk) (arrOf st).toList (keys.zip vs)) (hf : failedOf st = none)
    (h : ∀ out : List Keyed, Srtd (lt2 ltk) out → Stb (lt2 ltk) out (keys.zip vs) → R (.done (.ret .none)) { s with heap := (s.heap.update kS (Obj.mapSeq fun _ => #[])).update a (Obj.mapSeq fun _ => (out.map (·.2)).toArray) }) :
    wpAny (model prog w) A (ksk_tail a false e1 (.ref kS) st) R E s := by
  have s1 := Heap.SameBut.update s.heap kS (Obj.mapSeq fun _ => (#[] : Array Value))
  have na1 : (s.heap.update kS (Obj.mapSeq fun _ => (#[] : Array Value))).get? a = some (seqObj "list" #[] e1) := (s1.2 a hka.symm).trans na
  have hn : (arrOf st).size = vs.length := by
    have := h2.len
    rw [Array.length_toList, List.length_zip, hl, Nat.min_self] at this
    exact this
  have hr := h _ h1 h2
  have e2 : ((arrOf st).toList.map (·.2)).toArray = (arrOf st).map (·.2) := by
    rw [← Array.toList_map, Array.toArray_toList]
  rw [e2] at hr
  unfold ksk_tail
  try dsimp only
  refine wpAny_bind (listUpdate_at nk rfl ?_ (by rw [List.size_toArray]; omega) (Nat.zero_le _))
  refine wpAny_bind (wpAny_letGo ?_)
  refine wpAny_bind (seqEpoch_at na1 rfl ?_)
  refine wpAny_bind (listUpdate_at na1 rfl ?_ (Nat.zero_le _) (by simp only [Bool.false_eq_true, if_false, Array.size_map]; omega))
  rw [hf]
  simp only [bne_self_eq_false, Bool.false_eq_true, if_false]
  exact wpAny_pure hr
theorem key_end {a kS : Addr} {keys vs : List Value} {e e1 : Nat} {ltk : Value → Value → Bool} {R : PySem.Fin → Shared → Prop} (O : Swo ltk) (hS : 2 ≤ vs.length → KeysOk prog w A s keys ltk)
    (nk : s.heap.get? kS = some (seqObj "list" keys.toArray e)) (na : s.heap.get? a = some (seqObj "list" #[] e1)) (hka : kS ≠ a) (hl : keys.length = vs.length) (hz : vs.length ≤ sizeLine)
    (h : ∀ out : List Keyed, Srtd (lt2 ltk) out → Stb (lt2 ltk) out (keys.zip vs) → R (.done (.ret .none)) { s with heap := (s.heap.update kS (Obj.mapSeq fun _ => #[])).update a (Obj.mapSeq fun _ => (out.map (·.2)).toArray) }) :
    wpAny (model prog w) A (ksk_end a false vs.toArray e1 (.ref kS) keys.toArray) R E s := by
  unfold ksk_end
  try dsimp only
  simp only [Bool.false_eq_true, if_false]
  by_cases h2 : vs.toArray.size < 2
  · rw [if_pos h2, if_pos h2]
    refine wpAny_bind (wpAny_pure ?_)
    rw [StateT.run_pure]
    refine wpAny_bind (wpAny_pure ?_)
    try dsimp only
    refine key_tail (st := SortSt.mk' general' (keys.toArray.zip vs.toArray) #[] 7 none) nk na hka hl hz ?_ ?_ rfl h
    · show Srtd (lt2 ltk) (keys.toArray.zip vs.toArray).toList
      rw [zip_arr]
      rw [List.size_toArray] at h2
      match hk : keys.zip vs with
      | [] => exact List.Pairwise.nil
      | [v] => exact List.pairwise_singleton _ _
      | x :: y :: l =>
        have : (keys.zip vs).length = (x :: y :: l).length := by rw [hk]
        rw [List.length_zip, hl, Nat.min_self, List.length_cons, List.length_cons] at this
        omega
    · show Stb (lt2 ltk) (keys.toArray.zip vs.toArray).toList (keys.zip vs)
      rw [zip_arr]
      exact Stb.refl _
  · rw [if_neg h2, if_neg h2]
    rw [List.size_toArray] at h2
    obtain ⟨κ, hkind, hT⟩ := hS (by omega)
    refine wpAny_bind (hkind _ _ ?_)
    have hall : AllL (fun p : Keyed => p.1 ∈ keys) (keys.toArray.zip vs.toArray).toList := fun p hm => by
      rw [zip_arr] at hm
      exact (List.of_mem_zip (a := p.1) (b := p.2) hm).1
    refine wpAny_bind (wpAny_mono (wpS_sortO (st0 := SortSt.mk' κ (keys.toArray.zip vs.toArray) #[] 7 none)
      (Q := fun _ st' => Srtd (lt2 ltk) (arrOf st').toList ∧ Stb (lt2 ltk) (arrOf st').toList (keys.toArray.zip vs.toArray).toList ∧ failedOf st' = none) (swo2 O) hT rfl hall rfl rfl fun st' a1 a2 a3 => ⟨a1, a2, a3⟩) ?_ fun _ _ e => e)
    rintro ⟨⟨⟩, st'⟩ s' ⟨rfl, hp1, hp2, hf⟩
    try dsimp only
    rw [zip_arr] at hp2
    exact key_tail nk na hka hl hz hp1 hp2 hf h
end
end SrtR
set_option Elab.async false
set_option linter.all false
set_option maxRecDepth 100000
set_option maxHeartbeats 4000000
/-! ### sorted by keys: the keys are made, the shell around -/
namespace SrtR
open PySem PyProof.Rows Srt SrtO
section
variable {prog : Program} {w : World} {A : Around} {E : Value → Shared → Prop} {s : Shared}
theorem key_rest {f : Value} {a kS : Addr} {vs : List Value} {e1 : Nat} {b : Bool} {R : PySem.Fin → Shared → Prop} (J : List Value → Shared → Prop) (h0 : J [] s) (hz : vs.length ≤ sizeLine)
    (turn : ∀ i v ks s', vs[i]? = some v → ks.length = i → J ks s' → wpAny (model prog w) A (call f [v]) (fun k s'' => ∃ e, s''.heap.get? kS = some (seqObj "list" ks.toArray e) ∧ J (ks ++ [k]) { s'' with heap := s''.heap.update kS (Obj.mapSeq (·.push k)) }) (fun _ _ => False) s')
    (fin : ∀ ks s', ks.length = vs.length → J ks s' → ∃ e, s'.heap.get? kS = some (seqObj "list" ks.toArray e) ∧ wpAny (model prog w) A (ksk_end a b vs.toArray e1 (.ref kS) ks.toArray) R E s') :
    wpAny (model prog w) A (ksk_rest a f b vs.toArray e1 (.ref kS)) R E s := by
  unfold ksk_rest
  refine wpAny_bind (wpAny_rule ?_)
  first
    | rw [List.forIn_toArray]
    | (rw [← Array.forIn_toList]; simp only [List.toList_toArray])
    | rw [← Array.forIn_toList]
  refine wpAny_bind (ksk_fold (fun i s' => ∃ ks : List Value, ks.length = i ∧ J ks s') vs 0 s ⟨[], rfl, h0⟩ ?step ?done)
  case step =>
    rintro j x s' hx ⟨ks, hl, hJ⟩
    simp only [Nat.zero_add] at hl ⊢
    have hj : j < vs.length := (List.getElem?_eq_some_iff.mp hx).1
    refine wpAny_bind (wpAny_attempt (wpAny_mono (turn j x ks s' hx hl hJ) (fun v s'' he => ?_) fun _ _ hF => hF.elim))
    obtain ⟨e, nk, hJ'⟩ := he
    try dsimp only
    refine wpAny_bind (listUpdate_at nk rfl ?_ (by rw [List.size_toArray]; omega) (Nat.le_trans (Nat.le_of_eq (Array.size_push ..)) (by rw [List.size_toArray]; omega)))
    exact wpAny_pure ⟨rfl, ks ++ [v], by rw [List.length_append, hl]; rfl, hJ'⟩
  case done =>
    rintro s' ⟨ks, hl, hJ⟩
    obtain ⟨e, nk, hr⟩ := fin ks s' (by rw [hl]; omega) hJ
    try dsimp only
    refine wpAny_bind (listItems_at nk rfl ?_)
    exact hr
theorem key_tree {f : Value} {a : Addr} {vs : List Value} {n : Nat} {b : Bool} {R : PySem.Fin → Shared → Prop} (ho : s.heap.get? a = some (seqObj "list" vs.toArray n)) (hz : vs.length ≤ sizeLine)
    (h : ∀ e1, (s.heap.update a (Obj.mapSeq fun _ => #[])).get? a = some (seqObj "list" #[] e1) → wpAny (model prog w) A (ksk_rest a f b vs.toArray e1 (.ref (s.heap.objs.size + 1))) R E { s with heap := ((s.heap.update a (Obj.mapSeq fun _ => #[])).push (seqObj "tuple" vs.toArray 0)).push (seqObj "list" #[] 0) }) :
    wpAny (model prog w) A (ksk_tree a f b) R E s := by
  obtain ⟨e1, ho1⟩ : ∃ e1, (s.heap.update a (Obj.mapSeq fun _ => (#[] : Array Value))).get? a = some (seqObj "list" #[] e1) := ⟨_, get?_update_seq ho fun _ => #[]⟩
  have hkS : ((s.heap.update a (Obj.mapSeq fun _ => (#[] : Array Value))).push (seqObj "tuple" vs.toArray 0)).objs.size = s.heap.objs.size + 1 := by rw [size_push', Heap.size_update]
  have h' := h e1 ho1
  rw [← hkS] at h'
  unfold ksk_tree
  refine wpAny_bind (listItems_at ho rfl ?_)
  refine wpAny_bind (listUpdate_at ho rfl ?_ (by rw [List.size_toArray]; exact hz) (Nat.zero_le _))
  refine wpAny_bind (seqEpoch_at ho1 rfl ?_)
  refine wpAny_bind (wpAny_newTuple ?_ (by show vs.length ≤ _; exact hz))
  refine wpAny_bind (wpAny_newList ?_ (Nat.zero_le _))
  refine wpAny_holding ?_
  exact h'
end
end SrtR
set_option Elab.async false
set_option linter.all false
set_option maxRecDepth 100000
set_option maxHeartbeats 4000000
/-! ### sorted(l, key=f) -/
namespace SrtR
open PySem PyProof.Rows Srt SrtO
section
variable {prog : Program} {w : World} {A : Around} {E : Value → Shared → Prop} {s : Shared}
def sortHeap (h : Heap) (vs : List Value) : Heap := ((h.push (seqObj "list" #[] 0)).update h.objs.size (Obj.mapSeq (· ++ vs.toArray))).push (seqObj "list" vs.toArray 0)
theorem sortHeap_size {h : Heap} {vs : List Value} : (sortHeap h vs).objs.size = h.objs.size + 2 := by
  unfold sortHeap
  rw [size_push', Heap.size_update, size_push']
theorem sortHeap_at {h : Heap} {vs : List Value} : (sortHeap h vs).get? (h.objs.size + 1) = some (seqObj "list" vs.toArray 0) := by
  have hsz : ((h.push (seqObj "list" #[] 0)).update h.objs.size (Obj.mapSeq (· ++ vs.toArray))).objs.size = h.objs.size + 1 := by
    rw [Heap.size_update, size_push']
  unfold sortHeap
  rw [← hsz]; exact Heap.get?_push_size _ rfl
theorem sortHeap_keep {h : Heap} {vs : List Value} {b : Addr} {o : Obj} (q : h.get? b = some o) : b < h.objs.size ∧ (sortHeap h vs).get? b = some o := by
  have hlt : b < h.objs.size := Heap.lt_size q
  refine ⟨hlt, Heap.get?_push_of_some _ ?_⟩
  rw [Heap.get?_update_ne _ _ _ _ (Nat.ne_of_lt hlt)]
  exact Heap.get?_push_of_some _ q
theorem sorted_key {q l : Addr} {vs : List Value} {Q : Value → Shared → Prop} (hl : s.heap.IsList l vs.toArray) (hz : vs.length ≤ sizeLine)
    (h : wpAny (model prog w) A.in1.in1 (ksk_tree (s.heap.objs.size + 1) (.ref q) false) (fun r s2 => r = .done (.ret .none) ∧ Q (.ref (s.heap.objs.size + 1)) s2) E { s with heap := sortHeap s.heap vs }) :
    wpAny (model prog w) A (call (.builtin "sorted") [.ref l] [(Str.ofString "key", .ref q)]) Q E s := by
  refine call_function_entry_kw kind_sorted plain_sorted entry_sorted (ksk_s1 _ _) ?_
  unfold Builtin.«sorted»
  refine wpAny_bind (m := checkCount "sorted" 1 1 _) (wpAny_pure ?_)
  refine wpAny_bind (collect_list hl ?_ hz)
  refine wpAny_bind (wpAny_newList ?_ hz)
  have hsz : ((s.heap.push (seqObj "list" #[] 0)).update s.heap.objs.size (Obj.mapSeq (· ++ vs.toArray))).objs.size = s.heap.objs.size + 1 := by
    rw [Heap.size_update, size_push']
  show wpAny _ _ _ _ _ { s with heap := sortHeap s.heap vs }
  rw [hsz]
  refine wpAny_bind (wpAny_holding (wpAny_call_entry_kw slot_list_sort ⟨_, sortHeap_at, rfl⟩ entry_list_sort ?_ (ksk_l1 _ _)))
  rw [ksk_t1]
  refine wpAny_mono h (fun r s2 hr => ?_) fun _ _ x => x
  obtain ⟨rfl, hq⟩ := hr
  exact ⟨_, rfl, wpAny_pure ⟨_, rfl, hq⟩⟩
end
end SrtR
set_option Elab.async false
set_option linter.all false
set_option maxRecDepth 100000
set_option maxHeartbeats 4000000
/-! ### keys that are tuples of ints, texts, truths -/
namespace SrtR
open PySem PyProof.Rows Srt SrtO HT
/-- a scalar as numbers, so that the order of them is the lexicographic one -/
def encS (z : Str) : List Int := z.cps.toList.map (fun c : Nat => (c : Int) + 1) ++ [0]
def encV : Value → List Int
  | .int n _ => [n]
  | .bool b => [b2i b]
  | .str z _ => encS z
  | _ => []
/-- two scalars of one kind -/
inductive Same : Value → Value → Prop
  | int (m n : Int) (t u : Tok) : Same (.int m t) (.int n u)
  | bl (a b : Bool) : Same (.bool a) (.bool b)
  | str (x y : Str) (t u : Tok) : Same (.str x t) (.str y u)
def encL (vs : List Value) : List Int := vs.flatMap encV
theorem lex_self : ∀ xs : List Int, HT.lexLt xs xs = false
  | [] => rfl
  | x :: xs => by rw [HT.lexLt_cons, if_pos rfl]; exact lex_self xs
theorem lex_pre : ∀ (a : List Int) {xs ys : List Int}, HT.lexLt (a ++ xs) (a ++ ys) = HT.lexLt xs ys
  | [], _, _ => rfl
  | x :: a, xs, ys => by rw [List.cons_append, List.cons_append, HT.lexLt_cons, if_pos rfl]; exact lex_pre a
theorem lex_chars : ∀ (a b : List Nat) {xs ys : List Int}, HT.lexLt ((a.map (fun c : Nat => (c : Int) + 1) ++ [0]) ++ xs) ((b.map (fun c : Nat => (c : Int) + 1) ++ [0]) ++ ys) = if a = b then HT.lexLt xs ys else decide (a < b)
  | [], [], xs, ys => by
    show HT.lexLt (0 :: xs) (0 :: ys) = _
    rw [HT.lexLt_cons, if_pos rfl, if_pos rfl]
  | [], c :: b, xs, ys => by
    show HT.lexLt (0 :: xs) (((c : Int) + 1) :: _) = _
    rw [HT.lexLt_cons, if_neg (by omega), if_neg (by simp)]
    rw [decide_eq_true (show (0 : Int) < (c : Int) + 1 by omega), decide_eq_true (List.nil_lt_cons c b)]
  | c :: a, [], xs, ys => by
    show HT.lexLt (((c : Int) + 1) :: _) (0 :: ys) = _
    rw [HT.lexLt_cons, if_neg (by omega), if_neg (by simp)]
    rw [decide_eq_false (show ¬ ((c : Int) + 1 < 0) by omega), decide_eq_false (List.not_lt_nil _)]
  | c :: a, e :: b, xs, ys => by
    show HT.lexLt (((c : Int) + 1) :: ((a.map _ ++ [0]) ++ xs)) (((e : Int) + 1) :: ((b.map _ ++ [0]) ++ ys)) = _
    rw [HT.lexLt_cons]
    by_cases h : c = e
    · subst h
      rw [if_pos rfl, lex_chars a b]
      by_cases h2 : a = b
      · rw [if_pos h2, if_pos (by rw [h2])]
      · rw [if_neg h2, if_neg (fun z => h2 (List.cons.inj z).2)]
        have e1 : (a < b) ↔ (c :: a < c :: b) := by rw [List.cons_lt_cons_iff]; simp
        by_cases h3 : a < b
        · rw [decide_eq_true h3, decide_eq_true (e1.mp h3)]
        · rw [decide_eq_false h3, decide_eq_false (fun z => h3 (e1.mpr z))]
    · rw [if_neg (by omega), if_neg (fun z => h (List.cons.inj z).1)]
      have e1 : ((c : Int) + 1 < (e : Int) + 1) ↔ (c :: a < e :: b) := by rw [List.cons_lt_cons_iff]; constructor <;> intro z <;> omega
      by_cases h3 : (c : Int) + 1 < (e : Int) + 1
      · rw [decide_eq_true h3, decide_eq_true (e1.mp h3)]
      · rw [decide_eq_false h3, decide_eq_false (fun z => h3 (e1.mpr z))]
section
variable {prog : Program} {w : World} {A : Around} {s : Shared}
/-- how a pair of scalars goes: equal ones go on, others tell their order -/
theorem pair_go {p q : Value} {r : List (Value × Value)} {i : Nat} {fin b : Bool} {rest1 rest2 : List Int} {Z : Bool → Shared → Prop} (h : Same p q) (h0 : i = 0 → ∃ m n t u, p = .int m t ∧ q = .int n u)
    (ht : HT.lexLt (encV p ++ rest1) (encV q ++ rest2) = HT.lexLt rest1 rest2 → PySem.W.KatLex prog w A b fin Z r (i + 1) s)
    (hf : Z (HT.lexLt (encV p ++ rest1) (encV q ++ rest2)) s) : PySem.W.KatLex prog w A b fin Z ((p, q) :: r) i s := by
  have hb : (∃ m n t u, p = .int m t ∧ q = .int n u) ∨ (b && i == 0) = false := by
    by_cases e : i = 0
    · exact .inl (h0 e)
    · exact .inr (by rw [show (i == 0) = false from beq_eq_false_iff_ne.mpr e, Bool.and_false])
  cases h with
  | int m n t u =>
    refine PySem.W.kat_cons (SeqAt.EqAt.int_int m t n u prog w _ _ ?_)
    refine PySem.W.kat_go (fun e1 => ?_) (fun e1 => ?_)
    · have ex : m = n := by simpa using e1
      exact PySem.W.kat_yes (ht (by subst ex; exact lex_pre _))
    · have ex : ¬ m = n := by simpa using e1
      refine PySem.W.kat_no (TS.oneLt_ints _ ?_)
      have e3 : HT.lexLt (encV (.int m t) ++ rest1) (encV (.int n u) ++ rest2) = decide (m < n) := by
        show HT.lexLt (m :: rest1) (n :: rest2) = _
        rw [HT.lexLt_cons, if_neg ex]
      rw [e3] at hf
      exact hf
  | bl a c =>
    have hb2 : (b && i == 0) = false := by
      rcases hb with ⟨_, _, _, _, e, _⟩ | hb
      · cases e
      · exact hb
    refine PySem.W.kat_cons (SeqAt.EqAt.bool_bool a c prog w _ _ ?_)
    refine PySem.W.kat_go (fun e1 => ?_) (fun e1 => ?_)
    · have ex : a = c := by simpa using e1
      exact PySem.W.kat_yes (ht (by subst ex; exact lex_pre _))
    · have ex : ¬ a = c := by simpa using e1
      refine PySem.W.kat_no ?_
      rw [hb2]
      refine PySem.W.kat_one _ _ (PyProof.Rows.lt_bool ?_)
      have e3 : HT.lexLt (encV (.bool a) ++ rest1) (encV (.bool c) ++ rest2) = decide (b2i a < b2i c) := by
        show HT.lexLt (b2i a :: rest1) (b2i c :: rest2) = _
        rw [HT.lexLt_cons, if_neg (fun z => ex (by cases a <;> cases c <;> first | rfl | cases z))]
      rw [e3] at hf
      exact hf
  | str x y t u =>
    have hb2 : (b && i == 0) = false := by
      rcases hb with ⟨_, _, _, _, e, _⟩ | hb
      · cases e
      · exact hb
    have hxy : x.cps.toList = y.cps.toList ↔ x = y := ⟨fun z => by cases x; cases y; simp at z; rw [z], fun z => by rw [z]⟩
    refine PySem.W.kat_cons (SeqAt.EqAt.str_str x t y u prog w _ _ ?_)
    refine PySem.W.kat_go (fun e1 => ?_) (fun e1 => ?_)
    · have ex : x = y := by simpa using e1
      exact PySem.W.kat_yes (ht (by subst ex; exact lex_pre _))
    · have ex : ¬ x = y := by simpa using e1
      refine PySem.W.kat_no ?_
      rw [hb2]
      refine PySem.W.kat_one _ _ (PyProof.Rows.lt_str ?_)
      have e3 : HT.lexLt (encV (.str x t) ++ rest1) (encV (.str y u) ++ rest2) = decide (x.cps.toList < y.cps.toList) := by
        show HT.lexLt (encS x ++ rest1) (encS y ++ rest2) = _
        unfold encS
        rw [lex_chars, if_neg (fun z => ex (hxy.mp z))]
      rw [e3] at hf
      exact hf
end
end SrtR
set_option Elab.async false
set_option linter.all false
set_option maxRecDepth 100000
set_option maxHeartbeats 4000000
/-! ### keys of one shape, the first thing an int -/
namespace SrtR
open PySem PyProof.Rows Srt SrtO HT
inductive Kd : Nat → Value → Prop
  | int (n : Int) (t : Tok) : Kd 0 (.int n t)
  | str (z : Str) (t : Tok) : Kd 1 (.str z t)
  | bl (b : Bool) : Kd 2 (.bool b)
theorem Kd.same {k : Nat} {p q : Value} (h : Kd k p) (g : Kd k q) : Same p q := by
  cases h <;> cases g <;> constructor
inductive Shp : List Nat → List Value → Prop
  | nil : Shp [] []
  | cons {k : Nat} {v : Value} {ks : List Nat} {vs : List Value} (h : Kd k v) (r : Shp ks vs) : Shp (k :: ks) (v :: vs)
theorem Shp.len {ks : List Nat} {vs : List Value} (h : Shp ks vs) : vs.length = ks.length := by
  induction h with
  | nil => rfl
  | cons _ _ ih => rw [List.length_cons, List.length_cons, ih]
/-- a tuple of that shape -/
def KeyAt (h : Heap) (ks : List Nat) (v : Value) (us : List Value) : Prop := ∃ a o n, v = .ref a ∧ h.get? a = some o ∧ o.cls = .type "tuple" ∧ o.data = .seq us.toArray n ∧ Shp (0 :: ks) us
section
variable {prog : Program} {w : World} {A : Around} {s : Shared}
theorem lex_all {b : Bool} {Z : Bool → Shared → Prop} : ∀ {ks : List Nat} {vs us : List Value} {i : Nat}, Shp ks vs → Shp ks us → (i = 0 → ∃ r, ks = 0 :: r) → Z (HT.lexLt (encL vs) (encL us)) s → PySem.W.KatLex prog w A b false Z (vs.zip us) i s
  | _, _, _, _, .nil, .nil, _, h => PySem.W.kat_nil h
  | _, _, _, i, .cons (ks := ks) (vs := vs) hk hr, .cons (vs := us) gk gr, h0, h => by
    rw [List.zip_cons_cons]
    refine pair_go (rest1 := encL vs) (rest2 := encL us) (hk.same gk) (fun e => ?_) (fun e => ?_) h
    · obtain ⟨r, e2⟩ := h0 e
      cases e2
      cases hk
      cases gk
      exact ⟨_, _, _, _, rfl, rfl⟩
    · refine lex_all hr gr (fun z => by omega) ?_
      rw [← e]
      exact h
theorem keys_cmp {keys : List Value} {ks : List Nat} {k : Value → List Value} (hp : ∀ v ∈ keys, KeyAt s.heap ks v (k v)) : Cmp prog w A s (tuples' true) (fun p => p.1 ∈ keys) (lt2 fun v u => HT.lexLt (encL (k v)) (encL (k u))) := by
  intro p q hm hm'
  obtain ⟨a, o, n, e, ho, hc, hd, hs⟩ := hp _ hm
  obtain ⟨a', o', n', e', ho', hc', hd', hs'⟩ := hp _ hm'
  show wpAny (model prog w) A (keyLt' (tuples' true) p.1 q.1) (fun r s' => s' = s ∧ r = HT.lexLt (encL (k p.1)) (encL (k q.1))) (fun _ _ => False) s
  have fin : decide ((k p.1).toArray.size < (k q.1).toArray.size) = false := decide_eq_false (by rw [List.size_toArray, List.size_toArray, hs.len, hs'.len]; omega)
  generalize k p.1 = us at hd hs fin ⊢
  generalize k q.1 = us' at hd' hs' fin ⊢
  rw [e, e']
  refine PySem.W.kat_lt ho hd ho' hd' ?_
  rw [fin]
  exact lex_all hs hs' (fun _ => ⟨ks, rfl⟩) ⟨rfl, rfl⟩
theorem keys_first {h : Heap} {ks : List Nat} {k : Value → List Value} : ∀ {keys : List Value}, (∀ v ∈ keys, KeyAt h ks v (k v)) → ∃ fs : List Value, PySem.W.KatTups h keys fs ∧ fs.length = keys.length ∧ ∀ f ∈ fs, ∃ x t, f = Value.int x t
  | [], _ => ⟨[], PySem.W.KatTups.nil, rfl, fun _ hm => by simp at hm⟩
  | v :: vs, hp => by
    obtain ⟨fs, h1, h2, h3⟩ := keys_first (keys := vs) fun v' hm => hp v' (List.mem_cons_of_mem _ hm)
    obtain ⟨a, o, n, e, ho, hc, hd, hs⟩ := hp v (List.mem_cons_self ..)
    subst e
    generalize k (.ref a) = us at hd hs
    cases hs with
    | cons hk hr =>
      cases hk with
      | int m t =>
        refine ⟨.int m t :: fs, PySem.W.KatTups.cons ho hc hd (by simp) h1, by rw [List.length_cons, List.length_cons, h2], fun f hm => ?_⟩
        rcases List.mem_cons.mp hm with rfl | hm
        · exact ⟨m, t, rfl⟩
        · exact h3 f hm
theorem keys_ok {keys : List Value} {ks : List Nat} {k : Value → List Value} (h0 : 0 < keys.length) (hp : ∀ v ∈ keys, KeyAt s.heap ks v (k v)) : KeysOk prog w A s keys fun v u => HT.lexLt (encL (k v)) (encL (k u)) := by
  obtain ⟨fs, h1, h2, h3⟩ := keys_first hp
  refine ⟨tuples' true, fun Q E hq => ?_, keys_cmp hp⟩
  refine PySem.W.kat_kind (T := .type "int") h1 (by omega) (fun f hm => ?_) (by rfl) ?_
  · obtain ⟨x, t, rfl⟩ := h3 f hm
    exact PySem.W.Looks.now
  · have e : (Value.type "int" != Value.type "tuple") = true := by first | decide +kernel | rfl | decide
    rw [e]
    exact hq
end
end SrtR
set_option Elab.async false
set_option linter.all false
set_option maxRecDepth 100000
set_option maxHeartbeats 4000000
/-! ### the one stable sorted list -/
namespace SrtR
open PySem PyProof.Rows Srt SrtO HT
section
variable {α β : Type} {lt : α → α → Bool}
def ins1 (lt : α → α → Bool) (x : α) : List α → List α
  | [] => [x]
  | y :: l => if lt y x = true then y :: ins1 lt x l else x :: y :: l
def isort (lt : α → α → Bool) (l : List α) : List α := l.foldr (ins1 lt) []
theorem ins1_perm (x : α) : ∀ l : List α, (ins1 lt x l).Perm (x :: l)
  | [] => List.Perm.refl _
  | y :: l => by
    unfold ins1
    split
    · exact ((ins1_perm x l).cons y).trans (List.Perm.swap x y l)
    · exact List.Perm.refl _
theorem ins1_srtd (O : Swo lt) {x : α} : ∀ {l : List α}, Srtd lt l → Srtd lt (ins1 lt x l)
  | [], _ => List.pairwise_singleton _ _
  | y :: l, h => by
    have h1 := List.pairwise_cons.mp h
    unfold ins1
    split
    · rename_i hy
      refine List.pairwise_cons.mpr ⟨fun z hz => ?_, ins1_srtd O h1.2⟩
      rcases List.mem_cons.mp ((ins1_perm x l).mem_iff.mp hz) with rfl | hz
      · exact O.asym _ _ hy
      · exact h1.1 z hz
    · rename_i hy
      have hy' : lt y x = false := by cases h2 : lt y x <;> simp_all
      refine List.pairwise_cons.mpr ⟨fun z hz => ?_, h⟩
      rcases List.mem_cons.mp hz with rfl | hz
      · exact hy'
      · exact O.tr _ _ _ hy' (h1.1 z hz)
theorem ins1_cls (O : Swo lt) {x : α} (v : α) : ∀ {l : List α}, (ins1 lt x l).filter (eqv lt v) = (x :: l).filter (eqv lt v)
  | [] => rfl
  | y :: l => by
    unfold ins1
    split
    · rename_i hy
      rw [List.filter_cons, ins1_cls O v, List.filter_cons, List.filter_cons, List.filter_cons]
      by_cases h1 : eqv lt v y = true
      · by_cases h2 : eqv lt v x = true
        · exfalso
          have a := eqv_iff.mp h1
          have b := eqv_iff.mp h2
          have c := O.tr _ _ _ b.1 a.2
          rw [hy] at c
          cases c
        · rw [if_pos h1, if_neg h2, if_neg h2, if_pos h1]
      · rw [if_neg h1, if_neg h1]
    · rfl
theorem isort_perm : ∀ l : List α, (isort lt l).Perm l
  | [] => List.Perm.refl _
  | x :: l => (ins1_perm x _).trans ((isort_perm l).cons x)
theorem isort_srtd (O : Swo lt) : ∀ l : List α, Srtd lt (isort lt l)
  | [] => List.Pairwise.nil
  | x :: l => ins1_srtd O (isort_srtd O l)
theorem isort_cls (O : Swo lt) (v : α) : ∀ l : List α, (isort lt l).filter (eqv lt v) = l.filter (eqv lt v)
  | [] => rfl
  | x :: l => by
    show (ins1 lt x (isort lt l)).filter (eqv lt v) = _
    rw [ins1_cls O v, List.filter_cons, List.filter_cons, isort_cls O v l]
theorem isort_stb (O : Swo lt) (l : List α) : Stb lt (isort lt l) l := ⟨isort_perm l, fun x => isort_cls O x l⟩
theorem isort_uniq (O : Swo lt) {l m : List α} (h1 : Srtd lt m) (h2 : Stb lt m l) : m = isort lt l := stb_uniq O h1 (isort_srtd O l) (h2.trans ⟨(isort_stb O l).perm.symm, fun x => ((isort_stb O l).cls x).symm⟩)
theorem isort_map {lt : β → β → Bool} (f : α → β) : ∀ l : List α, isort lt (l.map f) = (isort (fun x y => lt (f x) (f y)) l).map f
  | [] => rfl
  | x :: l => by
    show ins1 lt (f x) (isort lt (l.map f)) = (ins1 _ x (isort _ l)).map f
    rw [isort_map f l]
    generalize isort (fun x y => lt (f x) (f y)) l = m
    induction m with
    | nil => rfl
    | cons y m ih =>
      show ins1 lt (f x) (f y :: m.map f) = _
      unfold ins1
      by_cases h : lt (f y) (f x) = true
      · rw [if_pos h, if_pos h, List.map_cons, ih]
      · rw [if_neg h, if_neg h]
        rfl
end
end SrtR
set_option Elab.async false
set_option linter.all false
set_option maxRecDepth 100000
set_option maxHeartbeats 4000000
/-! ### sorted by key over Inv -/
namespace SrtR
open PySem PyProof.Rows Srt SrtO HT
section
variable {α β : Type} {R : α → β → Prop} {l1 : α → α → Bool} {l2 : β → β → Bool}
inductive All2 (R : α → β → Prop) : List α → List β → Prop
  | nil : All2 R [] []
  | cons {a : α} {b : β} {as : List α} {bs : List β} (h : R a b) (r : All2 R as bs) : All2 R (a :: as) (b :: bs)
theorem ins1_two (hR : ∀ a b c d, R a b → R c d → l1 a c = l2 b d) {x : α} {y : β} (h : R x y) : ∀ {as : List α} {bs : List β}, All2 R as bs → All2 R (ins1 l1 x as) (ins1 l2 y bs)
  | _, _, .nil => .cons h .nil
  | _, _, .cons (a := a) (b := b) (as := as) (bs := bs) g r => by
    unfold ins1
    rw [hR a b x y g h]
    by_cases e : l2 b y = true
    · rw [if_pos e, if_pos e]
      exact .cons g (ins1_two hR h r)
    · rw [if_neg e, if_neg e]
      exact .cons h (.cons g r)
theorem isort_two (hR : ∀ a b c d, R a b → R c d → l1 a c = l2 b d) : ∀ {as : List α} {bs : List β}, All2 R as bs → All2 R (isort l1 as) (isort l2 bs)
  | _, _, .nil => .nil
  | _, _, .cons h r => ins1_two hR h (isort_two hR r)
end
end SrtR
namespace L2
open PySem PySem.Spec PyProof.Rows SrtR SrtO
/-- a scalar as numbers -/
def encVV : V → List Int
  | .int n => [n]
  | .bl b => [b2i b]
  | .str z => encS z
  | _ => []
def encVs (us : List V) : List Int := us.flatMap encVV
inductive KdV : Nat → V → Prop
  | int (n : Int) : KdV 0 (.int n)
  | str (z : Str) : KdV 1 (.str z)
  | bl (b : Bool) : KdV 2 (.bl b)
inductive ShpV : List Nat → List V → Prop
  | nil : ShpV [] []
  | cons {k : Nat} {v : V} {ks : List Nat} {vs : List V} (h : KdV k v) (r : ShpV ks vs) : ShpV (k :: ks) (v :: vs)
theorem KdV.v {k : Nat} {x : V} {u : Value} (h : KdV k x) (r : RelV x u) : Kd k u ∧ encV u = encVV x := by
  cases h with
  | int n => obtain ⟨t, rfl⟩ := r; exact ⟨.int n t, rfl⟩
  | str z => obtain ⟨t, rfl⟩ := r; exact ⟨.str z t, rfl⟩
  | bl b => cases r; exact ⟨.bl b, rfl⟩
theorem ShpV.v : ∀ {ks : List Nat} {vs : List V} {us : List Value}, ShpV ks vs → Vals vs us → Shp ks us ∧ encL us = encVs vs
  | _, _, us, .nil, r => by
    have := r.length
    cases us with
    | nil => exact ⟨.nil, rfl⟩
    | cons a b => simp at this
  | _, _, us, .cons (vs := vs) h g, r => by
    cases r with
    | cons r1 r2 =>
      obtain ⟨h1, h2⟩ := h.v r1
      obtain ⟨g1, g2⟩ := g.v r2
      refine ⟨.cons h1 g1, ?_⟩
      show encL (_ :: _) = encVs (_ :: _)
      unfold encL encVs at g2 ⊢
      rw [List.flatMap_cons, List.flatMap_cons, h2, g2]
/-- the order of two keys -/
def ltK (p q : List V × V) : Bool := HT.lexLt (encVs p.1) (encVs q.1)
def sortV (kss : List (List V)) (xs : List V) : List V := (isort ltK (kss.zip xs)).map (·.2)
end L2
set_option Elab.async false
set_option linter.all false
set_option maxRecDepth 100000
set_option maxHeartbeats 4000000
/-! ### sorted by key over Inv: the run -/
namespace L2
open PySem PySem.Spec PyProof.Rows SrtR SrtO
section
variable {X : Cx} {pins : List (Addr × Obj)} {σ : L2.St} {H : Hp} {s : Shared} {A : Around}
theorem ref_vs : ∀ {ts : List Addr} {us : List Value}, Vals (ts.map V.ref) us → us = ts.map Value.ref
  | [], us, r => by
    have := r.length
    cases us with
    | nil => rfl
    | cons a b => simp at this
  | t :: ts, us, r => by
    cases r with
    | cons r1 r2 =>
      cases r1
      rw [ref_vs r2]
      rfl
/-- the items of the tuple at a reference -/
def itAt (h : Heap) : Value → List Value
  | .ref t => match h.get? t with
    | some o => match o.data with
      | .seq xs _ => xs.toList
      | _ => []
    | none => []
  | _ => []
/-- what the keys' list looks like, behind some of the calls -/
def KeysIn (X : Cx) (pins : List (Addr × Obj)) (σ : L2.St) (H : Hp) (kss : List (List V)) (a' kS : Addr) (e1 : Nat) (ks : List Value) (s' : Shared) : Prop :=
  ∃ (H' : Hp) (ts : List Addr), ks = ts.map Value.ref ∧ Inv X pins σ H' s' ∧ Ext H H' ∧ H' kS = some (.lst (ts.map V.ref)) ∧ H' a' = some (.ext fun h => h.get? a' = some (seqObj "list" #[] e1)) ∧ ∀ (i : Nat) t, ts[i]? = some t → ∃ us, kss[i]? = some us ∧ SqT X.K H' t us
theorem SqT.put {K : PySem.W.Frag} {H : Hp} {a t : Addr} {zs us : List V} {o : HO} (hk : H a = some (.lst zs)) (h : SqT K H t us) : SqT K (upd H a o) t us := by
  rcases h with (h | ⟨o', h⟩) | h
  · exact .inl (.inl (by rw [upd_ne (fun z => by subst z; rw [hk] at h; cases h)]; exact h))
  · exact .inl (.inr ⟨o', by rw [upd_ne (fun z => by subst z; rw [hk] at h; cases h)]; exact h⟩)
  · exact .inr h
theorem keys_turn {n : Nat} {fa : Addr} {xs : List V} {kss : List (List V)} {vs : List Value} {a' kS : Addr} {e1 : Nat} (sb : DL.SubG X n A) (rv : Vals xs vs) (hn : H kS = none) (hz : vs.length ≤ sizeLine)
    (turn : ∀ (i : Nat) (x : V) (A' : Around) (s' : Shared) (H' : Hp) (u : Value), xs[i]? = some x → DL.SubG X n A' → Inv X pins σ H' s' → Ext H H' → RelV x u →
      wpAny (model X.prog X.w) A' (call (.ref fa) [u]) (fun r s'' => ∃ t us H'', r = .ref t ∧ kss[i]? = some us ∧ SqT X.K H'' t us ∧ Inv X pins σ H'' s'' ∧ Ext H' H'') (fun _ _ => False) s') :
    ∀ i v ks s', vs[i]? = some v → ks.length = i → KeysIn X pins σ H kss a' kS e1 ks s' → wpAny (model X.prog X.w) A (call (.ref fa) [v]) (fun k s'' => ∃ e, s''.heap.get? kS = some (seqObj "list" ks.toArray e) ∧ KeysIn X pins σ H kss a' kS e1 (ks ++ [k]) { s'' with heap := s''.heap.update kS (Obj.mapSeq (·.push k)) }) (fun _ _ => False) s' := by
  intro i v ks s' hv hl ⟨H', ts, e, I, ex, hk, ha, hts⟩
  subst e
  obtain ⟨x, hx, rx⟩ : ∃ x, xs[i]? = some x ∧ RelV x v := by
    cases q : xs[i]? with
    | none => rw [Vals.none_of rv q] at hv; cases hv
    | some x =>
      obtain ⟨u, h1, h2⟩ := Vals.get rv q
      rw [h1] at hv
      cases hv
      exact ⟨x, rfl, h2⟩
  refine wpAny_mono (turn i x A s' H' v hx sb I ex rx) (fun r s'' hr => ?_) fun _ _ z => z
  obtain ⟨t, us, H'', rfl, hus, ht, I2, ex2⟩ := hr
  have hk2 := ex2 _ _ hk
  have ha2 := ex2 _ _ ha
  obtain ⟨z, its, n', r, hl2, e2⟩ := I2.lstM hk2
  obtain rfl := ref_vs r
  have hak : a' ≠ kS := fun z => by
    subst z
    rw [hk2] at ha2
    cases ha2
  have hi : ts.length = i := by rw [← hl, List.length_map]
  refine ⟨n', e2, upd H'' kS (.lst ((ts ++ [t]).map V.ref)), ts ++ [t], by rw [List.map_append]; rfl, ?_, fun b o hb => ?_, upd_same, by rw [upd_ne hak]; exact ha2, fun j t' hj => ?_⟩
  · have hi2 : i < vs.length := (List.getElem?_eq_some_iff.mp hv).1
    refine I2.lset (t' := s''.toks) (its' := (ts ++ [t]).map Value.ref) hk2 e2 (by simp) (vals_refs _) ?_
    rw [List.length_map, List.length_append, hi, List.length_singleton]
    omega
  · rw [upd_ne (fun z => by subst z; rw [hn] at hb; cases hb)]
    exact ex2 _ _ (ex _ _ hb)
  · by_cases hj2 : j < ts.length
    · rw [List.getElem?_append_left hj2] at hj
      obtain ⟨us', h1, h2⟩ := hts j t' hj
      exact ⟨us', h1, (h2.ext ex2).put hk2⟩
    · have hj3 : j < (ts ++ [t]).length := (List.getElem?_eq_some_iff.mp hj).1
      rw [List.length_append, List.length_singleton] at hj3
      have : j = ts.length := by omega
      subst this
      rw [List.getElem?_append_right (Nat.le_refl _), Nat.sub_self] at hj
      cases hj
      exact ⟨us, by rw [hi]; exact hus, ht.put hk2⟩
end
end L2
set_option Elab.async false
set_option linter.all false
set_option maxRecDepth 100000
set_option maxHeartbeats 4000000
/-! ### sorted by key over Inv: all -/
namespace L2
open PySem PySem.Spec PyProof.Rows SrtR SrtO
theorem all2_of {α β : Type} {R : α → β → Prop} : ∀ {as : List α} {bs : List β}, as.length = bs.length → (∀ (i : Nat) a b, as[i]? = some a → bs[i]? = some b → R a b) → All2 R as bs
  | [], [], _, _ => .nil
  | [], b :: bs, h, _ => by simp at h
  | a :: as, [], h, _ => by simp at h
  | a :: as, b :: bs, h, g => .cons (g 0 a b rfl rfl) (all2_of (by simpa using h) fun i x y h1 h2 => g (i + 1) x y h1 h2)
theorem all2_vals {α β : Type} {R : α → β → Prop} {f : α → Value} {g : β → V} (hR : ∀ a b, R a b → RelV (g b) (f a)) : ∀ {as : List α} {bs : List β}, All2 R as bs → Vals (bs.map g) (as.map f)
  | _, _, .nil => .nil
  | _, _, .cons h r => .cons (hR _ _ h) (all2_vals hR r)
theorem all2_len {α β : Type} {R : α → β → Prop} : ∀ {as : List α} {bs : List β}, All2 R as bs → as.length = bs.length
  | _, _, .nil => rfl
  | _, _, .cons _ r => by rw [List.length_cons, List.length_cons, all2_len r]
section
variable {X : Cx} {pins : List (Addr × Obj)} {σ : L2.St} {H : Hp} {s : Shared} {A : Around}
theorem key_at {ks : List Nat} {us : List V} {t : Addr} {H' : Hp} {s' : Shared} (I : Inv X pins σ H' s') (ht : SqT X.K H' t us) (hsh : ShpV (0 :: ks) us) : KeyAt s'.heap ks (.ref t) (itAt s'.heap (.ref t)) ∧ encL (itAt s'.heap (.ref t)) = encVs us := by
  obtain ⟨its, r, ⟨o, ho, hc, n, hd⟩, _⟩ := I.tuple ht
  obtain ⟨h1, h2⟩ := hsh.v r
  have e : itAt s'.heap (.ref t) = its := by
    unfold itAt
    simp only [ho, hd]
  rw [e]
  exact ⟨⟨t, o, n, rfl, ho, hc, hd, h1⟩, h2⟩
theorem keys_fin {n : Nat} {ks0 : List Nat} {xs : List V} {kss : List (List V)} {vs : List Value} {a' kS : Addr} {e1 : Nat} {E : Value → Shared → Prop} {R : PySem.Fin → Shared → Prop} (rv : Vals xs vs) (hn : H kS = none) (hna : H a' = none) (hz : vs.length ≤ sizeLine) (hkl : kss.length = xs.length) (hsh : ∀ us ∈ kss, ShpV (0 :: ks0) us)
    (q : ∀ H' s', Ext H H' → H' a' = some (.lst (sortV kss xs)) → Inv X pins σ H' s' → R (.done (.ret .none)) s') :
    ∀ ks s', ks.length = vs.length → KeysIn X pins σ H kss a' kS e1 ks s' → ∃ e, s'.heap.get? kS = some (seqObj "list" ks.toArray e) ∧ wpAny (model X.prog X.w) A (ksk_end a' false vs.toArray e1 (.ref kS) ks.toArray) R E s' := by
  intro ks s' hl ⟨H', ts, e, I, ex, hk, ha, hts⟩
  subst e
  obtain ⟨z, its, n', r, hl2, e2⟩ := I.lstM hk
  obtain rfl := ref_vs r
  obtain ⟨ha1, _, _⟩ := I.hok _ _ ha
  have ha1 : s'.heap.get? a' = some (seqObj "list" #[] e1) := ha1
  have hak : kS ≠ a' := fun z => by
    subst z
    rw [hk] at ha
    cases ha
  have hlt : ts.length = vs.length := by rw [← hl, List.length_map]
  have hlx : vs.length = xs.length := rv.length.symm
  have hka : ∀ v ∈ ts.map Value.ref, KeyAt s'.heap ks0 v (itAt s'.heap v) := fun v hv => by
    obtain ⟨t, ht, rfl⟩ := List.mem_map.mp hv
    obtain ⟨i, hi⟩ := List.mem_iff_getElem?.mp ht
    obtain ⟨us, h1, h2⟩ := hts i t hi
    exact (key_at I h2 (hsh us (List.mem_of_getElem? h1))).1
  refine ⟨n', e2, ?_⟩
  refine key_end (ltk := fun v u => HT.lexLt (encL (itAt s'.heap v)) (encL (itAt s'.heap u))) (NtL.swo_lexL fun v => encL (itAt s'.heap v)) (fun h2 => keys_ok (by rw [List.length_map]; omega) hka) e2 ha1 hak hl hz fun out h1 h2 => ?_
  have ho := isort_uniq (swo2 (NtL.swo_lexL fun v => encL (itAt s'.heap v))) h1 h2
  have hall : All2 (fun (p : Keyed) (q : List V × V) => encL (itAt s'.heap p.1) = encVs q.1 ∧ RelV q.2 p.2) ((ts.map Value.ref).zip vs) (kss.zip xs) := by
    refine all2_of (by simp [List.length_zip]; omega) fun i p q hp hq => ?_
    rw [List.getElem?_zip_eq_some] at hp hq
    obtain ⟨p1, p2⟩ := hp
    obtain ⟨q1, q2⟩ := hq
    rw [List.getElem?_map, Option.map_eq_some_iff] at p1
    obtain ⟨t, ht, e3⟩ := p1
    obtain ⟨us, h3, h4⟩ := hts i t ht
    rw [q1] at h3
    cases h3
    obtain ⟨u, h5, h6⟩ := Vals.get rv q2
    rw [p2] at h5
    cases h5
    refine ⟨?_, h6⟩
    rw [← e3]
    exact (key_at I h4 (hsh _ (List.mem_of_getElem? q1))).2
  have hsort := isort_two (l1 := lt2 fun v u => HT.lexLt (encL (itAt s'.heap v)) (encL (itAt s'.heap u))) (l2 := ltK) (fun a b c d h g => by
    show HT.lexLt _ _ = HT.lexLt _ _
    rw [h.1, g.1]) hall
  rw [← ho] at hsort
  have hvals : Vals (sortV kss xs) (out.map (·.2)) := all2_vals (fun a b h => h.2) hsort
  have I2 := I.lset (t' := s'.toks) (its' := []) (f := fun _ => #[]) (ys := []) hk e2 rfl .nil (Nat.zero_le _)
  have ha2 : upd H' kS (.lst []) a' = some (.ext fun h => h.get? a' = some (seqObj "list" #[] e1)) := by rw [upd_ne (Ne.symm hak)]; exact ha
  obtain ⟨ha3, _, _⟩ := I2.hok _ _ ha2
  have ha3 : (s'.heap.update kS (Obj.mapSeq fun _ => (#[] : Array Value))).get? a' = some (seqObj "list" #[] e1) := ha3
  obtain ⟨c2, hc2⟩ : ∃ c2, ((s'.heap.update kS (Obj.mapSeq fun _ => (#[] : Array Value))).update a' (Obj.mapSeq fun _ => (out.map (·.2)).toArray)).get? a' = some (seqObj "list" (out.map (·.2)).toArray c2) := ⟨_, get?_update_seq ha3 fun _ => (out.map (·.2)).toArray⟩
  have hlen : (sortV kss xs).length ≤ sizeLine := by
    rw [hvals.length, List.length_map, h2.len, List.length_zip, List.length_map, hlt, Nat.min_self]
    exact hz
  have I3 := I2.write (t' := s'.toks) (x := a') (e := a') (o := .lst (sortV kss xs)) (h' := (s'.heap.update kS (Obj.mapSeq fun _ => (#[] : Array Value))).update a' (Obj.mapSeq fun _ => (out.map (·.2)).toArray)) (by rw [ha2]; exact trivial) (.inl rfl)
    (fun b' u hb hu => (Heap.get?_update_other _ (Obj.mapSeq _) (Ne.symm hb)).trans hu) ⟨_, hc2⟩ ⟨hlen, _, c2, hvals, hc2⟩
  refine q _ _ (fun b o hb => ?_) upd_same I3
  have h5 : b ≠ a' := fun z => by subst z; rw [hna] at hb; cases hb
  have h6 : b ≠ kS := fun z => by subst z; rw [hn] at hb; cases hb
  rw [upd_ne h5, upd_ne h6]
  exact ex _ _ hb
end
end L2
set_option Elab.async false
set_option linter.all false
set_option maxRecDepth 100000
set_option maxHeartbeats 4000000
/-! ### sorted(l, key=f) over Inv -/
namespace L2
open PySem PySem.Spec PyProof.Rows SrtR SrtO
section
variable {X : Cx} {pins : List (Addr × Obj)} {σ : L2.St} {H : Hp} {s : Shared} {A : Around}
theorem sortK_inv {n : Nat} {a fa : Addr} {ks0 : List Nat} {xs : List V} {kss : List (List V)} {E : Value → Shared → Prop} {Q : Value → Shared → Prop} (sb : DL.SubG X (n + 2) A) (I : Inv X pins σ H s) (hs : SqL X.K H a xs) (hkl : kss.length = xs.length) (hsh : ∀ us ∈ kss, ShpV (0 :: ks0) us)
    (turn : ∀ (i : Nat) (x : V) (A' : Around) (s' : Shared) (H' : Hp) (u : Value), xs[i]? = some x → DL.SubG X n A' → Inv X pins σ H' s' → Ext H H' → RelV x u →
      wpAny (model X.prog X.w) A' (call (.ref fa) [u]) (fun r s'' => ∃ t us H'', r = .ref t ∧ kss[i]? = some us ∧ SqT X.K H'' t us ∧ Inv X pins σ H'' s'' ∧ Ext H' H'') (fun _ _ => False) s')
    (q : ∀ p H' s', H p = none → Ext H H' → H' p = some (.lst (sortV kss xs)) → Inv X pins σ H' s' → Q (.ref p) s') :
    wpAny (model X.prog X.w) A (call (.builtin "sorted") [.ref a] [(Str.ofString "key", .ref fa)]) Q E s := by
  obtain ⟨its, rv, hl, hz⟩ := I.list hs
  have hz : its.length ≤ sizeLine := by rw [← rv.length]; exact hz
  refine sorted_key (vs := its) hl.isList hz ?_
  refine key_tree (s := { s with heap := sortHeap s.heap its }) sortHeap_at hz fun e1 ho1 => ?_
  have hna : H (s.heap.objs.size + 1) = none := I.hok.fresh (Nat.le_succ _)
  have hk0 : (sortHeap s.heap its).objs.size + 1 = s.heap.objs.size + 3 := by rw [sortHeap_size]
  have hnk : H (s.heap.objs.size + 3) = none := I.hok.fresh (by omega)
  show wpAny _ _ (ksk_rest (s.heap.objs.size + 1) (.ref fa) false its.toArray e1 (.ref ((sortHeap s.heap its).objs.size + 1))) _ _ { s with heap := (((sortHeap s.heap its).update (s.heap.objs.size + 1) (Obj.mapSeq fun _ => #[])).push (seqObj "tuple" its.toArray 0)).push (seqObj "list" #[] 0) }
  rw [hk0]
  have ho1 : ((sortHeap s.heap its).update (s.heap.objs.size + 1) (Obj.mapSeq fun _ => #[])).get? (s.heap.objs.size + 1) = some (seqObj "list" #[] e1) := ho1
  have keep1 : ∀ b u, s.heap.get? b = some u → ((sortHeap s.heap its).update (s.heap.objs.size + 1) (Obj.mapSeq fun _ => (#[] : Array Value))).get? b = some u := fun b u hb => by
    obtain ⟨h1, h2⟩ := sortHeap_keep (vs := its) hb
    rw [Heap.get?_update_ne _ _ _ _ (Nat.ne_of_lt (Nat.lt_succ_of_lt h1))]
    exact h2
  have I1 := I.laid (a := s.heap.objs.size + 1) (o := .ext fun h => h.get? (s.heap.objs.size + 1) = some (seqObj "list" #[] e1)) (h' := (sortHeap s.heap its).update (s.heap.objs.size + 1) (Obj.mapSeq fun _ => (#[] : Array Value))) (t' := s.toks) keep1 (Nat.le_succ _)
    ⟨ho1, ⟨_, ho1⟩, fun h1 h2 g1 g2 => g2 _ g1⟩
  have hsz1 : ((sortHeap s.heap its).update (s.heap.objs.size + 1) (Obj.mapSeq fun _ => (#[] : Array Value))).objs.size = s.heap.objs.size + 2 := by rw [Heap.size_update, sortHeap_size]
  have hsz2 : (((sortHeap s.heap its).update (s.heap.objs.size + 1) (Obj.mapSeq fun _ => (#[] : Array Value))).push (seqObj "tuple" its.toArray 0)).objs.size = s.heap.objs.size + 3 := by rw [size_push', hsz1]
  have hnew : ((((sortHeap s.heap its).update (s.heap.objs.size + 1) (Obj.mapSeq fun _ => (#[] : Array Value))).push (seqObj "tuple" its.toArray 0)).push (seqObj "list" #[] 0)).get? (s.heap.objs.size + 3) = some (seqObj "list" #[] 0) := by
    rw [← hsz2]; exact Heap.get?_push_size _ rfl
  have I2 := I1.laid (a := s.heap.objs.size + 3) (o := .lst []) (h' := (((sortHeap s.heap its).update (s.heap.objs.size + 1) (Obj.mapSeq fun _ => (#[] : Array Value))).push (seqObj "tuple" its.toArray 0)).push (seqObj "list" #[] 0)) (t' := s.toks)
    (fun b u hb => Heap.get?_push_of_some _ (Heap.get?_push_of_some _ hb)) (by show _ ≤ _; rw [hsz1]; omega) ⟨Nat.zero_le _, [], 0, .nil, hnew⟩
  have e0 : ∀ b o, H b = some o → (upd (upd H (s.heap.objs.size + 1) (.ext fun h => h.get? (s.heap.objs.size + 1) = some (seqObj "list" #[] e1))) (s.heap.objs.size + 3) (.lst [])) b = some o := fun b o hb => by
    rw [upd_ne (fun z => by subst z; rw [hnk] at hb; cases hb), upd_ne (fun z => by subst z; rw [hna] at hb; cases hb)]
    exact hb
  refine key_rest (KeysIn X pins σ H kss (s.heap.objs.size + 1) (s.heap.objs.size + 3) e1) ⟨_, [], rfl, I2, e0, upd_same, by rw [upd_ne (Nat.ne_of_lt (show s.heap.objs.size + 1 < s.heap.objs.size + 3 by omega))]; exact upd_same, fun i t h => by simp at h⟩ hz
    (keys_turn sb.in1.in1 rv hnk hz turn) (keys_fin (n := 0) rv hnk hna hz hkl hsh fun H' s' ex hp I' => ⟨rfl, q _ H' s' hna ex hp I'⟩)
end
end L2
set_option Elab.async false
set_option linter.all false
set_option maxRecDepth 100000
set_option maxHeartbeats 4000000
/-! ### a key's def is called -/
namespace DL
open PySem PySem.Spec PyProof.Rows L2
def KeyB (K : PySem.W.Frag) (sp : DSp) (x : V) (H : Hp) (us : List V) : Prop := ∃ S d kd, Cn K S [] H ∧ Rep K S d x ∧ (∀ S' v, Rep K S' (.tup kd) v → ∃ t, v = .ref t ∧ SqT K S' t us) ∧ sp [d] [] (fun r G' => r = .tup kd ∧ G' = []) dE0
theorem KeyB.mon {K : PySem.W.Frag} {sp : DSp} {x : V} {H H' : Hp} {us : List V} (h : KeyB K sp x H us) (e : Ext H H') : KeyB K sp x H' us := by
  obtain ⟨S, d, kd, c, r, k, q⟩ := h
  exact ⟨S, d, kd, c.ext0 e, r, k, q⟩
section
variable {X : Cx} {n : Nat} {g : Addr} {fd : FuncData} {ps : List Str} {sp : DSp}
theorem key_conc {K : PySem.W.Frag} {x : V} {H : Hp} {us : List V} {E : XK} (h : KeyB K sp x H us) : conc K sp [x] H (fun v H' => (∃ t, v = .ref t ∧ SqT K H' t us) ∧ Ext H H') E := by
  obtain ⟨S, d, kd, c, r, k, q⟩ := h
  refine ⟨S, [], [d], _, _, c, Reps.cons r Reps.nil, q, fun v H' S' z G' af rv q => ?_, fun cls dx H' S' fs G' af xr xn q => q.elim⟩
  obtain ⟨rfl, rfl⟩ := q
  obtain ⟨t, e, ht⟩ := k S' v rv
  exact ⟨⟨t, e, Sub.t af.cn.sub ht⟩, fun a o e => (af.stp a o e (by simp [keysG])).1⟩
end
end DL
namespace DL
open PySem PySem.Spec PyProof.Rows L2
section
variable {X : Cx} {n : Nat} {g : Addr} {fd : FuncData} {ps : List Str} {sp : DSp}
theorem key_run {A : Around} {pins : List (Addr × Obj)} {s : Shared} {σ : L2.St} {H : Hp} {x : V} {u : Value} {us : List V} (F : FnD X.prog X.w X.K X.mg X.base n g fd ps sp) (hb : Binds X.K fd ps []) (sb : SubG X n A) (I : Inv X pins σ H s) (rx : RelV x u)
    (h : KeyB X.K sp x H us) : wpAny (model X.prog X.w) A (call (.ref g) [u]) (fun r s' => ∃ t H', r = .ref t ∧ SqT X.K H' t us ∧ Inv X pins σ H' s' ∧ Ext H H') (fun _ _ => False) s := by
  have hsp : conc X.K sp [x] H (fun v H' => (∃ t, v = .ref t ∧ SqT X.K H' t us) ∧ Ext H H') (WE (fun _ _ _ _ => False) σ) := key_conc h
  have e0 : Env0 X.prog X.w X.K X.mg X.base A X.stack s H := by
    have e := I.env0
    exact ⟨by rw [sb.fr]; exact e.frames, e.mod, e.bs, e.bsz, e.funs, e.frf, e.hok, e.bare⟩
  have hl := F.len _ _ _ _ hsp
  have r1 : Vals [x] [u] := .cons rx .nil
  refine wpAny_call (codeAny_mono (F.run A X.stack s H ⟨[u], []⟩ [u] [x] _ _ sb.room e0 (by
    have := hb s [u] I.kIn (by simpa using hl)
    simpa using this) r1 hsp) fun r s' hq => ?_)
  cases r with
  | error e =>
    obtain ⟨a, B, H', cls, d, _, _, _, _, _, _, _, hE⟩ := hq
    exact hE
  | ok fl =>
    cases fl with
    | ret w =>
      obtain ⟨z, H', I', rz, ez, ex⟩ := I.after hq
      obtain ⟨t, rfl, ht⟩ := ez
      cases rz
      exact ⟨t, H', rfl, ht, I', ex⟩
    | next => exact False.elim hq
    | brk => exact False.elim hq
    | cont => exact False.elim hq
end
end DL
set_option Elab.async false
set_option linter.all false
set_option maxRecDepth 100000
set_option maxHeartbeats 4000000
/-! ### sorted(xs, key=f) over data -/
namespace DL
open PySem PySem.Spec PyProof.Rows L2 SrtR
theorem bt_sorted : bootBuiltins "sorted" = some (.builtin "sorted") := by decide +kernel
section
variable {X : Cx} {n : Nat} {g : Addr} {fd : FuncData} {ps : List Str} {sp : DSp}
def rSortK (K : PySem.W.Frag) (g : Addr) (sp : DSp) : List V → List V → Hp → VK → Prop := fun vs zs H Q => ∃ (a : Addr) (xs : List V) (kss : List (List V)) (ks0 : List Nat), vs = [.ref a] ∧ zs = [.ref g] ∧ SqL K H a xs ∧ kss.length = xs.length ∧ (∀ us ∈ kss, ShpV (0 :: ks0) us) ∧
  (∀ (i : Nat) x us, xs[i]? = some x → kss[i]? = some us → KeyB K sp x H us) ∧ ∀ p H', H p = none → Ext H H' → H' p = some (.lst (sortV kss xs)) → Q (.ref p) H'
theorem cr_sortK (F : FnD X.prog X.w X.K X.mg X.base n g fd ps sp) (hb : Binds X.K fd ps []) (hr : RoomG (n + 2) X.A) : CallRK X (.builtin "sorted") [Str.ofString "key"] (rSortK X.K g sp) := by
  intro pins s σ H vs zs us ws Q I r rz h
  obtain ⟨a, xs, kss, ks0, rfl, rfl, hs, hl, hsh, hk, q⟩ := h
  obtain rfl := Vals.ref1 r
  obtain ⟨w1, rfl, e1⟩ := vals1 rz
  obtain rfl : w1 = Value.ref g := e1
  refine sortK_inv (n := n) ⟨hr, rfl⟩ I hs hl hsh (fun i x A' s' H' u hx sb I' e rx => ?_) fun p H' s' hp e hc I' => ⟨.ref p, H', I', rfl, q p H' hp e hc⟩
  obtain ⟨us, hus⟩ : ∃ us, kss[i]? = some us := ⟨_, List.getElem?_eq_getElem (by rw [hl]; exact (List.getElem?_eq_some_iff.mp hx).1)⟩
  exact wpAny_mono (key_run F hb sb I' rx ((hk i x us hx hus).mon e)) (fun r s'' ⟨t, H'', h1, h2, h3, h4⟩ => ⟨t, us, H'', h1, hus, h2, h3, h4⟩) fun _ _ z => z
end
/-- a scalar's value -/
def scD : D → V
  | .int i => .int i
  | .bl b => .bl b
  | .str z => .str z
  | _ => .non
inductive KdD : Nat → D → Prop
  | int (n : Int) : KdD 0 (.int n)
  | str (z : Str) : KdD 1 (.str z)
  | bl (b : Bool) : KdD 2 (.bl b)
inductive ShpD : List Nat → List D → Prop
  | nil : ShpD [] []
  | cons {k : Nat} {d : D} {ks : List Nat} {ds : List D} (h : KdD k d) (r : ShpD ks ds) : ShpD (k :: ks) (d :: ds)
theorem ShpD.v : ∀ {ks : List Nat} {ds : List D}, ShpD ks ds → ShpV ks (ds.map scD)
  | _, _, .nil => .nil
  | _, _, .cons h r => .cons (by cases h <;> constructor) r.v
theorem ShpD.rep {K : PySem.W.Frag} {S : Hp} : ∀ {ks : List Nat} {ds : List D} {vs : List V}, ShpD ks ds → Reps K S ds vs → vs = ds.map scD
  | _, _, _, .nil, r => r
  | _, _, _, .cons h g, r => by
    obtain ⟨v, rs, rfl, r1, r2⟩ := r
    rw [g.rep r2]
    cases h <;> (cases r1; rfl)
def encDs (kd : List D) : List Int := encVs (kd.map scD)
def ltKD (p q : List D × D) : Bool := HT.lexLt (encDs p.1) (encDs q.1)
def sortD (kss : List (List D)) (xs : List D) : List D := (isort ltKD (kss.zip xs)).map (·.2)
theorem all2_reps {α β : Type} {R : α → β → Prop} {K : PySem.W.Frag} {S : Hp} {f : α → D} {g : β → V} (hR : ∀ a b, R a b → Rep K S (f a) (g b)) : ∀ {as : List α} {bs : List β}, All2 R as bs → Reps K S (as.map f) (bs.map g)
  | _, _, .nil => Reps.nil
  | _, _, .cons h r => Reps.cons (hR _ _ h) (all2_reps hR r)
theorem sort_reps {K : PySem.W.Frag} {S : Hp} {kss : List (List D)} {xs : List D} {vs : List V} (hl : kss.length = xs.length) (r : Reps K S xs vs) : Reps K S (sortD kss xs) (sortV (kss.map fun k => k.map scD) vs) := by
  have hall : All2 (fun (p : List D × D) (q : List V × V) => q.1 = p.1.map scD ∧ Rep K S p.2 q.2) (kss.zip xs) ((kss.map fun k => k.map scD).zip vs) := by
    refine all2_of (by simp [List.length_zip, r.length]) fun i p q hp hq => ?_
    rw [List.getElem?_zip_eq_some] at hp hq
    obtain ⟨p1, p2⟩ := hp
    obtain ⟨q1, q2⟩ := hq
    rw [List.getElem?_map, p1] at q1
    obtain ⟨d, h1, h2⟩ := r.get q2
    rw [p2] at h1
    cases h1
    exact ⟨(Option.some.inj q1).symm, h2⟩
  exact all2_reps (fun a b h => h.2) (isort_two (l1 := ltKD) (l2 := ltK) (fun a b c d h g => by
    show HT.lexLt (encVs (a.1.map scD)) (encVs (c.1.map scD)) = HT.lexLt (encVs b.1) (encVs d.1)
    rw [h.1, g.1]) hall)
theorem Cn.extCell {K : PySem.W.Frag} {S H H' : Hp} {G : GS} (c : Cn K S G H) {p : Addr} {k : Cell} (h : H p = none) (e : Ext H H') (ok : CellOk K S H' p k) : Aft K S G H S (G ++ [(p, k)]) H' := by
  have hg := c.freshG h
  have j := c.extA e
  refine ⟨Sub.refl S, ⟨j.cn.sub, ?_, fun a ha => ?_, fun q hq => ?_⟩, fun a u e n => ⟨(j.stp a u e n).1, fun z => ?_⟩, fun _ _ _ _ z => z, j.there⟩
  · unfold keysG
    rw [List.map_append, List.nodup_append]
    refine ⟨c.nd, by simp, fun a ha b hb => ?_⟩
    simp at hb
    subst hb
    exact fun z => hg (by rw [← z]; exact ha)
  · unfold keysG at ha
    rw [List.map_append, List.mem_append] at ha
    rcases ha with ha | ha
    · exact c.sep a ha
    · simp at ha; subst ha; exact c.freshS h
  · rw [List.mem_append] at hq
    rcases hq with hq | hq
    · exact j.cn.cell q hq
    · simp at hq; subst hq; exact ok
  · unfold keysG at z
    rw [List.map_append, List.mem_append] at z
    rcases z with z | z
    · exact n z
    · simp at z; subst z; rw [h] at e; cases e
/-- the same, still -/
theorem Cn.extStill {K : PySem.W.Frag} {S H H' : Hp} {G : GS} (c : Cn K S G H) {p : Addr} {o : HO} (h : H p = none) (e : Ext H H') (ho : H' p = some o) : Aft K S G H (upd S p o) G H' := by
  have j := c.extA e
  have hs := c.freshS h
  have hg := c.freshG h
  refine ⟨Sub.new hs, ⟨fun a u e2 => ?_, c.nd, fun a ha => ?_, fun q hq => ?_⟩, j.stp, fun a u e2 n z => by rw [upd_ne (ne_of_none e2 h)]; exact z, j.there⟩
  · by_cases ha : a = p
    · subst ha; rw [upd_same] at e2; cases e2; exact ho
    · rw [upd_ne ha] at e2; exact j.cn.sub a u e2
  · rw [upd_ne (fun z => hg (by rw [← z]; exact ha))]; exact c.sep a ha
  · exact (j.cn.cell q hq).up (Sub.new hs) rfl
/-- what sorted by key asks -/
def srtIn (g : Addr) (sp : DSp) (ds zs : List D) (G : GS) (P : List D → Prop) : Prop := ∃ d xs kss ks0, ds = [d] ∧ zs = [D.ref g] ∧ isLst d G xs ∧ kss.length = xs.length ∧ (∀ k ∈ kss, ShpD (0 :: ks0) k) ∧
  (∀ (i : Nat) x k, xs[i]? = some x → kss[i]? = some k → sp [x] [] (fun r G' => r = .tup k ∧ G' = []) dE0) ∧ P (sortD kss xs)
def dSortKM (g : Addr) (sp : DSp) (t tk : DTA) : DTE := fun σ G Q R => t σ G (fun ds G1 => tk σ G1 (fun zs G2 => srtIn g sp ds zs G2 fun out => ∀ p, p ∉ keysG G2 → Q (.ref p) (G2 ++ [(p, .lst out)])) R) R
def dSortKS (g : Addr) (sp : DSp) (t tk : DTA) : DTE := fun σ G Q R => t σ G (fun ds G1 => tk σ G1 (fun zs G2 => srtIn g sp ds zs G2 fun out => Q (.lst out) G2) R) R
section
variable {X : Cx} {W : WX} {n : Nat} {g : Addr} {ps : List Str} {sp : DSp} {e : Expr} {es : List Expr} {kws : List Keyword} {t tk : DTA} {p pos : Pos}
theorem srt_lift {σV : L2.St} {H : Hp} {P : VK} {Z : List D → Ev → GS → DK → DXK → Prop} (h : liftE X.K W (fun σ G Q R => t σ G (fun ds G1 => tk σ G1 (fun zs G2 => srtIn g sp ds zs G2 fun out => Z out σ G2 Q R) R) R) σV H P)
    (hz : ∀ {S σ G Q R H p H' xs vs out}, Cn X.K S G H → H p = none → Ext H H' → H' p = some (.lst vs) → Reps X.K S out vs → Z out σ G Q R → (∀ v H2 S2 d G2, Aft X.K S G H S2 G2 H2 → Rep X.K S2 d v → Q d G2 → P v H2) → (xs : List D) = xs → P (.ref p) H') :
    tCKw (rSortK X.K g sp) (liftA X.K W t) (liftA X.K W tk) σV H P := by
  obtain ⟨S, σ, G, Q, R, hc, hee, ht, hx, hq⟩ := h
  refine ⟨S, σ, G, _, R, hc, hee, ht, hx, fun vs H1 S1 ds G1 a1 r1 q1 => ⟨S1, σ, G1, _, R, a1.cn, hee.up a1.sub, q1, hx.aft a1, fun zs H2 S2 zd G2 a2 r2 q2 => ?_⟩⟩
  obtain ⟨d, xs, kss, ks0, rfl, rfl, hl, hlen, hsh, hk, q⟩ := q2
  obtain ⟨v, r', rfl, rd, e'⟩ := r1
  obtain rfl : r' = [] := e'
  obtain ⟨pl, us, rfl, hp, rus⟩ := hl.v a2.cn (rd.up a2.sub)
  obtain ⟨u2, r2', rfl, e2, e3⟩ := r2
  obtain rfl : u2 = V.ref g := e2
  obtain rfl : r2' = [] := e3
  refine ⟨pl, us, kss.map fun k => k.map scD, ks0, rfl, rfl, hp, by rw [List.length_map, hlen, rus.length], fun us' hus' => ?_, fun i x us' hx' hus' => ?_, fun p' H' hp' e hc' => ?_⟩
  · obtain ⟨k, hk1, rfl⟩ := List.mem_map.mp hus'
    exact (hsh k hk1).v
  · rw [List.getElem?_map, Option.map_eq_some_iff] at hus'
    obtain ⟨k, hk1, rfl⟩ := hus'
    obtain ⟨d, hd, rd⟩ := rus.get hx'
    refine ⟨S2, d, k, a2.cn.emp, rd, fun S' v hv => ?_, hk i d k hd hk1⟩
    obtain ⟨tt, ws, rfl, hs, hr⟩ := hv
    rw [(hsh k (List.mem_of_getElem? hk1)).rep hr] at hs
    exact ⟨tt, rfl, hs⟩
  · exact hz (xs := []) a2.cn hp' e hc' (sort_reps hlen rus) q (fun v H3 S3 d3 G3 a3 r3 q3 => hq v H3 S3 d3 G3 ((a1.trans a2).trans a3) r3 q3) rfl
theorem de_sortKM (F : Pm X.prog X.w X.K X.mg X.base n g ps [] sp) (hr : RoomG (n + 2) X.A) (hg : Gl X "sorted") (hm : X.mg "sorted" = none) (ha : DA X W (e :: es) t) (hkw : DKw X W kws tk)
    (he : backTo pos (starEach (e :: es) X.env) = (false, eval e X.env) :: backTo pos (starEach es X.env) := by rfl) (hpl : (backTo pos (starEach (e :: es) X.env)).any (·.1) = false := by rfl)
    (hall : (backToKw pos (keywordEach kws X.env)).all (·.1.isSome) = true := by rfl) (hnone : (backToKw pos (keywordEach kws X.env)).any (·.1.isNone) = false := by rfl) (hks : (backToKw pos (keywordEach kws X.env)).filterMap (·.1) = [Str.ofString "key"] := by rfl) :
    DE X W (.Call (.Name "sorted" p) (e :: es) kws pos) (dSortKM g sp t tk) := by
  obtain ⟨fd, h1, h2⟩ := pm_nil F
  exact pe_imp (pe_callBK (cr_sortK h1 h2 hr) hg hm bt_sorted ha hkw (by decide) (by decide) he hpl hall hnone hks) fun σV H P h => srt_lift h fun hc hp e ho r z q _ =>
    q _ _ _ (.ref _) _ (hc.extCell (k := .lst _) hp e ⟨_, ho, r⟩) rfl (z _ (hc.freshG hp))
theorem de_sortKS (F : Pm X.prog X.w X.K X.mg X.base n g ps [] sp) (hr : RoomG (n + 2) X.A) (hg : Gl X "sorted") (hm : X.mg "sorted" = none) (ha : DA X W (e :: es) t) (hkw : DKw X W kws tk)
    (he : backTo pos (starEach (e :: es) X.env) = (false, eval e X.env) :: backTo pos (starEach es X.env) := by rfl) (hpl : (backTo pos (starEach (e :: es) X.env)).any (·.1) = false := by rfl)
    (hall : (backToKw pos (keywordEach kws X.env)).all (·.1.isSome) = true := by rfl) (hnone : (backToKw pos (keywordEach kws X.env)).any (·.1.isNone) = false := by rfl) (hks : (backToKw pos (keywordEach kws X.env)).filterMap (·.1) = [Str.ofString "key"] := by rfl) :
    DE X W (.Call (.Name "sorted" p) (e :: es) kws pos) (dSortKS g sp t tk) := by
  obtain ⟨fd, h1, h2⟩ := pm_nil F
  exact pe_imp (pe_callBK (cr_sortK h1 h2 hr) hg hm bt_sorted ha hkw (by decide) (by decide) he hpl hall hnone hks) fun σV H P h => srt_lift h fun hc hp e ho r z q _ =>
    q _ _ _ (.lst _) _ (hc.extStill hp e ho) ⟨_, _, rfl, SqL.of upd_same, r.up (Sub.new (hc.freshS hp))⟩ z
end
section
variable {g : Addr} {sp : DSp} {t tk : DTA} {σ : Ev} {G : GS} {Q : DK} {R : DXK}
theorem r_sortM : dSortKM g sp t tk σ G Q R = t σ G (fun ds G1 => tk σ G1 (fun zs G2 => srtIn g sp ds zs G2 fun out => ∀ p, p ∉ keysG G2 → Q (.ref p) (G2 ++ [(p, .lst out)])) R) R := propext Iff.rfl
theorem r_sortS : dSortKS g sp t tk σ G Q R = t σ G (fun ds G1 => tk σ G1 (fun zs G2 => srtIn g sp ds zs G2 fun out => Q (.lst out) G2) R) R := propext Iff.rfl
end
end DL
set_option Elab.async false
set_option linter.all false
set_option maxRecDepth 100000
set_option maxHeartbeats 4000000
/-! ### walks over written lists, lists put together that are cells -/
namespace DL
open PySem PySem.Spec PyProof.Rows L2
def forUn (g : DTG) (tb : DTS) (N : DEnds) (R : DXK) : List D → Ev → GS → Prop
  | [] => fun σ G => N.nx σ G
  | x :: xs => fun σ G => g x σ G (fun σ1 G1 => tb { N with nx := Gh (forUn g tb N R xs), ct := Gh (forUn g tb N R xs), bk := N.nx } R σ1 G1) R
theorem for_un {g : DTG} {tb : DTS} {N : DEnds} {R : DXK} {xs : List D} {ok : GS → Prop} {σ : Ev} {G1 : GS} (hok : ∀ G, ok G) (h : forUn g tb N R xs σ G1) :
    ∃ I : Nat → Ev → GS → Prop, I 0 σ G1 ∧ (∀ i σ G, i ≤ xs.length → I i σ G → ok G) ∧
      (∀ i d σ G, xs[i]? = some d → I i σ G → g d σ G (fun σ' G' => tb { N with nx := Gh (I (i + 1)), ct := Gh (I (i + 1)), bk := N.nx } R σ' G') R) ∧ ∀ σ G, I xs.length σ G → N.nx σ G := by
  refine ⟨fun i => forUn g tb N R (xs.drop i), by show forUn g tb N R (xs.drop 0) σ G1; rw [List.drop_zero]; exact h, fun _ _ G _ _ => hok G, fun i d σ G hd hI => ?_, fun σ G hI => ?_⟩
  · have e : xs.drop i = d :: xs.drop (i + 1) := by
      obtain ⟨hl, rfl⟩ := List.getElem?_eq_some_iff.mp hd
      exact List.drop_eq_getElem_cons hl
    have hI : forUn g tb N R (xs.drop i) σ G := hI
    rw [e] at hI
    exact hI
  · have hI : forUn g tb N R (xs.drop xs.length) σ G := hI
    rw [List.drop_length] at hI
    exact hI
theorem un_nil {g : DTG} {tb : DTS} {N : DEnds} {R : DXK} {σ : Ev} {G : GS} : forUn g tb N R [] σ G = N.nx σ G := rfl
theorem un_cons {g : DTG} {tb : DTS} {N : DEnds} {R : DXK} {x : D} {xs : List D} {σ : Ev} {G : GS} : forUn g tb N R (x :: xs) σ G = g x σ G (fun σ1 G1 => tb { N with nx := Gh (forUn g tb N R xs), ct := Gh (forUn g tb N R xs), bk := N.nx } R σ1 G1) R := rfl
theorem un_gh {g : DTG} {tb : DTS} {N : DEnds} {R : DXK} {xs : List D} {σ : Ev} {G : GS} (h : forUn g tb N R xs σ G) : Gh (forUn g tb N R xs) σ G := .done h
theorem ex_atI {l : List D} {i : Int} {v : D} {P : D → Prop} (h : L2.atI l i = some v) (q : P v) : ∃ v, L2.atI l i = some v ∧ P v := ⟨v, h, q⟩
section
variable {X : Cx}
def dAddM : DOp := fun x y G Q => ∃ xs ys, isLst x G xs ∧ isLst y G ys ∧ xs.length + ys.length ≤ sizeLine ∧ ∀ p, p ∉ keysG G → Q (.ref p) (G ++ [(p, .lst (xs ++ ys))])
theorem opd_addM : OpD X (binaryOp .Add) dAddM :=
  OpD.mk op_catS fun S G H x y v u Q P hc rx ry ho hq => by
    obtain ⟨a, b, h1, h2, hl, q⟩ := ho
    obtain ⟨p, vs, rfl, h1, r1⟩ := h1.v hc rx
    obtain ⟨p2, us, rfl, h2, r2⟩ := h2.v hc ry
    refine ⟨p, p2, vs, us, rfl, rfl, h1, h2, by rw [r1.length, r2.length]; exact hl, fun z hz => ?_⟩
    have a2 := hc.newCell (o := .lst (vs ++ us)) (k := .lst (a ++ b)) hz ⟨_, upd_same, r1.app r2⟩
    exact hq _ _ _ (.ref z) _ a2 rfl (q z (hc.freshG hz))
def dAddC : DOp := fun x y G Q => ∃ xs ys, isLst x G xs ∧ isLst y G ys ∧ xs.length + ys.length ≤ sizeLine ∧ Q (.lst (xs ++ ys)) G
theorem opd_addC : OpD X (binaryOp .Add) dAddC :=
  OpD.mk op_catS fun S G H x y v u Q P hc rx ry ho hq => by
    obtain ⟨a, b, h1, h2, hl, q⟩ := ho
    obtain ⟨p, vs, rfl, h1, r1⟩ := h1.v hc rx
    obtain ⟨p2, us, rfl, h2, r2⟩ := h2.v hc ry
    refine ⟨p, p2, vs, us, rfl, rfl, h1, h2, by rw [r1.length, r2.length]; exact hl, fun z hz => ?_⟩
    have a2 := hc.still (o := .lst (vs ++ us)) hz
    exact hq _ _ _ (.lst (a ++ b)) _ a2 ⟨z, _, rfl, SqL.of upd_same, (r1.up a2.sub).app (r2.up a2.sub)⟩ q
end
theorem isLst.c {p : Addr} {G : GS} {xs : List D} (h : (p, Cell.lst xs) ∈ G) : isLst (.ref p) G xs := .inr ⟨p, rfl, h⟩
theorem isLst.s {G : GS} {xs : List D} : isLst (.lst xs) G xs := .inl rfl
/-- a text of small letters is its own lower -/
theorem lower_name {z : Str} (h : ∀ c ∈ z.cps.toList, 97 ≤ c ∧ c ≤ 122) : Txt.lower z = z := PySem.W.KXs.lower_still fun c hc => by have := h c hc; omega
theorem seq_ix {i : Int} {n : Nat} (h0 : 0 ≤ i) (h1 : i < n) : seqIndex? i n = some i.toNat := by
  obtain ⟨k, rfl⟩ := Int.eq_ofNat_of_zero_le h0
  unfold seqIndex?
  simp
  omega
end DL
set_option Elab.async false
set_option linter.all false
set_option maxRecDepth 100000
set_option maxHeartbeats 4000000
/-! ### zip's reading; a cell's kind; lists beside the empty one -/
namespace DL
open PySem PySem.Spec PyProof.Rows L2
def zipq (ds : List D) (G : GS) (QI : List D → (GS → Prop) → GS → Prop) : Prop := match ds with | [d, e] => srcL G d fun xs ok => srcL G e fun ys ok2 => QI (zipD xs ys) (fun G => ok G ∧ ok2 G) G | _ => False
section
variable {σ : Ev} {G : GS} {R : DXK} {QI : List D → (GS → Prop) → GS → Prop} {t : DTA} {xs ys : List D}
theorem r_zip : dZip t σ G QI R = t σ G (fun ds G1 => zipq ds G1 QI) R := propext Iff.rfl
theorem z_zip : zipq [.lst xs, .lst ys] G QI = QI (zipD xs ys) (fun _ => True ∧ True) G := propext Iff.rfl
end
theorem zip_get {α : Type} {f g : α → D} {as : List α} {i : Nat} {v : D} (h : (zipD (as.map f) (as.map g))[i]? = some v) : ∃ a ∈ as, v = .tup [f a, g a] := by
  unfold zipD at h
  rw [List.zip_map', List.map_map, List.getElem?_map, Option.map_eq_some_iff] at h
  obtain ⟨a, h1, rfl⟩ := h
  exact ⟨a, List.mem_of_getElem? h1, rfl⟩
theorem isi_cell {K : PySem.W.Frag} {p : Addr} {xs : List D} {G : GS} {Q : DK} (h : (p, Cell.lst xs) ∈ G) (q : Q (.bl true) G) : dIsi K [.ref p, .ty "list"] G Q :=
  ⟨_, _, true, .clst h, .ty _, kit_b (by decide +kernel), q⟩
theorem ne_nil {n : Nat} {xs : List D} {G : GS} {Q : DK} (h : ∀ x ∈ xs, PLn n x) (hn : n + 1 ≤ 60) (q : Q (.bl (!xs.isEmpty)) G) : dNe (.lst xs) (.lst []) G Q := by
  obtain ⟨ps, h1, _⟩ := pys_pn h
  exact ne_pl ((pn_lst h).pl hn) ((pn_lst (n := n) (xs := []) fun x hx => by cases hx).pl hn) (by rw [eqd_nil h1]; exact q)
theorem eq_nil {n : Nat} {xs : List D} {G : GS} {Q : DK} (h : ∀ x ∈ xs, PLn n x) (hn : n + 1 ≤ 60) (q : Q (.bl xs.isEmpty) G) : dEq (.lst xs) (.lst []) G Q := by
  obtain ⟨ps, h1, _⟩ := pys_pn h
  exact eq_pl ((pn_lst h).pl hn) ((pn_lst (n := n) (xs := []) fun x hx => by cases hx).pl hn) (by rw [eqd_nil h1]; exact q)
end DL
set_option Elab.async false
set_option linter.all false
set_option maxRecDepth 100000
set_option maxHeartbeats 4000000
/-! ### repr and str of lists, tuples -/
namespace DL
open PySem PySem.Spec PyProof.Rows L2
section
variable {X : Cx} {W : WX}
def ShowV (K : PySem.W.Frag) (H : Hp) (x : V) (z : Str) : Prop := ∃ a d, x = .ref a ∧ Dp K H (.ref a) d ∧ d.showable = true ∧ d.hasDict = false ∧ d.depth ≤ 50 ∧ d.shown.length ≤ sizeLine ∧ z = d.shown
def StrV (K : PySem.W.Frag) (H : Hp) (x : V) (z : Str) : Prop := (x = .non ∧ z = "None") ∨ (∃ b, x = .bl b ∧ z = boolT b) ∨ (∃ i : Int, x = .int i ∧ i.natAbs.log2 < 1920 ∧ z = toString i) ∨ x = .str z ∨ ShowV K H x z ∨ (∃ a, x = .ref a ∧ H a = some (.dK []) ∧ z = "{}")
theorem call_reprD (hr : RoomG 1 X.A) : CallR X (.builtin "repr") (fun xs H Q => ∃ x z, xs = [x] ∧ ShowV X.K H x z ∧ Q (.str z) H) := by
  intro pins s σ H xs us Q I r h
  obtain ⟨_, _, rfl, ⟨a, d, rfl, hd, hs, hn, hdp, hz, rfl⟩, q⟩ := h
  obtain ⟨u, rfl, r1⟩ := vals1 r
  cases r1
  obtain ⟨as, rd⟩ := Dp.reads I d (.ref a) (.ref a) hd rfl
  exact repr_of_reads' rd hs (PyData.noDict_hsm hn) hr.gs (by have := hr.units; omega) (fun _ _ e => e) (fun h' u tk hk => ⟨.str d.shown, H, I.kept (t' := tk) hk, ⟨u, rfl⟩, q⟩) hz
theorem empty_reads {P : Program} {w : World} {h : Heap} {a : Addr} (hd : h.DictOf (mixKind P w) a []) : Reads h (.ref a) (.dict []) [a] := by
  obtain ⟨o, es, ep, ho, hx, hdat, _, hp, _⟩ := hd
  have e : es.toList = [] := by
    cases q : es.toList with
    | nil => rfl
    | cons y ys =>
      rw [q] at hp
      cases hp
  have h1 := Reads.dict (h := h) (kvs := []) (as := []) (bs := []) ho hx.1 hdat (by rw [e]; exact .nil) (by rw [e]; exact .nil)
  exact h1
theorem call_strD (hr : RoomG 1 X.A) : CallR X (.type "str") (fun xs H Q => ∃ x z, xs = [x] ∧ StrV X.K H x z ∧ Q (.str z) H) := by
  intro pins s σ H xs us Q I r h
  obtain ⟨x, z, rfl, h, q⟩ := h
  obtain ⟨u, rfl, r1⟩ := vals1 r
  rcases h with ⟨rfl, rfl⟩ | ⟨b, rfl, rfl⟩ | ⟨i, rfl, hi, rfl⟩ | rfl | ⟨a, d, rfl, hd, hs, hn, hdp, hz, rfl⟩ | ⟨a, rfl, ha, rfl⟩
  · cases r1
    exact PySem.P.str_of_none ⟨.str "None", H, I.tok _, ⟨_, rfl⟩, q⟩
  · cases r1
    exact PySem.P.str_of_bool ⟨.str (boolT b), H, I.tok _, ⟨_, rfl⟩, q⟩
  · obtain ⟨t, rfl⟩ := r1
    exact PySem.P.str_of_int hi ⟨.str (toString i), H, I.tok _, ⟨_, rfl⟩, q⟩
  · obtain ⟨t, rfl⟩ := r1
    exact PySem.P.str_of_str ⟨.str z, H, I.tok _, ⟨_, rfl⟩, q⟩
  · cases r1
    obtain ⟨as, rd⟩ := Dp.reads I d (.ref a) (.ref a) hd rfl
    exact str_of_reads rd hs (PyData.noDict_hsm hn) hr.gs (by have := hr.units; omega) (fun _ _ e => e) (fun h' u tk hk => ⟨.str d.shown, H, I.kept (t' := tk) hk, ⟨u, rfl⟩, q⟩) hz
  · cases r1
    obtain ⟨_, hsm, vs, kv, dd⟩ := dk_of I.hok ha
    cases kv
    have rd := empty_reads dd
    have e : (PyData.dict []).shown = "{}" := by decide +kernel
    rw [← e] at q
    exact str_of_reads rd rfl (fun _ m => by rw [List.mem_singleton] at m; rw [← m] at hsm; simp at hsm) hr.gs (by have := hr.units; simp only [PyData.depth, PyData.depthKv]; omega) (fun _ _ e => e) (fun h' u tk hk => ⟨.str _, H, I.kept (t' := tk) hk, ⟨u, rfl⟩, q⟩) (by rw [e]; exact Nat.le_trans (show _ ≤ 100000 by decide +kernel) sizeLine_big)
/-! over data -/
def refD : D → Bool
  | .tup _ => true
  | .lst _ => true
  | .ref _ => true
  | _ => false
def ShowD (G : GS) (x : D) (z : Str) : Prop := ∃ p, refD x = true ∧ isPy G x p ∧ p.showable = true ∧ p.hasDict = false ∧ p.depth ≤ 50 ∧ p.shown.length ≤ sizeLine ∧ z = p.shown
theorem ShowD.v {K : PySem.W.Frag} {S H : Hp} {G : GS} {x : D} {v : V} {z : Str} (h : ShowD G x z) (c : Cn K S G H) (r : Rep K S x v) : ShowV K H v z := by
  obtain ⟨p, h0, h1, h2, h3, h4, h5, rfl⟩ := h
  have dp := isPy_dp c r h1
  obtain ⟨a, rfl⟩ : ∃ a, v = .ref a := by
    cases x <;> first | (cases h0; done) | skip
    · exact ⟨_, r⟩
    · obtain ⟨a, _, e, _⟩ := r
      exact ⟨a, e⟩
    · obtain ⟨a, _, e, _⟩ := r
      exact ⟨a, e⟩
  exact ⟨a, p, rfl, dp, h2, h3, h4, h5, rfl⟩
def dReprP : DCo := fun ds G Q => ∃ x z, ds = [x] ∧ ShowD G x z ∧ Q (.str z) G
theorem cd_reprP (hr : RoomG 1 X.A) : CalD X (.builtin "repr") dReprP :=
  CalD.mk (call_reprD hr) fun S G H xs vs Q P hc r ho hq => by
    obtain ⟨x, z, rfl, h, q⟩ := ho
    obtain ⟨v, r', rfl, rv, rfl⟩ := r
    exact ⟨v, z, rfl, h.v hc rv, hq _ _ _ (.str z) _ hc.aft rfl q⟩
def StrD (G : GS) (x : D) (z : Str) : Prop := (x = .non ∧ z = "None") ∨ (∃ b, x = .bl b ∧ z = boolT b) ∨ (∃ i : Int, x = .int i ∧ i.natAbs.log2 < 1920 ∧ z = toString i) ∨ x = .str z ∨ ShowD G x z ∨ (x = .dic [] [] ∧ z = "{}")
def dStrA : DCo := fun ds G Q => ∃ x z, ds = [x] ∧ StrD G x z ∧ Q (.str z) G
theorem cd_strA (hr : RoomG 1 X.A) : CalD X (.type "str") dStrA :=
  CalD.mk (call_strD hr) fun S G H xs vs Q P hc r ho hq => by
    obtain ⟨x, z, rfl, h, q⟩ := ho
    obtain ⟨v, r', rfl, rv, rfl⟩ := r
    refine ⟨v, z, rfl, ?_, hq _ _ _ (.str z) _ hc.aft rfl q⟩
    rcases h with ⟨rfl, rfl⟩ | ⟨b, rfl, rfl⟩ | ⟨i, rfl, hi, rfl⟩ | rfl | h | ⟨rfl, rfl⟩
    · exact .inl ⟨rv, rfl⟩
    · exact .inr (.inl ⟨b, rv, rfl⟩)
    · exact .inr (.inr (.inl ⟨i, rv, hi, rfl⟩))
    · exact .inr (.inr (.inr (.inl rv)))
    · exact .inr (.inr (.inr (.inr (.inl (h.v hc rv)))))
    · obtain ⟨a, ws, rfl, h1, h2, h3⟩ := rv
      obtain rfl : ws = [] := List.map_eq_nil_iff.mp h2
      exact .inr (.inr (.inr (.inr (.inr ⟨a, rfl, hc.sub _ _ h1, rfl⟩))))
end
end DL
set_option Elab.async false
set_option linter.all false
set_option maxRecDepth 100000
set_option maxHeartbeats 4000000
/-! ### xs == [], whatever the items are -/
namespace DGN
open PySem PySem.Spec PyProof.Rows
section
variable {prog : Program} {w : World} {A : Around} {R : Result → Shared → Prop} {E : Value → Shared → Prop} {s : Shared} {items items2 : Array Value} {n n2 : Nat} {dd dd2 : Option Addr} {sl sl2 : Array (Option Value)}
theorem list_eqS (l b : Addr) (h1 : s.heap.get? l = some { cls := .type "list", dict := dd, data := .seq items n, slots := sl }) (h2 : s.heap.get? b = some { cls := .type "list", dict := dd2, data := .seq items2 n2, slots := sl2 })
    (hs : (items.size != items2.size) = true) (fin : R (.ok (.ret (.bool false))) s) : wpAny (model prog w) A.in1 (Builtin.«list.__eq__» ⟨[.ref l, .ref b], []⟩) (GQ.FinOf prog w A R) (fun e s' => R (.error e) s') s := by
  obtain ⟨hp, g, d, tk, os⟩ := s
  have f3 := AutoSeq1.sub_list_list
  wp_walk using wpAny_loadPart' h1, wpAny_loadPart' h2
  exact fin
theorem rc_eqS {l b : Addr} {Q : Value → Shared → Prop} (hu : A.units < cLine) (h1 : s.heap.get? l = some { cls := .type "list", dict := dd, data := .seq items n, slots := sl }) (h2 : s.heap.get? b = some { cls := .type "list", dict := dd2, data := .seq items2 n2, slots := sl2 })
    (hs : (items.size != items2.size) = true) (fin : Q (.bool false) s) : wpAny (model prog w) A (richCompare .Eq (.ref l) (.ref b)) Q E s := by
  refine wpAny_richCompare_same_room (op := .Eq) ⟨_, h1, rfl⟩ ⟨_, h2, rfl⟩ F.slot_list_eq (GQ.call_here F.slot_list_eq ⟨_, h1, rfl⟩ F.entry_list_eq (F.args_list_eq_2 _ _) ?_) hu
  exact list_eqS (R := wants (fun v s' => v ≠ .notImplemented ∧ Q v s') E) l b h1 h2 hs ⟨(fun x => nomatch x), fin⟩
end
end DGN
namespace DL
open PySem PySem.Spec PyProof.Rows L2
section
variable {X : Cx}
theorem op_eqE (hr : RoomG 1 X.A) : OpR X (compareOp .Eq) (fun x y H Q => ∃ p q xs, x = .ref p ∧ y = .ref q ∧ SqL X.K H p xs ∧ SqL X.K H q [] ∧ Q (.bl xs.isEmpty) H) := by
  intro pins s σ H x y v u Q I rx ry hq
  obtain ⟨p, q, xs, rfl, rfl, hp, hq2, q0⟩ := hq
  cases rx
  cases ry
  show wpAny (model X.prog X.w) X.A (richCompare .Eq (.ref p) (.ref q)) (EP X pins σ Q) X.xe s
  obtain ⟨its, r, ⟨⟨oc, od, dt, sl⟩, m, g, gc, gd, gs⟩, z⟩ := I.list hp
  obtain ⟨its2, r2, ⟨⟨oc2, od2, dt2, sl2⟩, m2, g2, gc2, gd2, gs2⟩, z2⟩ := I.list hq2
  simp only at gc gs gc2 gs2
  subst gc gs gc2 gs2
  cases r2
  cases r with
  | nil =>
    refine DG.rc_listB (N := 0) hr.units0 (fun i s' => EP X pins σ Q (.bool true) s' ∧ s' = s) (fun _ => False) (fun i s' hi => ?_) (fun s' hi => hi.1) (fun _ z => z.elim) ⟨⟨.bl true, H, I, rfl, q0⟩, rfl⟩
    obtain ⟨_, rfl⟩ := hi
    exact ⟨_, _, m, m2, od, od2, sl, sl2, g, g2, rfl, rfl, fun h1 h2 => absurd h1 (by simp)⟩
  | cons ra rr => exact DGN.rc_eqS hr.units0 g g2 (by simp) ⟨.bl false, H, I, rfl, q0⟩
def dEqE : DOp := fun x y G Q => y = .lst [] ∧ ∃ xs, isLst x G xs ∧ Q (.bl xs.isEmpty) G
theorem opd_eqE (hr : RoomG 1 X.A) : OpD X (compareOp .Eq) dEqE :=
  OpD.mk (op_eqE hr) fun S G H x y v u Q P hc rx ry ho hq => by
    obtain ⟨rfl, xs, hx, q⟩ := ho
    obtain ⟨p', us, rfl, h2, r2⟩ := ry
    have e2 : us = [] := List.length_eq_zero_iff.mp (by rw [r2.length]; rfl)
    subst e2
    obtain ⟨p, vs, rfl, h1, r1⟩ := hx.v hc rx
    refine ⟨p, p', vs, rfl, rfl, h1, hc.sub.l h2, ?_⟩
    have e : vs.isEmpty = xs.isEmpty := by
      have := r1.length
      cases vs <;> cases xs <;> first | rfl | (simp at this)
    rw [e]
    exact hq _ _ _ (.bl _) _ hc.aft rfl q
end
theorem eqE_l {xs : List D} {G : GS} {Q : DK} (q : Q (.bl xs.isEmpty) G) : dEqE (.lst xs) (.lst []) G Q := ⟨rfl, xs, .inl rfl, q⟩
theorem neE_l {xs : List D} {G : GS} {Q : DK} (q : Q (.bl (!xs.isEmpty)) G) : dNeE (.lst xs) (.lst []) G Q := ⟨rfl, xs, .inl rfl, q⟩
theorem eqE_c {p : Addr} {xs : List D} {G : GS} {Q : DK} (hm : (p, Cell.lst xs) ∈ G) (q : Q (.bl xs.isEmpty) G) : dEqE (.ref p) (.lst []) G Q := ⟨rfl, xs, .inr ⟨p, rfl, hm⟩, q⟩
theorem neE_c {p : Addr} {xs : List D} {G : GS} {Q : DK} (hm : (p, Cell.lst xs) ∈ G) (q : Q (.bl (!xs.isEmpty)) G) : dNeE (.ref p) (.lst []) G Q := ⟨rfl, xs, .inr ⟨p, rfl, hm⟩, q⟩
end DL
set_option Elab.async false
set_option linter.all false
set_option maxRecDepth 100000
set_option maxHeartbeats 4000000
namespace Pr
open PySem PyProof.Rows L2 DL DX
/-! ### the text by places -/
section
def top (i : Nat) : Stmt := PySem.Challenge.pw_pearlrise_k05_beads_made.main.body.getD i (.Pass ⟨0, 0, 0, 0⟩)
abbrev s_is_whole : Stmt := top 15
abbrev s_is_name : Stmt := top 16
abbrev s_is_number : Stmt := top 17
abbrev s_Bead___init__ : Stmt := inClass (top 21) 0
abbrev s__law_cell_at : Stmt := top 23
abbrev s__law_draws : Stmt := top 24
abbrev s__law_one : Stmt := top 25
abbrev s__law_of : Stmt := top 26
abbrev s__law_word : Stmt := top 27
abbrev s__law_size : Stmt := top 28
abbrev s__law_things : Stmt := top 29
abbrev s__law_odd : Stmt := top 30
abbrev s__law_is_size : Stmt := top 31
abbrev s__law_is_word : Stmt := top 32
abbrev s__law_are_right : Stmt := top 33
abbrev s__law_fields : Stmt := top 34
abbrev s__law_made : Stmt := top 35
abbrev s__law_told : Stmt := top 36
abbrev s__law_right : Stmt := top 37
abbrev s__law_left_out : Stmt := top 38
abbrev s_law : Stmt := top 39
abbrev N_is_whole : List Str := ["thing", "least", "most"]
theorem sc_is_whole : FnScope N_is_whole ["thing", "least", "most"] (defScope s_is_whole) := ⟨rfl, rfl, rfl, by decide +kernel, rfl, by decide +kernel, by decide +kernel⟩
abbrev N_is_name : List Str := ["thing", "sign"]
theorem sc_is_name : FnScope N_is_name ["thing"] (defScope s_is_name) := ⟨rfl, rfl, rfl, by decide +kernel, rfl, by decide +kernel, by decide +kernel⟩
abbrev N_is_number : List Str := ["thing"]
theorem sc_is_number : FnScope N_is_number ["thing"] (defScope s_is_number) := ⟨rfl, rfl, rfl, by decide +kernel, rfl, by decide +kernel, by decide +kernel⟩
abbrev N_Bead___init__ : List Str := ["self", "number", "across", "weight", "shade", "form", "drilled"]
theorem sc_Bead___init__ : FnScope N_Bead___init__ ["self", "number", "across", "weight", "shade", "form", "drilled"] (defScope s_Bead___init__) := ⟨rfl, rfl, rfl, by decide +kernel, rfl, by decide +kernel, by decide +kernel⟩
abbrev N__law_cell_at : List Str := ["_law_script", "_law_k"]
theorem sc__law_cell_at : FnScope N__law_cell_at ["_law_script", "_law_k"] (defScope s__law_cell_at) := ⟨rfl, rfl, rfl, by decide +kernel, rfl, by decide +kernel, by decide +kernel⟩
abbrev N__law_draws : List Str := ["_law_cell"]
theorem sc__law_draws : FnScope N__law_draws ["_law_cell"] (defScope s__law_draws) := ⟨rfl, rfl, rfl, by decide +kernel, rfl, by decide +kernel, by decide +kernel⟩
abbrev N__law_one : List Str := ["_law_draws_here", "_law_many", "_law_found", "_law_mix"]
theorem sc__law_one : FnScope N__law_one ["_law_draws_here", "_law_many"] (defScope s__law_one) := ⟨rfl, rfl, rfl, by decide +kernel, rfl, by decide +kernel, by decide +kernel⟩
abbrev N__law_of : List Str := ["_law_draws_here", "_law_some"]
theorem sc__law_of : FnScope N__law_of ["_law_draws_here", "_law_some"] (defScope s__law_of) := ⟨rfl, rfl, rfl, by decide +kernel, rfl, by decide +kernel, by decide +kernel⟩
abbrev N__law_word : List Str := ["_law_draws_here", "_law_letters", "_law_k"]
theorem sc__law_word : FnScope N__law_word ["_law_draws_here"] (defScope s__law_word) := ⟨rfl, rfl, rfl, by decide +kernel, rfl, by decide +kernel, by decide +kernel⟩
abbrev N__law_size : List Str := ["_law_draws_here"]
theorem sc__law_size : FnScope N__law_size ["_law_draws_here"] (defScope s__law_size) := ⟨rfl, rfl, rfl, by decide +kernel, rfl, by decide +kernel, by decide +kernel⟩
abbrev N__law_things : List Str := ["_law_draws_here", "_law_label", "_law_look", "_law_shape"]
theorem sc__law_things : FnScope N__law_things ["_law_draws_here"] (defScope s__law_things) := ⟨rfl, rfl, rfl, by decide +kernel, rfl, by decide +kernel, by decide +kernel⟩
abbrev N__law_odd : List Str := ["_law_draws_here", "_law_thing", "_law_word_here", "_law_some"]
theorem sc__law_odd : FnScope N__law_odd ["_law_draws_here", "_law_thing"] (defScope s__law_odd) := ⟨rfl, rfl, rfl, by decide +kernel, rfl, by decide +kernel, by decide +kernel⟩
abbrev N__law_is_size : List Str := ["_law_thing", "_law_most"]
theorem sc__law_is_size : FnScope N__law_is_size ["_law_thing", "_law_most"] (defScope s__law_is_size) := ⟨rfl, rfl, rfl, by decide +kernel, rfl, by decide +kernel, by decide +kernel⟩
abbrev N__law_is_word : List Str := ["_law_thing", "_law_sign"]
theorem sc__law_is_word : FnScope N__law_is_word ["_law_thing"] (defScope s__law_is_word) := ⟨rfl, rfl, rfl, by decide +kernel, rfl, by decide +kernel, by decide +kernel⟩
abbrev N__law_are_right : List Str := ["_law_things_here", "_law_label", "_law_wide", "_law_heavy", "_law_look", "_law_shape", "_law_holed"]
theorem sc__law_are_right : FnScope N__law_are_right ["_law_things_here"] (defScope s__law_are_right) := ⟨rfl, rfl, rfl, by decide +kernel, rfl, by decide +kernel, by decide +kernel⟩
abbrev N__law_fields : List Str := ["_law_bead"]
theorem sc__law_fields : FnScope N__law_fields ["_law_bead"] (defScope s__law_fields) := ⟨rfl, rfl, rfl, by decide +kernel, rfl, by decide +kernel, by decide +kernel⟩
abbrev N__law_made : List Str := ["_law_things_here", "_law_way", "_law_label", "_law_wide", "_law_heavy", "_law_look", "_law_shape", "_law_holed"]
theorem sc__law_made : FnScope N__law_made ["_law_things_here", "_law_way"] (defScope s__law_made) := ⟨rfl, rfl, rfl, by decide +kernel, rfl, by decide +kernel, by decide +kernel⟩
abbrev N__law_told : List Str := ["_law_things_here", "_law_way", "e", "_law_others"]
theorem sc__law_told : FnScope N__law_told ["_law_things_here", "_law_way"] (defScope s__law_told) := ⟨rfl, rfl, rfl, by decide +kernel, rfl, by decide +kernel, by decide +kernel⟩
abbrev N__law_right : List Str := ["_law_things_here", "_law_due", "_law_way", "_law_found"]
theorem sc__law_right : FnScope N__law_right ["_law_things_here"] (defScope s__law_right) := ⟨rfl, rfl, rfl, by decide +kernel, rfl, by decide +kernel, by decide +kernel⟩
abbrev N__law_left_out : List Str := ["_law_things_here", "_law_label", "_law_wide", "_law_heavy", "_law_look", "_law_shape", "_law_holed", "_law_first", "_law_bead"]
theorem sc__law_left_out : FnScope N__law_left_out ["_law_things_here"] (defScope s__law_left_out) := ⟨rfl, rfl, rfl, by decide +kernel, rfl, by decide +kernel, by decide +kernel⟩
abbrev N_law : List Str := ["_law_script", "_law_cell", "_law_draws_here", "_law_things_here", "_law_k", "_law_bad", "_law_turn", "_law_at"]
theorem sc_law : FnScope N_law ["_law_script"] (defScope s_law) := ⟨rfl, rfl, rfl, by decide +kernel, rfl, by decide +kernel, by decide +kernel⟩
end
structure Sps where
  f_is_whole : DSp
  f_is_name : DSp
  f_is_number : DSp
  f_Bead___init__ : DSp
  f__law_cell_at : DSp
  f__law_draws : DSp
  f__law_one : DSp
  f__law_of : DSp
  f__law_word : DSp
  f__law_size : DSp
  f__law_things : DSp
  f__law_odd : DSp
  f__law_is_size : DSp
  f__law_is_word : DSp
  f__law_are_right : DSp
  f__law_fields : DSp
  f__law_made : DSp
  f__law_told : DSp
  f__law_right : DSp
  f__law_left_out : DSp
  f_law : DSp
abbrev s_PearlError___init__ : Stmt := inClass (top 2) 0
theorem sc_PearlError___init__ : FnScope ["self", "why"] ["self", "why"] (defScope s_PearlError___init__) := ⟨rfl, rfl, rfl, by decide +kernel, rfl, by decide +kernel, by decide +kernel⟩
def xCs (K : PySem.W.Frag) : List Addr := [He.ga K "BadBead"]
structure Xk (K : PySem.W.Frag) : Prop where
  m_BadBead_PearlError : PySem.W.exmOne K (.ref (He.ga K "BadBead")) (.ref (He.ga K "PearlError")) = some true
  k_BadBead_BadDeed_BadLot_BadRule_BadText_NoRow_NoShare_NoSuch : PySem.W.kitAny K (.ref (He.ga K "BadBead")) [(.ref (He.ga K "BadDeed")), (.ref (He.ga K "BadLot")), (.ref (He.ga K "BadRule")), (.ref (He.ga K "BadText")), (.ref (He.ga K "NoRow")), (.ref (He.ga K "NoShare")), (.ref (He.ga K "NoSuch"))] = some false
  k_BadBead_ValueError : PySem.W.kitOne K (.ref (He.ga K "BadBead")) (.type "ValueError") = some true
  k_BadBead_BadBead : PySem.W.kitOne K (.ref (He.ga K "BadBead")) (.ref (He.ga K "BadBead")) = some true
def xkB (K : PySem.W.Frag) : Bool := decide (PySem.W.exmOne K (.ref (He.ga K "BadBead")) (.ref (He.ga K "PearlError")) = some true) && (decide (PySem.W.kitAny K (.ref (He.ga K "BadBead")) [(.ref (He.ga K "BadDeed")), (.ref (He.ga K "BadLot")), (.ref (He.ga K "BadRule")), (.ref (He.ga K "BadText")), (.ref (He.ga K "NoRow")), (.ref (He.ga K "NoShare")), (.ref (He.ga K "NoSuch"))] = some false) && (decide (PySem.W.kitOne K (.ref (He.ga K "BadBead")) (.type "ValueError") = some true) && (decide (PySem.W.kitOne K (.ref (He.ga K "BadBead")) (.ref (He.ga K "BadBead")) = some true))))
theorem xkB_ok {K : PySem.W.Frag} (h : xkB K = true) : Xk K := by
  unfold xkB at h
  simp only [Bool.and_eq_true, decide_eq_true_eq] at h
  obtain ⟨h0, h1, h2, h3⟩ := h
  exact ⟨h0, h1, h2, h3⟩
structure Tx (K : PySem.W.Frag) (mg : Str → Option Value) : Prop where
  d_is_whole : ∃ fd, FunD K "is_whole" "is_whole" (defArgs s_is_whole) (defBody s_is_whole) (defScope s_is_whole) [] [] (He.fAd K ("is_whole", none)) fd
  d_is_name : ∃ fd, FunD K "is_name" "is_name" (defArgs s_is_name) (defBody s_is_name) (defScope s_is_name) [] [] (He.fAd K ("is_name", none)) fd
  d_is_number : ∃ fd, FunD K "is_number" "is_number" (defArgs s_is_number) (defBody s_is_number) (defScope s_is_number) [] [] (He.fAd K ("is_number", none)) fd
  d_Bead___init__ : ∃ fd, FunD K "__init__" "Bead.__init__" (defArgs s_Bead___init__) (defBody s_Bead___init__) (defScope s_Bead___init__) [(.str "round"), (.bl false)] [] (He.fAd K ("Bead", some "__init__")) fd
  d__law_cell_at : ∃ fd, FunD K "_law_cell_at" "_law_cell_at" (defArgs s__law_cell_at) (defBody s__law_cell_at) (defScope s__law_cell_at) [] [] (He.fAd K ("_law_cell_at", none)) fd
  d__law_draws : ∃ fd, FunD K "_law_draws" "_law_draws" (defArgs s__law_draws) (defBody s__law_draws) (defScope s__law_draws) [] [] (He.fAd K ("_law_draws", none)) fd
  d__law_one : ∃ fd, FunD K "_law_one" "_law_one" (defArgs s__law_one) (defBody s__law_one) (defScope s__law_one) [] [] (He.fAd K ("_law_one", none)) fd
  d__law_of : ∃ fd, FunD K "_law_of" "_law_of" (defArgs s__law_of) (defBody s__law_of) (defScope s__law_of) [] [] (He.fAd K ("_law_of", none)) fd
  d__law_word : ∃ fd, FunD K "_law_word" "_law_word" (defArgs s__law_word) (defBody s__law_word) (defScope s__law_word) [] [] (He.fAd K ("_law_word", none)) fd
  d__law_size : ∃ fd, FunD K "_law_size" "_law_size" (defArgs s__law_size) (defBody s__law_size) (defScope s__law_size) [] [] (He.fAd K ("_law_size", none)) fd
  d__law_things : ∃ fd, FunD K "_law_things" "_law_things" (defArgs s__law_things) (defBody s__law_things) (defScope s__law_things) [] [] (He.fAd K ("_law_things", none)) fd
  d__law_odd : ∃ fd, FunD K "_law_odd" "_law_odd" (defArgs s__law_odd) (defBody s__law_odd) (defScope s__law_odd) [] [] (He.fAd K ("_law_odd", none)) fd
  d__law_is_size : ∃ fd, FunD K "_law_is_size" "_law_is_size" (defArgs s__law_is_size) (defBody s__law_is_size) (defScope s__law_is_size) [] [] (He.fAd K ("_law_is_size", none)) fd
  d__law_is_word : ∃ fd, FunD K "_law_is_word" "_law_is_word" (defArgs s__law_is_word) (defBody s__law_is_word) (defScope s__law_is_word) [] [] (He.fAd K ("_law_is_word", none)) fd
  d__law_are_right : ∃ fd, FunD K "_law_are_right" "_law_are_right" (defArgs s__law_are_right) (defBody s__law_are_right) (defScope s__law_are_right) [] [] (He.fAd K ("_law_are_right", none)) fd
  d__law_fields : ∃ fd, FunD K "_law_fields" "_law_fields" (defArgs s__law_fields) (defBody s__law_fields) (defScope s__law_fields) [] [] (He.fAd K ("_law_fields", none)) fd
  d__law_made : ∃ fd, FunD K "_law_made" "_law_made" (defArgs s__law_made) (defBody s__law_made) (defScope s__law_made) [] [] (He.fAd K ("_law_made", none)) fd
  d__law_told : ∃ fd, FunD K "_law_told" "_law_told" (defArgs s__law_told) (defBody s__law_told) (defScope s__law_told) [] [] (He.fAd K ("_law_told", none)) fd
  d__law_right : ∃ fd, FunD K "_law_right" "_law_right" (defArgs s__law_right) (defBody s__law_right) (defScope s__law_right) [] [] (He.fAd K ("_law_right", none)) fd
  d__law_left_out : ∃ fd, FunD K "_law_left_out" "_law_left_out" (defArgs s__law_left_out) (defBody s__law_left_out) (defScope s__law_left_out) [] [] (He.fAd K ("_law_left_out", none)) fd
  d_law : ∃ fd, FunD K "law" "law" (defArgs s_law) (defBody s_law) (defScope s_law) [] [] (He.fAd K ("law", none)) fd
  d_PearlError___init__ : ∃ fd, FunD K "__init__" "PearlError.__init__" (defArgs s_PearlError___init__) (defBody s_PearlError___init__) (defScope s_PearlError___init__) [(.str "refused")] [] (He.fAd K ("PearlError", some "__init__")) fd
  m_law : mg "law" = some (.ref (He.fAd K ("law", none)))
  m__law_cell_at : mg "_law_cell_at" = some (.ref (He.fAd K ("_law_cell_at", none)))
  m__law_draws : mg "_law_draws" = some (.ref (He.fAd K ("_law_draws", none)))
  m__law_things : mg "_law_things" = some (.ref (He.fAd K ("_law_things", none)))
  m__law_left_out : mg "_law_left_out" = some (.ref (He.fAd K ("_law_left_out", none)))
  m__law_right : mg "_law_right" = some (.ref (He.fAd K ("_law_right", none)))
  n_range : mg "range" = none
  n_list : mg "list" = none
  m__law_one : mg "_law_one" = some (.ref (He.fAd K ("_law_one", none)))
  m__law_odd : mg "_law_odd" = some (.ref (He.fAd K ("_law_odd", none)))
  n_tuple : mg "tuple" = none
  m__law_of : mg "_law_of" = some (.ref (He.fAd K ("_law_of", none)))
  m__law_word : mg "_law_word" = some (.ref (He.fAd K ("_law_word", none)))
  m__law_size : mg "_law_size" = some (.ref (He.fAd K ("_law_size", none)))
  n_len : mg "len" = none
  m__law_are_right : mg "_law_are_right" = some (.ref (He.fAd K ("_law_are_right", none)))
  m__law_told : mg "_law_told" = some (.ref (He.fAd K ("_law_told", none)))
  n_bool : mg "bool" = none
  n_isinstance : mg "isinstance" = none
  m_PearlError : mg "PearlError" = some (.ref (He.ga K "PearlError"))
  m__law_fields : mg "_law_fields" = some (.ref (He.fAd K ("_law_fields", none)))
  m__law_made : mg "_law_made" = some (.ref (He.fAd K ("_law_made", none)))
  m_NoSuch : mg "NoSuch" = some (.ref (He.ga K "NoSuch"))
  m_NoShare : mg "NoShare" = some (.ref (He.ga K "NoShare"))
  m_NoRow : mg "NoRow" = some (.ref (He.ga K "NoRow"))
  m_BadText : mg "BadText" = some (.ref (He.ga K "BadText"))
  m_BadRule : mg "BadRule" = some (.ref (He.ga K "BadRule"))
  m_BadLot : mg "BadLot" = some (.ref (He.ga K "BadLot"))
  m_BadDeed : mg "BadDeed" = some (.ref (He.ga K "BadDeed"))
  n_ValueError : mg "ValueError" = none
  m_BadBead : mg "BadBead" = some (.ref (He.ga K "BadBead"))
  m_Bead : mg "Bead" = some (.ref (He.ga K "Bead"))
  m_is_number : mg "is_number" = some (.ref (He.fAd K ("is_number", none)))
  m_is_whole : mg "is_whole" = some (.ref (He.fAd K ("is_whole", none)))
  m_is_name : mg "is_name" = some (.ref (He.fAd K ("is_name", none)))
  n_int : mg "int" = none
  n_str : mg "str" = none
  n_all : mg "all" = none
  m__law_is_size : mg "_law_is_size" = some (.ref (He.fAd K ("_law_is_size", none)))
  m__law_is_word : mg "_law_is_word" = some (.ref (He.fAd K ("_law_is_word", none)))
  c_MOST_SIZE : ∃ u, mg "MOST_SIZE" = some u ∧ RelV (.int 1000000) u
  c_MOST_NUMBER : ∃ u, mg "MOST_NUMBER" = some u ∧ RelV (.int 1000000000) u
  c_MOST_LETTERS : ∃ u, mg "MOST_LETTERS" = some u ∧ RelV (.int 8) u
  c_LETTERS : ∃ u, mg "LETTERS" = some u ∧ RelV (.str "abcdefghijklmnopqrstuvwxyz") u
  mk_Bead : Mk K (He.ga K "Bead") (He.fAd K ("Bead", some "__init__"))
  cl_Bead : Cls K (He.ga K "Bead")
  na_Bead_number : NoAttr K (He.ga K "Bead") "number"
  na_Bead_across : NoAttr K (He.ga K "Bead") "across"
  na_Bead_weight : NoAttr K (He.ga K "Bead") "weight"
  na_Bead_shade : NoAttr K (He.ga K "Bead") "shade"
  na_Bead_form : NoAttr K (He.ga K "Bead") "form"
  na_Bead_drilled : NoAttr K (He.ga K "Bead") "drilled"
  wc_BadBead : WhyC K (He.ga K "BadBead") (He.fAd K ("PearlError", some "__init__"))
  v_ini : PySem.W.findCls K (.type "ValueError") (.type "type") "__init__" = some (.val (.builtin "ValueError.__init__"))
  xc : ∀ C ∈ xCs K, ExcC K C
  xk : Xk K
def t_is_whole (K : PySem.W.Frag) (S : Sps) : DTS :=
  (dSeq (dIfS (dOr (dNot (dTru (dCB (dIsi K) (dCons (dName 0) (dCons (dC (.ty "int")) dNil))))) (dTru (dCB (dIsi K) (dCons (dName 0) (dCons (dC (.ty "bool")) dNil))))) (dRet (dC (.bl false))) dNext)
    (dRet (dChain dLe dLe (dName 1) (dName 0) (dName 2))))
def t_is_name (K : PySem.W.Frag) (S : Sps) : DTS :=
  (dSeq (dIfS (dOr (dNot (dTru (dCB (dIsi K) (dCons (dName 0) (dCons (dC (.ty "str")) dNil))))) (dNot (dTest (dChain dLe dLe (dC (.int 1)) (dCB dLen (dCons (dName 0) dNil)) (dC (.int 8)))))) (dRet (dC (.bl false))) dNext)
    (dRet (dCB dAll (dCons (dLc [1] (.one 1) (dIter (dName 0)) dYes (dOp dIn (dName 1) (dC (.str "abcdefghijklmnopqrstuvwxyz")))) dNil))))
def t_is_number (K : PySem.W.Frag) (S : Sps) : DTS :=
  (dRet (dCall S.f_is_whole (dCons (dName 0) (dCons (dC (.int 1)) (dCons (dC (.int 1000000000)) dNil))) []))
def t_Bead___init__ (K : PySem.W.Frag) (S : Sps) : DTS :=
  (dSeq (dIfS (dNot (dTru (dCall S.f_is_number (dCons (dName 1) dNil) []))) (dRaiseW (He.ga K "BadBead") (dCons (dC (.str "no number")) dNil) []) dNext)
    (dSeq (dIfS (dOr (dNot (dTru (dCall S.f_is_whole (dCons (dName 2) (dCons (dC (.int 1)) (dCons (dC (.int 1000000)) dNil))) []))) (dNot (dTru (dCall S.f_is_whole (dCons (dName 3) (dCons (dC (.int 1)) (dCons (dC (.int 1000000)) dNil))) [])))) (dRaiseW (He.ga K "BadBead") (dCons (dC (.str "no size")) dNil) []) dNext)
    (dSeq (dIfS (dOr (dNot (dTru (dCall S.f_is_name (dCons (dName 4) dNil) []))) (dOr (dNot (dTru (dCall S.f_is_name (dCons (dName 5) dNil) []))) (dNot (dTru (dCB (dIsi K) (dCons (dName 6) (dCons (dC (.ty "bool")) dNil))))))) (dRaiseW (He.ga K "BadBead") (dCons (dC (.str "no shade, no form, or no truth")) dNil) []) dNext)
    (dSeq (dFldSetC (He.ga K "Bead") "number" (dName 0) (dName 1))
    (dSeq (dFldSetC (He.ga K "Bead") "across" (dName 0) (dName 2))
    (dSeq (dFldSetC (He.ga K "Bead") "weight" (dName 0) (dName 3))
    (dSeq (dFldSetC (He.ga K "Bead") "shade" (dName 0) (dName 4))
    (dSeq (dFldSetC (He.ga K "Bead") "form" (dName 0) (dName 5))
    (dFldSetC (He.ga K "Bead") "drilled" (dName 0) (dName 6))))))))))
def t__law_cell_at (K : PySem.W.Frag) (S : Sps) : DTS :=
  (dSeq (dIfS (dTest (dOp dLt (dName 1) (dCB dLen (dCons (dName 0) dNil)))) (dRet (dOp dIx (dName 0) (dName 1))) dNext)
    (dRet (dC (.int 0))))
def t__law_draws (K : PySem.W.Frag) (S : Sps) : DTS :=
  (dRet (dLstM (dCons (dOp dMul (dName 0) (dCB dInt (dCons (dOp dGe (dName 0) (dOp dPow (dC (.int 10)) (dC (.int 18)))) dNil))) (dCons (dOp dMod (dName 0) (dC (.int 2147483647))) (dCons (dC (.int 0)) dNil)))))
def t__law_one (K : PySem.W.Frag) (S : Sps) : DTS :=
  (dSeq (dIfS (dTest (dOp dGt (dOp dIx (dName 0) (dC (.int 0))) (dC (.int 0)))) (dSeq (dSet 2 (dOp dMod (dOp dIx (dName 0) (dC (.int 0))) (dName 1)))
    (dSeq (dAsg (dOp dDiv (dOp dIx (dName 0) (dC (.int 0))) (dName 1)) (dgSub (dName 0) (dC (.int 0))))
    (dRet (dName 2)))) dNext)
    (dSeq (dAsg (dOp dAdd (dOp dIx (dName 0) (dC (.int 2))) (dC (.int 1))) (dgSub (dName 0) (dC (.int 2))))
    (dSeq (dSet 3 (dOp dMod (dOp dPow (dOp dAdd (dOp dAdd (dOp dIx (dName 0) (dC (.int 1))) (dOp dMul (dC (.int 7919)) (dOp dIx (dName 0) (dC (.int 2))))) (dC (.int 1))) (dC (.int 5))) (dC (.int 2147483647))))
    (dSeq (dSet 3 (dOp dMod (dOp dMul (dName 3) (dOp dAdd (dOp dAdd (dOp dDiv (dName 3) (dC (.int 1009))) (dC (.int 69621))) (dOp dIx (dName 0) (dC (.int 2))))) (dC (.int 2147483629))))
    (dRet (dOp dMod (dOp dMod (dOp dMul (dName 3) (dOp dAdd (dOp dDiv (dName 3) (dC (.int 2003))) (dC (.int 40692)))) (dC (.int 2147483399))) (dName 1)))))))
def t__law_of (K : PySem.W.Frag) (S : Sps) : DTS :=
  (dRet (dOp dIx (dName 1) (dCall S.f__law_one (dCons (dName 0) (dCons (dCB dLen (dCons (dName 1) dNil)) dNil)) [])))
def t__law_word (K : PySem.W.Frag) (S : Sps) : DTS :=
  (dSeq (dSet 1 (dC (.str "abcdefghijklmnopqrstuvwxyz")))
    (dRet (dBM "str" mJoin (dC (.str "")) (dCons (dLc [2] (.one 2) (dRng1 (dCons (dOp dAdd (dC (.int 1)) (dCall S.f__law_one (dCons (dName 0) (dCons (dC (.int 8)) dNil)) [])) dNil)) dYes (dOp dIx (dName 1) (dCall S.f__law_one (dCons (dName 0) (dCons (dC (.int 26)) dNil)) []))) dNil))))
def t__law_size (K : PySem.W.Frag) (S : Sps) : DTS :=
  (dRet (dCall S.f__law_of (dCons (dName 0) (dCons (dLst (dCons (dOp dAdd (dC (.int 1)) (dCall S.f__law_one (dCons (dName 0) (dCons (dC (.int 9)) dNil)) [])) (dCons (dOp dAdd (dC (.int 1)) (dCall S.f__law_one (dCons (dName 0) (dCons (dC (.int 1000000)) dNil)) [])) (dCons (dC (.int 1)) (dCons (dC (.int 1000000)) dNil))))) dNil)) []))
def t__law_things (K : PySem.W.Frag) (S : Sps) : DTS :=
  (dSeq (dSet 1 (dCall S.f__law_of (dCons (dName 0) (dCons (dLst (dCons (dOp dAdd (dC (.int 1)) (dCall S.f__law_one (dCons (dName 0) (dCons (dC (.int 99)) dNil)) [])) (dCons (dOp dAdd (dC (.int 1)) (dCall S.f__law_one (dCons (dName 0) (dCons (dC (.int 1000000000)) dNil)) [])) (dCons (dC (.int 1000000000)) dNil)))) dNil)) []))
    (dSeq (dSet 2 (dCall S.f__law_of (dCons (dName 0) (dCons (dLst (dCons (dCall S.f__law_word (dCons (dName 0) dNil) []) (dCons (dC (.str "rose")) (dCons (dC (.str "round")) dNil)))) dNil)) []))
    (dSeq (dSet 3 (dCall S.f__law_of (dCons (dName 0) (dCons (dLst (dCons (dCall S.f__law_word (dCons (dName 0) dNil) []) (dCons (dC (.str "round")) (dCons (dC (.str "oval")) dNil)))) dNil)) []))
    (dRet (dTup (dCons (dName 1) (dCons (dCall S.f__law_size (dCons (dName 0) dNil) []) (dCons (dCall S.f__law_size (dCons (dName 0) dNil) []) (dCons (dName 2) (dCons (dName 3) (dCons (dOp dEq (dCall S.f__law_one (dCons (dName 0) (dCons (dC (.int 2)) dNil)) []) (dC (.int 1))) dNil)))))))))))
def t__law_odd (K : PySem.W.Frag) (S : Sps) : DTS :=
  (dSeq (dSet 2 (dSl (dC (.str "Abcdefgh")) dNoP (dPart (dOp dAdd (dC (.int 1)) (dCall S.f__law_one (dCons (dName 0) (dCons (dC (.int 8)) dNil)) [])))))
    (dSeq (dSet 3 (dLst (dCons (dC .non) (dCons (dC (.int 0)) (dCons (dNeg (dC (.int 1))) (dCons (dC (.bl true)) (dCons (dC (.bl false)) (dCons (dC (.int 1000000001)) (dCons (dOp dPow (dC (.int 10)) (dC (.int 30))) (dCons (dC (.str "")) (dCons (dC (.str "ninesigns")) (dCons (dC (.str "a b")) (dCons (dName 2) dNil)))))))))))))
    (dSeq (dSet 3 (dOp dAdd (dName 3) (dLst (dCons (dLst (dCons (dName 1) dNil)) (dCons (dTup (dCons (dName 1) dNil)) (dCons dDic0 (dCons (dC (.int 1000001)) (dCons (dC (.str "7")) (dCons (dOp dAdd (dCB dStrA (dCons (dName 1) dNil)) (dC (.str "-"))) (dCons (dC (.str "rose")) (dCons (dC (.int 5)) dNil)))))))))))
    (dRet (dCall S.f__law_of (dCons (dName 0) (dCons (dName 3) dNil)) [])))))
def t__law_is_size (K : PySem.W.Frag) (S : Sps) : DTS :=
  (dRet (dAndT (dCB (dIsi K) (dCons (dName 0) (dCons (dC (.ty "int")) dNil))) (dAndT (dNotT (dCB (dIsi K) (dCons (dName 0) (dCons (dC (.ty "bool")) dNil)))) (dChain dLe dLe (dC (.int 1)) (dName 0) (dName 1)))))
def t__law_is_word (K : PySem.W.Frag) (S : Sps) : DTS :=
  (dSeq (dIfS (dOr (dNot (dTru (dCB (dIsi K) (dCons (dName 0) (dCons (dC (.ty "str")) dNil))))) (dNot (dTest (dChain dLe dLe (dC (.int 1)) (dCB dLen (dCons (dName 0) dNil)) (dC (.int 8)))))) (dRet (dC (.bl false))) dNext)
    (dRet (dOp dEqE (dLc [1] (.one 1) (dIter (dName 0)) (dTest (dOp dNotIn (dName 1) (dC (.str "abcdefghijklmnopqrstuvwxyz")))) (dName 1)) (dLst dNil))))
def t__law_are_right (K : PySem.W.Frag) (S : Sps) : DTS :=
  (dSeq (dAsg (dName 0) (dgTup 6 (dgCons (dgName 1) (dgCons (dgName 2) (dgCons (dgName 3) (dgCons (dgName 4) (dgCons (dgName 5) (dgCons (dgName 6) dgNil))))))))
    (dSeq (dIfS (dNot (dTru (dCall S.f__law_is_size (dCons (dName 1) (dCons (dC (.int 1000000000)) dNil)) []))) (dRet (dC (.bl false))) dNext)
    (dSeq (dIfS (dOr (dNot (dTru (dCall S.f__law_is_size (dCons (dName 2) (dCons (dC (.int 1000000)) dNil)) []))) (dNot (dTru (dCall S.f__law_is_size (dCons (dName 3) (dCons (dC (.int 1000000)) dNil)) [])))) (dRet (dC (.bl false))) dNext)
    (dRet (dAndT (dCall S.f__law_is_word (dCons (dName 4) dNil) []) (dAndT (dCall S.f__law_is_word (dCons (dName 5) dNil) []) (dCB (dIsi K) (dCons (dName 6) (dCons (dC (.ty "bool")) dNil)))))))))
def t__law_fields (K : PySem.W.Frag) (S : Sps) : DTS :=
  (dRet (dLst (dCons (dFldC (He.ga K "Bead") "number" 0 (dName 0)) (dCons (dFldC (He.ga K "Bead") "across" 1 (dName 0)) (dCons (dFldC (He.ga K "Bead") "weight" 2 (dName 0)) (dCons (dFldC (He.ga K "Bead") "shade" 3 (dName 0)) (dCons (dFldC (He.ga K "Bead") "form" 4 (dName 0)) (dCons (dFldC (He.ga K "Bead") "drilled" 5 (dName 0)) dNil))))))))
def t__law_made (K : PySem.W.Frag) (S : Sps) : DTS :=
  (dSeq (dAsg (dName 0) (dgTup 6 (dgCons (dgName 2) (dgCons (dgName 3) (dgCons (dgName 4) (dgCons (dgName 5) (dgCons (dgName 6) (dgCons (dgName 7) dgNil))))))))
    (dSeq (dIfS (dTest (dOp dEq (dName 1) (dC (.int 0)))) (dRet (dMake (He.ga K "Bead") S.f_Bead___init__ (dCons (dName 2) (dCons (dName 3) (dCons (dName 4) (dCons (dName 5) (dCons (dName 6) (dCons (dName 7) dNil)))))) [])) dNext)
    (dSeq (dIfS (dTest (dOp dEq (dName 1) (dC (.int 1)))) (dRet (dMakeN (He.ga K "Bead") S.f_Bead___init__ 0 6 [0, 6, 5, 4, 3, 2, 1] [(.str "round"), (.bl false)] dNil (dCons (dName 7) (dCons (dName 6) (dCons (dName 5) (dCons (dName 4) (dCons (dName 3) (dCons (dName 2) dNil)))))))) dNext)
    (dRet (dMakeN (He.ga K "Bead") S.f_Bead___init__ 2 4 [0, 1, 2, 5, 3, 6, 4] [(.str "round"), (.bl false)] (dCons (dName 2) (dCons (dName 3) dNil)) (dCons (dName 5) (dCons (dName 7) (dCons (dName 4) (dCons (dName 6) dNil)))))))))
def t__law_told (K : PySem.W.Frag) (S : Sps) : DTS :=
  (dSeq (dTryAs K (.ref (He.ga K "PearlError")) 2 (dRet (dCall S.f__law_fields (dCons (dCall S.f__law_made (dCons (dName 0) (dCons (dName 1) dNil)) []) dNil) [])) (fun a cls d => (dSeq (dSet 3 (dIsXT K a cls d (xCs K) (dName 2) (dCons (dC (.ref (He.ga K "BadDeed"))) (dCons (dC (.ref (He.ga K "BadLot"))) (dCons (dC (.ref (He.ga K "BadRule"))) (dCons (dC (.ref (He.ga K "BadText"))) (dCons (dC (.ref (He.ga K "NoRow"))) (dCons (dC (.ref (He.ga K "NoShare"))) (dCons (dC (.ref (He.ga K "NoSuch"))) dNil)))))))))
    (dIfS (dAnd (dTru (dCB (dIsX K a cls d (xCs K)) (dCons (dName 2) (dCons (dC (.ref (He.ga K "BadBead"))) dNil)))) (dAnd (dTru (dCB (dIsX K a cls d (xCs K)) (dCons (dName 2) (dCons (dC (.ty "ValueError")) dNil)))) (dNot (dTru (dName 3))))) (dRet (dC .non)) dNext))))
    (dRet (dC (.str "other"))))
def t__law_right (K : PySem.W.Frag) (S : Sps) : DTS :=
  (dSeq (dSet 1 (dC .non))
    (dSeq (dIfS (dTru (dCall S.f__law_are_right (dCons (dName 0) dNil) [])) (dSet 1 (dCB dList (dCons (dName 0) dNil))) dNext)
    (dSeq (dFor (dRng1 (dCons (dC (.int 3)) dNil)) (dgName 2) (dSeq (dSet 3 (dCall S.f__law_told (dCons (dName 0) (dCons (dName 2) dNil)) []))
    (dIfS (dOr (dTest (dOp dNe (dName 3) (dName 1))) (dAnd (dTest (dOp dIsNot (dName 1) (dC .non))) (dTest (dOp dIsNot (dCB (dIsi K) (dCons (dOp dIx (dName 3) (dC (.int 5))) (dCons (dC (.ty "bool")) dNil))) (dC (.bl true)))))) (dRet (dC (.bl false))) dNext)))
    (dRet (dC (.bl true))))))
def t__law_left_out (K : PySem.W.Frag) (S : Sps) : DTS :=
  (dSeq (dAsg (dName 0) (dgTup 6 (dgCons (dgName 1) (dgCons (dgName 2) (dgCons (dgName 3) (dgCons (dgName 4) (dgCons (dgName 5) (dgCons (dgName 6) dgNil))))))))
    (dSeq (dSet 7 (dCB dList (dCons (dSl (dName 0) dNoP (dPart (dC (.int 4)))) dNil)))
    (dSeq (dIfS (dTest (dOp dNe (dCall S.f__law_fields (dCons (dMake (He.ga K "Bead") S.f_Bead___init__ (dCons (dName 1) (dCons (dName 2) (dCons (dName 3) (dCons (dName 4) dNil)))) [(.str "round"), (.bl false)]) dNil) []) (dOp dAdd (dName 7) (dLst (dCons (dC (.str "round")) (dCons (dC (.bl false)) dNil)))))) (dRet (dC (.bl false))) dNext)
    (dSeq (dSet 8 (dMakeN (He.ga K "Bead") S.f_Bead___init__ 4 1 [0, 1, 2, 3, 4, 6, 5] [(.str "round"), (.bl false)] (dCons (dName 1) (dCons (dName 2) (dCons (dName 3) (dCons (dName 4) dNil)))) (dCons (dName 6) dNil)))
    (dSeq (dIfS (dTest (dOp dNe (dCall S.f__law_fields (dCons (dName 8) dNil) []) (dOp dAdd (dName 7) (dLst (dCons (dC (.str "round")) (dCons (dName 6) dNil)))))) (dRet (dC (.bl false))) dNext)
    (dRet (dOp dEq (dCall S.f__law_fields (dCons (dMake (He.ga K "Bead") S.f_Bead___init__ (dCons (dName 1) (dCons (dName 2) (dCons (dName 3) (dCons (dName 4) (dCons (dName 5) dNil))))) [(.bl false)]) dNil) []) (dOp dAdd (dName 7) (dLst (dCons (dName 5) (dCons (dC (.bl false)) dNil)))))))))))
def t_law (K : PySem.W.Frag) (S : Sps) : DTS :=
  (dSeq (dFor (dIter (dOp dAdd (dLst (dCons (dCall S.f__law_cell_at (dCons (dName 0) (dCons (dC (.int 0)) dNil)) []) dNil)) (dSl (dName 0) (dPart (dC (.int 1))) (dPart (dC (.int 20)))))) (dgName 1) (dSeq (dSet 2 (dCall S.f__law_draws (dCons (dName 1) dNil) []))
    (dSeq (dSet 3 (dCall S.f__law_things (dCons (dName 2) dNil) []))
    (dSeq (dIfS (dOr (dNot (dTru (dCall S.f__law_right (dCons (dName 3) dNil) []))) (dNot (dTru (dCall S.f__law_left_out (dCons (dName 3) dNil) [])))) (dRet (dC (.bl false))) dNext)
    (dFor (dRng1 (dCons (dC (.int 10)) dNil)) (dgName 4) (dSeq (dSet 5 (dCB dListM (dCons (dName 3) dNil)))
    (dSeq (dFor (dRng1 (dCons (dOp dAdd (dC (.int 1)) (dCall S.f__law_one (dCons (dName 2) (dCons (dC (.int 2)) dNil)) [])) dNil)) (dgName 6) (dSeq (dSet 7 (dCall S.f__law_one (dCons (dName 2) (dCons (dC (.int 6)) dNil)) []))
    (dAsg (dCall S.f__law_odd (dCons (dName 2) (dCons (dOp dIx (dName 5) (dName 7)) dNil)) []) (dgSub (dName 5) (dName 7)))))
    (dIfS (dNot (dTru (dCall S.f__law_right (dCons (dCB dTuple (dCons (dName 5) dNil)) dNil) []))) (dRet (dC (.bl false))) dNext))))))))
    (dRet (dC (.bl true))))
section
variable {P : Program} {w : World} {K : PySem.W.Frag} {mg : Str → Option Value} {base : Heap}
theorem okw_PearlError___init__ (T : Tx K mg) : WhyI P w K mg base 1 (He.fAd K ("PearlError", some "__init__")) [(.str "refused")] := by
  obtain ⟨fd, F⟩ := T.d_PearlError___init__
  refine WhyI.of F (WhyI.fn F sc_PearlError___init__ fun cdv A outer s H E => ?_) (by decide) rfl (fun _ => ⟨_, _, rfl, rfl, rfl⟩) (fun j hj => match j, hj with | 0, _ => ⟨1, rfl, fun T kV doc pm an cdv ct us its hu hi => match us, hu, its, hi with | [_], _, [_], _ => ⟨_, rfl, rfl⟩⟩ | 1, _ => ⟨2, rfl, fun T kV doc pm an cdv ct us its hu hi => match us, hu, its, hi with | [_, _], _, [_], _ => ⟨_, rfl, rfl⟩⟩ | j + 2, hj => absurd hj (by simp))
  exact pss_cons (ps_expr (pe_veinit (by rfl) T.n_ValueError T.v_ini (pa_cons (pv 0) (pa_cons (pv 1) pa_nil)))) (pss_one (ps_ost (pv 0) (pv 1)))
theorem ok_is_whole (T : Tx K mg) (S : Sps)  (hl : ∀ ds G Q E, S.f_is_whole ds G Q E → ds.length = 3)
    (h : ∀ ds G Q E, S.f_is_whole ds G Q E → t_is_whole K S { nx := fun _ G' => GhV Q .non G', rt := GhV Q } (fun cls fs _ G' => E cls fs G') (dstart N_is_whole ds) G) : Pm P w K mg base 2 (He.fAd K ("is_whole", none)) ["thing", "least", "most"] [] S.f_is_whole := by
  obtain ⟨fd, F⟩ := T.d_is_whole
  refine Pm.mk0 F (okF F sc_is_whole hl fun cdv A outer s H E hr tk => ⟨t_is_whole K S, ?_, h⟩) (fun _ _ _ _ _ _ us hl => match us, hl with | [_, _, _], _ => rfl)
  exact (dss_cons (ds_if (dt_w (dw_or (dt_not (dt_tru (de_callB cd_isi (by rfl) T.n_isinstance bt_isinstance (da_cons (dv 0) (da_cons (de_ty (by rfl) T.n_int bt_int) da_nil))))) (dw_or1 (dt_tru (de_callB cd_isi (by rfl) T.n_isinstance bt_isinstance (da_cons (dv 0) (da_cons (de_ty (by rfl) T.n_bool bt_bool) da_nil))))))) (dss_one (ds_ret de_bl)) dss_nil)
    (dss_one (ds_ret (de_chain opd_le opd_le (dv 1) (dv 0) (dv 2)))))
theorem ok_is_name (T : Tx K mg) (S : Sps)  (hl : ∀ ds G Q E, S.f_is_name ds G Q E → ds.length = 1)
    (h : ∀ ds G Q E, S.f_is_name ds G Q E → t_is_name K S { nx := fun _ G' => GhV Q .non G', rt := GhV Q } (fun cls fs _ G' => E cls fs G') (dstart N_is_name ds) G) : Pm P w K mg base 2 (He.fAd K ("is_name", none)) ["thing"] [] S.f_is_name := by
  obtain ⟨fd, F⟩ := T.d_is_name
  refine Pm.mk0 F (okF F sc_is_name hl fun cdv A outer s H E hr tk => ⟨t_is_name K S, ?_, h⟩) (fun _ _ _ _ _ _ us hl => match us, hl with | [_], _ => rfl)
  exact (dss_cons (ds_if (dt_w (dw_or (dt_not (dt_tru (de_callB cd_isi (by rfl) T.n_isinstance bt_isinstance (da_cons (dv 0) (da_cons (de_ty (by rfl) T.n_str bt_str) da_nil))))) (dw_or1 (dt_not (dt_chain opd_le opd_le de_int (de_callB cd_len (by rfl) T.n_len bt_len (da_cons (dv 0) da_nil)) (de_globE (by rfl) T.c_MOST_LETTERS fun _ => rfl)))))) (dss_one (ds_ret de_bl)) dss_nil)
    (dss_one (ds_ret (de_callB (cd_all rfl) (by rfl) T.n_all bt_all (da_cons (de_lc (own := [("sign", 1)]) (c := (.one 1)) rfl sc_is_name.nd (by decide) (di_iter (dv 0)) (blkOk_by (own := [("sign", 1)]) (N := N_is_name) (sc := defScope s_is_name) (by decide +kernel)) (fun _ _ _ _ _ => (pg_name (i := 1) sc_is_name.nd rfl (by first | exact Or.inl rfl | exact Or.inr rfl))) (fun _ _ _ _ _ => dts_nil) (fun _ _ _ _ _ => (de_cmp (opd_in hr.u65) (dv 1) (de_globE (by rfl) T.c_LETTERS fun _ => rfl)))) da_nil)))))
theorem ok_is_number (T : Tx K mg) (S : Sps) (p_is_whole : Pm P w K mg base 2 (He.fAd K ("is_whole", none)) ["thing", "least", "most"] [] S.f_is_whole) (hl : ∀ ds G Q E, S.f_is_number ds G Q E → ds.length = 1)
    (h : ∀ ds G Q E, S.f_is_number ds G Q E → t_is_number K S { nx := fun _ G' => GhV Q .non G', rt := GhV Q } (fun cls fs _ G' => E cls fs G') (dstart N_is_number ds) G) : Pm P w K mg base 3 (He.fAd K ("is_number", none)) ["thing"] [] S.f_is_number := by
  obtain ⟨fd, F⟩ := T.d_is_number
  refine Pm.mk0 F (okF F sc_is_number hl fun cdv A outer s H E hr tk => ⟨t_is_number K S, ?_, h⟩) (fun _ _ _ _ _ _ us hl => match us, hl with | [_], _ => rfl)
  exact (dss_one (ds_ret (de_callP p_is_whole 0 (hr.mono (by decide)) (by rfl) T.m_is_whole tk (da_cons (dv 0) (da_cons de_int (da_cons (de_globE (by rfl) T.c_MOST_NUMBER fun _ => rfl) da_nil))))))
theorem okd_Bead___init__ (T : Tx K mg) (S : Sps) {f : Addr} {fd : FuncData} (F : FunD K "__init__" "Bead.__init__" (defArgs s_Bead___init__) (defBody s_Bead___init__) (defScope s_Bead___init__) [(.str "round"), (.bl false)] [] f fd) (pw_PearlError___init__ : WhyI P w K mg base 1 (He.fAd K ("PearlError", some "__init__")) [(.str "refused")]) (p_is_name : Pm P w K mg base 2 (He.fAd K ("is_name", none)) ["thing"] [] S.f_is_name) (p_is_number : Pm P w K mg base 3 (He.fAd K ("is_number", none)) ["thing"] [] S.f_is_number) (p_is_whole : Pm P w K mg base 2 (He.fAd K ("is_whole", none)) ["thing", "least", "most"] [] S.f_is_whole) (hl : ∀ ds G Q E, S.f_Bead___init__ ds G Q E → ds.length = 7)
    (h : ∀ ds G Q E, S.f_Bead___init__ ds G Q E → t_Bead___init__ K S { nx := fun _ G' => GhV Q .non G', rt := GhV Q } (fun cls fs _ G' => E cls fs G') (dstart N_Bead___init__ ds) G) : FnD P w K mg base 4 f fd ["self", "number", "across", "weight", "shade", "form", "drilled"] S.f_Bead___init__ := by
  refine okF F sc_Bead___init__ hl fun cdv A outer s H E hr tk => ⟨t_Bead___init__ K S, ?_, h⟩
  exact (dss_cons (ds_if (dt_not (dt_tru (de_callP p_is_number 0 (hr.mono (by decide)) (by rfl) T.m_is_number tk (da_cons (dv 1) da_nil)))) (dss_one (ds_raiseW rfl tk T.wc_BadBead pw_PearlError___init__ 1 (hr.mono (by decide)) (by rfl) T.m_BadBead (da_cons de_str da_nil))) dss_nil)
    (dss_cons (ds_if (dt_w (dw_or (dt_not (dt_tru (de_callP p_is_whole 0 (hr.mono (by decide)) (by rfl) T.m_is_whole tk (da_cons (dv 2) (da_cons de_int (da_cons (de_globE (by rfl) T.c_MOST_SIZE fun _ => rfl) da_nil)))))) (dw_or1 (dt_not (dt_tru (de_callP p_is_whole 0 (hr.mono (by decide)) (by rfl) T.m_is_whole tk (da_cons (dv 3) (da_cons de_int (da_cons (de_globE (by rfl) T.c_MOST_SIZE fun _ => rfl) da_nil))))))))) (dss_one (ds_raiseW rfl tk T.wc_BadBead pw_PearlError___init__ 1 (hr.mono (by decide)) (by rfl) T.m_BadBead (da_cons de_str da_nil))) dss_nil)
    (dss_cons (ds_if (dt_w (dw_or (dt_not (dt_tru (de_callP p_is_name 0 (hr.mono (by decide)) (by rfl) T.m_is_name tk (da_cons (dv 4) da_nil)))) (dw_or (dt_not (dt_tru (de_callP p_is_name 0 (hr.mono (by decide)) (by rfl) T.m_is_name tk (da_cons (dv 5) da_nil)))) (dw_or1 (dt_not (dt_tru (de_callB cd_isi (by rfl) T.n_isinstance bt_isinstance (da_cons (dv 6) (da_cons (de_ty (by rfl) T.n_bool bt_bool) da_nil))))))))) (dss_one (ds_raiseW rfl tk T.wc_BadBead pw_PearlError___init__ 1 (hr.mono (by decide)) (by rfl) T.m_BadBead (da_cons de_str da_nil))) dss_nil)
    (dss_cons (ds_fldC T.cl_Bead T.na_Bead_number (dv 0) (dv 1))
    (dss_cons (ds_fldC T.cl_Bead T.na_Bead_across (dv 0) (dv 2))
    (dss_cons (ds_fldC T.cl_Bead T.na_Bead_weight (dv 0) (dv 3))
    (dss_cons (ds_fldC T.cl_Bead T.na_Bead_shade (dv 0) (dv 4))
    (dss_cons (ds_fldC T.cl_Bead T.na_Bead_form (dv 0) (dv 5))
    (dss_one (ds_fldC T.cl_Bead T.na_Bead_drilled (dv 0) (dv 6)))))))))))
theorem okpN_Bead___init___0 (T : Tx K mg) (S : Sps) (pw_PearlError___init__ : WhyI P w K mg base 1 (He.fAd K ("PearlError", some "__init__")) [(.str "refused")]) (p_is_name : Pm P w K mg base 2 (He.fAd K ("is_name", none)) ["thing"] [] S.f_is_name) (p_is_number : Pm P w K mg base 3 (He.fAd K ("is_number", none)) ["thing"] [] S.f_is_number) (p_is_whole : Pm P w K mg base 2 (He.fAd K ("is_whole", none)) ["thing", "least", "most"] [] S.f_is_whole) (hl : ∀ ds G Q E, S.f_Bead___init__ ds G Q E → ds.length = 7)
    (h : ∀ ds G Q E, S.f_Bead___init__ ds G Q E → t_Bead___init__ K S { nx := fun _ G' => GhV Q .non G', rt := GhV Q } (fun cls fs _ G' => E cls fs G') (dstart N_Bead___init__ ds) G) : PmN P w K mg base 4 (He.fAd K ("Bead", some "__init__")) ["self", "number", "across", "weight", "shade", "form", "drilled"] 1 ["drilled", "form", "shade", "weight", "across", "number"] [0, 6, 5, 4, 3, 2, 1] [(.str "round"), (.bl false)] S.f_Bead___init__ := by
  obtain ⟨fd, F⟩ := T.d_Bead___init__
  exact PmN.mkD F (okd_Bead___init__ T S F pw_PearlError___init__ p_is_name p_is_number p_is_whole hl h) (by decide) (fun _ => ⟨_, _, rfl, rfl, ⟨_, _, rfl, rfl, rfl⟩⟩) (fun T kV doc pm an cdv ct us ws its h1 h2 h3 => match us, h1, ws, h2, its, h3 with | [_], _, [_, _, _, _, _, _], _, [_, _], _ => ⟨_, rfl, rfl⟩)
theorem okpN_Bead___init___1 (T : Tx K mg) (S : Sps) (pw_PearlError___init__ : WhyI P w K mg base 1 (He.fAd K ("PearlError", some "__init__")) [(.str "refused")]) (p_is_name : Pm P w K mg base 2 (He.fAd K ("is_name", none)) ["thing"] [] S.f_is_name) (p_is_number : Pm P w K mg base 3 (He.fAd K ("is_number", none)) ["thing"] [] S.f_is_number) (p_is_whole : Pm P w K mg base 2 (He.fAd K ("is_whole", none)) ["thing", "least", "most"] [] S.f_is_whole) (hl : ∀ ds G Q E, S.f_Bead___init__ ds G Q E → ds.length = 7)
    (h : ∀ ds G Q E, S.f_Bead___init__ ds G Q E → t_Bead___init__ K S { nx := fun _ G' => GhV Q .non G', rt := GhV Q } (fun cls fs _ G' => E cls fs G') (dstart N_Bead___init__ ds) G) : PmN P w K mg base 4 (He.fAd K ("Bead", some "__init__")) ["self", "number", "across", "weight", "shade", "form", "drilled"] 3 ["shade", "drilled", "weight", "form"] [0, 1, 2, 5, 3, 6, 4] [(.str "round"), (.bl false)] S.f_Bead___init__ := by
  obtain ⟨fd, F⟩ := T.d_Bead___init__
  exact PmN.mkD F (okd_Bead___init__ T S F pw_PearlError___init__ p_is_name p_is_number p_is_whole hl h) (by decide) (fun _ => ⟨_, _, rfl, rfl, ⟨_, _, rfl, rfl, rfl⟩⟩) (fun T kV doc pm an cdv ct us ws its h1 h2 h3 => match us, h1, ws, h2, its, h3 with | [_, _, _], _, [_, _, _, _], _, [_, _], _ => ⟨_, rfl, rfl⟩)
theorem okpN_Bead___init___2 (T : Tx K mg) (S : Sps) (pw_PearlError___init__ : WhyI P w K mg base 1 (He.fAd K ("PearlError", some "__init__")) [(.str "refused")]) (p_is_name : Pm P w K mg base 2 (He.fAd K ("is_name", none)) ["thing"] [] S.f_is_name) (p_is_number : Pm P w K mg base 3 (He.fAd K ("is_number", none)) ["thing"] [] S.f_is_number) (p_is_whole : Pm P w K mg base 2 (He.fAd K ("is_whole", none)) ["thing", "least", "most"] [] S.f_is_whole) (hl : ∀ ds G Q E, S.f_Bead___init__ ds G Q E → ds.length = 7)
    (h : ∀ ds G Q E, S.f_Bead___init__ ds G Q E → t_Bead___init__ K S { nx := fun _ G' => GhV Q .non G', rt := GhV Q } (fun cls fs _ G' => E cls fs G') (dstart N_Bead___init__ ds) G) : PmN P w K mg base 4 (He.fAd K ("Bead", some "__init__")) ["self", "number", "across", "weight", "shade", "form", "drilled"] 5 ["drilled"] [0, 1, 2, 3, 4, 6, 5] [(.str "round"), (.bl false)] S.f_Bead___init__ := by
  obtain ⟨fd, F⟩ := T.d_Bead___init__
  exact PmN.mkD F (okd_Bead___init__ T S F pw_PearlError___init__ p_is_name p_is_number p_is_whole hl h) (by decide) (fun _ => ⟨_, _, rfl, rfl, ⟨_, _, rfl, rfl, rfl⟩⟩) (fun T kV doc pm an cdv ct us ws its h1 h2 h3 => match us, h1, ws, h2, its, h3 with | [_, _, _, _, _], _, [_], _, [_, _], _ => ⟨_, rfl, rfl⟩)
theorem ok_Bead___init__ (T : Tx K mg) (S : Sps) (pw_PearlError___init__ : WhyI P w K mg base 1 (He.fAd K ("PearlError", some "__init__")) [(.str "refused")]) (p_is_name : Pm P w K mg base 2 (He.fAd K ("is_name", none)) ["thing"] [] S.f_is_name) (p_is_number : Pm P w K mg base 3 (He.fAd K ("is_number", none)) ["thing"] [] S.f_is_number) (p_is_whole : Pm P w K mg base 2 (He.fAd K ("is_whole", none)) ["thing", "least", "most"] [] S.f_is_whole) (hl : ∀ ds G Q E, S.f_Bead___init__ ds G Q E → ds.length = 7)
    (h : ∀ ds G Q E, S.f_Bead___init__ ds G Q E → t_Bead___init__ K S { nx := fun _ G' => GhV Q .non G', rt := GhV Q } (fun cls fs _ G' => E cls fs G') (dstart N_Bead___init__ ds) G) : Pm P w K mg base 4 (He.fAd K ("Bead", some "__init__")) ["self", "number", "across", "weight", "shade", "form", "drilled"] [(.str "round"), (.bl false)] S.f_Bead___init__ := by
  obtain ⟨fd, F⟩ := T.d_Bead___init__
  refine Pm.mkD F (okF F sc_Bead___init__ hl fun cdv A outer s H E hr tk => ⟨t_Bead___init__ K S, ?_, h⟩) (by decide) rfl (fun _ => ⟨_, _, rfl, rfl, ⟨_, _, rfl, rfl, rfl⟩⟩) (fun j hj => match j, hj with | 0, _ => ⟨5, rfl, fun T kV doc pm an cdv ct us its hu hi => match us, hu, its, hi with | [_, _, _, _, _], _, [_, _], _ => ⟨_, rfl, rfl⟩⟩ | 1, _ => ⟨6, rfl, fun T kV doc pm an cdv ct us its hu hi => match us, hu, its, hi with | [_, _, _, _, _, _], _, [_, _], _ => ⟨_, rfl, rfl⟩⟩ | 2, _ => ⟨7, rfl, fun T kV doc pm an cdv ct us its hu hi => match us, hu, its, hi with | [_, _, _, _, _, _, _], _, [_, _], _ => ⟨_, rfl, rfl⟩⟩ | j + 3, hj => absurd hj (by simp))
  exact (dss_cons (ds_if (dt_not (dt_tru (de_callP p_is_number 0 (hr.mono (by decide)) (by rfl) T.m_is_number tk (da_cons (dv 1) da_nil)))) (dss_one (ds_raiseW rfl tk T.wc_BadBead pw_PearlError___init__ 1 (hr.mono (by decide)) (by rfl) T.m_BadBead (da_cons de_str da_nil))) dss_nil)
    (dss_cons (ds_if (dt_w (dw_or (dt_not (dt_tru (de_callP p_is_whole 0 (hr.mono (by decide)) (by rfl) T.m_is_whole tk (da_cons (dv 2) (da_cons de_int (da_cons (de_globE (by rfl) T.c_MOST_SIZE fun _ => rfl) da_nil)))))) (dw_or1 (dt_not (dt_tru (de_callP p_is_whole 0 (hr.mono (by decide)) (by rfl) T.m_is_whole tk (da_cons (dv 3) (da_cons de_int (da_cons (de_globE (by rfl) T.c_MOST_SIZE fun _ => rfl) da_nil))))))))) (dss_one (ds_raiseW rfl tk T.wc_BadBead pw_PearlError___init__ 1 (hr.mono (by decide)) (by rfl) T.m_BadBead (da_cons de_str da_nil))) dss_nil)
    (dss_cons (ds_if (dt_w (dw_or (dt_not (dt_tru (de_callP p_is_name 0 (hr.mono (by decide)) (by rfl) T.m_is_name tk (da_cons (dv 4) da_nil)))) (dw_or (dt_not (dt_tru (de_callP p_is_name 0 (hr.mono (by decide)) (by rfl) T.m_is_name tk (da_cons (dv 5) da_nil)))) (dw_or1 (dt_not (dt_tru (de_callB cd_isi (by rfl) T.n_isinstance bt_isinstance (da_cons (dv 6) (da_cons (de_ty (by rfl) T.n_bool bt_bool) da_nil))))))))) (dss_one (ds_raiseW rfl tk T.wc_BadBead pw_PearlError___init__ 1 (hr.mono (by decide)) (by rfl) T.m_BadBead (da_cons de_str da_nil))) dss_nil)
    (dss_cons (ds_fldC T.cl_Bead T.na_Bead_number (dv 0) (dv 1))
    (dss_cons (ds_fldC T.cl_Bead T.na_Bead_across (dv 0) (dv 2))
    (dss_cons (ds_fldC T.cl_Bead T.na_Bead_weight (dv 0) (dv 3))
    (dss_cons (ds_fldC T.cl_Bead T.na_Bead_shade (dv 0) (dv 4))
    (dss_cons (ds_fldC T.cl_Bead T.na_Bead_form (dv 0) (dv 5))
    (dss_one (ds_fldC T.cl_Bead T.na_Bead_drilled (dv 0) (dv 6)))))))))))
theorem ok__law_cell_at (T : Tx K mg) (S : Sps)  (hl : ∀ ds G Q E, S.f__law_cell_at ds G Q E → ds.length = 2)
    (h : ∀ ds G Q E, S.f__law_cell_at ds G Q E → t__law_cell_at K S { nx := fun _ G' => GhV Q .non G', rt := GhV Q } (fun cls fs _ G' => E cls fs G') (dstart N__law_cell_at ds) G) : Pm P w K mg base 2 (He.fAd K ("_law_cell_at", none)) ["_law_script", "_law_k"] [] S.f__law_cell_at := by
  obtain ⟨fd, F⟩ := T.d__law_cell_at
  refine Pm.mk0 F (okF F sc__law_cell_at hl fun cdv A outer s H E hr tk => ⟨t__law_cell_at K S, ?_, h⟩) (fun _ _ _ _ _ _ us hl => match us, hl with | [_, _], _ => rfl)
  exact (dss_cons (ds_if (dt_cmp opd_lt (dv 1) (de_callB cd_len (by rfl) T.n_len bt_len (da_cons (dv 0) da_nil))) (dss_one (ds_ret (de_ix (dv 0) (dv 1)))) dss_nil)
    (dss_one (ds_ret de_int)))
theorem ok__law_draws (T : Tx K mg) (S : Sps)  (hl : ∀ ds G Q E, S.f__law_draws ds G Q E → ds.length = 1)
    (h : ∀ ds G Q E, S.f__law_draws ds G Q E → t__law_draws K S { nx := fun _ G' => GhV Q .non G', rt := GhV Q } (fun cls fs _ G' => E cls fs G') (dstart N__law_draws ds) G) : Pm P w K mg base 2 (He.fAd K ("_law_draws", none)) ["_law_cell"] [] S.f__law_draws := by
  obtain ⟨fd, F⟩ := T.d__law_draws
  refine Pm.mk0 F (okF F sc__law_draws hl fun cdv A outer s H E hr tk => ⟨t__law_draws K S, ?_, h⟩) (fun _ _ _ _ _ _ us hl => match us, hl with | [_], _ => rfl)
  exact (dss_one (ds_ret (de_lstM (da_cons (de_op opd_mul (dv 0) (de_callTy cd_int (by rfl) T.n_int bt_int (da_cons (de_cmp opd_ge (dv 0) (de_op opd_pow de_int de_int)) da_nil))) (da_cons (de_op opd_mod (dv 0) de_int) (da_cons de_int da_nil))))))
theorem ok__law_one (T : Tx K mg) (S : Sps)  (hl : ∀ ds G Q E, S.f__law_one ds G Q E → ds.length = 2)
    (h : ∀ ds G Q E, S.f__law_one ds G Q E → t__law_one K S { nx := fun _ G' => GhV Q .non G', rt := GhV Q } (fun cls fs _ G' => E cls fs G') (dstart N__law_one ds) G) : Pm P w K mg base 2 (He.fAd K ("_law_one", none)) ["_law_draws_here", "_law_many"] [] S.f__law_one := by
  obtain ⟨fd, F⟩ := T.d__law_one
  refine Pm.mk0 F (okF F sc__law_one hl fun cdv A outer s H E hr tk => ⟨t__law_one K S, ?_, h⟩) (fun _ _ _ _ _ _ us hl => match us, hl with | [_, _], _ => rfl)
  exact (dss_cons (ds_if (dt_cmp opd_gt (de_ix (dv 0) de_int) de_int) (dss_cons (ds_set (i := 2) sc__law_one.nd rfl (by first | exact Or.inl rfl | exact Or.inr rfl) (de_op opd_mod (de_ix (dv 0) de_int) (dv 1)))
    (dss_cons (ds_asg (de_op opd_div (de_ix (dv 0) de_int) (dv 1)) (dg_sub (dv 0) de_int))
    (dss_one (ds_ret (dv 2))))) dss_nil)
    (dss_cons (ds_asg (de_op opd_add (de_ix (dv 0) de_int) de_int) (dg_sub (dv 0) de_int))
    (dss_cons (ds_set (i := 3) sc__law_one.nd rfl (by first | exact Or.inl rfl | exact Or.inr rfl) (de_op opd_mod (de_op opd_pow (de_op opd_add (de_op opd_add (de_ix (dv 0) de_int) (de_op opd_mul de_int (de_ix (dv 0) de_int))) de_int) de_int) de_int))
    (dss_cons (ds_set (i := 3) sc__law_one.nd rfl (by first | exact Or.inl rfl | exact Or.inr rfl) (de_op opd_mod (de_op opd_mul (dv 3) (de_op opd_add (de_op opd_add (de_op opd_div (dv 3) de_int) de_int) (de_ix (dv 0) de_int))) de_int))
    (dss_one (ds_ret (de_op opd_mod (de_op opd_mod (de_op opd_mul (dv 3) (de_op opd_add (de_op opd_div (dv 3) de_int) de_int)) de_int) (dv 1))))))))
theorem ok__law_of (T : Tx K mg) (S : Sps) (p__law_one : Pm P w K mg base 2 (He.fAd K ("_law_one", none)) ["_law_draws_here", "_law_many"] [] S.f__law_one) (hl : ∀ ds G Q E, S.f__law_of ds G Q E → ds.length = 2)
    (h : ∀ ds G Q E, S.f__law_of ds G Q E → t__law_of K S { nx := fun _ G' => GhV Q .non G', rt := GhV Q } (fun cls fs _ G' => E cls fs G') (dstart N__law_of ds) G) : Pm P w K mg base 3 (He.fAd K ("_law_of", none)) ["_law_draws_here", "_law_some"] [] S.f__law_of := by
  obtain ⟨fd, F⟩ := T.d__law_of
  refine Pm.mk0 F (okF F sc__law_of hl fun cdv A outer s H E hr tk => ⟨t__law_of K S, ?_, h⟩) (fun _ _ _ _ _ _ us hl => match us, hl with | [_, _], _ => rfl)
  exact (dss_one (ds_ret (de_ix (dv 1) (de_callP p__law_one 0 (hr.mono (by decide)) (by rfl) T.m__law_one tk (da_cons (dv 0) (da_cons (de_callB cd_len (by rfl) T.n_len bt_len (da_cons (dv 1) da_nil)) da_nil))))))
theorem ok__law_word (T : Tx K mg) (S : Sps) (p__law_one : Pm P w K mg base 2 (He.fAd K ("_law_one", none)) ["_law_draws_here", "_law_many"] [] S.f__law_one) (hl : ∀ ds G Q E, S.f__law_word ds G Q E → ds.length = 1)
    (h : ∀ ds G Q E, S.f__law_word ds G Q E → t__law_word K S { nx := fun _ G' => GhV Q .non G', rt := GhV Q } (fun cls fs _ G' => E cls fs G') (dstart N__law_word ds) G) : Pm P w K mg base 3 (He.fAd K ("_law_word", none)) ["_law_draws_here"] [] S.f__law_word := by
  obtain ⟨fd, F⟩ := T.d__law_word
  refine Pm.mk0 F (okF F sc__law_word hl fun cdv A outer s H E hr tk => ⟨t__law_word K S, ?_, h⟩) (fun _ _ _ _ _ _ us hl => match us, hl with | [_], _ => rfl)
  exact (dss_cons (ds_set (i := 1) sc__law_word.nd rfl (by first | exact Or.inl rfl | exact Or.inr rfl) de_str)
    (dss_one (ds_ret (de_bm PySem.F.plainAttrs_str PySem.F.slot_str_join PySem.F.type_str_join md_join de_str (da_cons (de_lc (own := [("_law_k", 2)]) (c := (.one 2)) rfl sc__law_word.nd (by decide) (di_range1 (by rfl) T.n_range (da_cons (de_op opd_add de_int (de_callP p__law_one 0 (hr.mono (by decide)) (by rfl) T.m__law_one tk (da_cons (dv 0) (da_cons de_int da_nil)))) da_nil)) (blkOk_by (own := [("_law_k", 2)]) (N := N__law_word) (sc := defScope s__law_word) (by decide +kernel)) (fun _ _ _ _ _ => (pg_name (i := 2) sc__law_word.nd rfl (by first | exact Or.inl rfl | exact Or.inr rfl))) (fun _ _ _ _ _ => dts_nil) (fun _ _ _ _ _ => (de_ix (dv 1) (de_callP p__law_one 0 (hr.mono (by decide)) (by rfl) T.m__law_one takes0 (da_cons (dv 0) (da_cons de_int da_nil)))))) da_nil)))))
theorem ok__law_size (T : Tx K mg) (S : Sps) (p__law_of : Pm P w K mg base 3 (He.fAd K ("_law_of", none)) ["_law_draws_here", "_law_some"] [] S.f__law_of) (p__law_one : Pm P w K mg base 2 (He.fAd K ("_law_one", none)) ["_law_draws_here", "_law_many"] [] S.f__law_one) (hl : ∀ ds G Q E, S.f__law_size ds G Q E → ds.length = 1)
    (h : ∀ ds G Q E, S.f__law_size ds G Q E → t__law_size K S { nx := fun _ G' => GhV Q .non G', rt := GhV Q } (fun cls fs _ G' => E cls fs G') (dstart N__law_size ds) G) : Pm P w K mg base 4 (He.fAd K ("_law_size", none)) ["_law_draws_here"] [] S.f__law_size := by
  obtain ⟨fd, F⟩ := T.d__law_size
  refine Pm.mk0 F (okF F sc__law_size hl fun cdv A outer s H E hr tk => ⟨t__law_size K S, ?_, h⟩) (fun _ _ _ _ _ _ us hl => match us, hl with | [_], _ => rfl)
  exact (dss_one (ds_ret (de_callP p__law_of 0 (hr.mono (by decide)) (by rfl) T.m__law_of tk (da_cons (dv 0) (da_cons (de_lst (da_cons (de_op opd_add de_int (de_callP p__law_one 0 (hr.mono (by decide)) (by rfl) T.m__law_one tk (da_cons (dv 0) (da_cons de_int da_nil)))) (da_cons (de_op opd_add de_int (de_callP p__law_one 0 (hr.mono (by decide)) (by rfl) T.m__law_one tk (da_cons (dv 0) (da_cons de_int da_nil)))) (da_cons de_int (da_cons de_int da_nil))))) da_nil)))))
theorem ok__law_things (T : Tx K mg) (S : Sps) (p__law_of : Pm P w K mg base 3 (He.fAd K ("_law_of", none)) ["_law_draws_here", "_law_some"] [] S.f__law_of) (p__law_one : Pm P w K mg base 2 (He.fAd K ("_law_one", none)) ["_law_draws_here", "_law_many"] [] S.f__law_one) (p__law_size : Pm P w K mg base 4 (He.fAd K ("_law_size", none)) ["_law_draws_here"] [] S.f__law_size) (p__law_word : Pm P w K mg base 3 (He.fAd K ("_law_word", none)) ["_law_draws_here"] [] S.f__law_word) (hl : ∀ ds G Q E, S.f__law_things ds G Q E → ds.length = 1)
    (h : ∀ ds G Q E, S.f__law_things ds G Q E → t__law_things K S { nx := fun _ G' => GhV Q .non G', rt := GhV Q } (fun cls fs _ G' => E cls fs G') (dstart N__law_things ds) G) : Pm P w K mg base 5 (He.fAd K ("_law_things", none)) ["_law_draws_here"] [] S.f__law_things := by
  obtain ⟨fd, F⟩ := T.d__law_things
  refine Pm.mk0 F (okF F sc__law_things hl fun cdv A outer s H E hr tk => ⟨t__law_things K S, ?_, h⟩) (fun _ _ _ _ _ _ us hl => match us, hl with | [_], _ => rfl)
  exact (dss_cons (ds_set (i := 1) sc__law_things.nd rfl (by first | exact Or.inl rfl | exact Or.inr rfl) (de_callP p__law_of 0 (hr.mono (by decide)) (by rfl) T.m__law_of tk (da_cons (dv 0) (da_cons (de_lst (da_cons (de_op opd_add de_int (de_callP p__law_one 0 (hr.mono (by decide)) (by rfl) T.m__law_one tk (da_cons (dv 0) (da_cons de_int da_nil)))) (da_cons (de_op opd_add de_int (de_callP p__law_one 0 (hr.mono (by decide)) (by rfl) T.m__law_one tk (da_cons (dv 0) (da_cons de_int da_nil)))) (da_cons de_int da_nil)))) da_nil))))
    (dss_cons (ds_set (i := 2) sc__law_things.nd rfl (by first | exact Or.inl rfl | exact Or.inr rfl) (de_callP p__law_of 0 (hr.mono (by decide)) (by rfl) T.m__law_of tk (da_cons (dv 0) (da_cons (de_lst (da_cons (de_callP p__law_word 0 (hr.mono (by decide)) (by rfl) T.m__law_word tk (da_cons (dv 0) da_nil)) (da_cons de_str (da_cons de_str da_nil)))) da_nil))))
    (dss_cons (ds_set (i := 3) sc__law_things.nd rfl (by first | exact Or.inl rfl | exact Or.inr rfl) (de_callP p__law_of 0 (hr.mono (by decide)) (by rfl) T.m__law_of tk (da_cons (dv 0) (da_cons (de_lst (da_cons (de_callP p__law_word 0 (hr.mono (by decide)) (by rfl) T.m__law_word tk (da_cons (dv 0) da_nil)) (da_cons de_str (da_cons de_str da_nil)))) da_nil))))
    (dss_one (ds_ret (de_tup (da_cons (dv 1) (da_cons (de_callP p__law_size 0 (hr.mono (by decide)) (by rfl) T.m__law_size tk (da_cons (dv 0) da_nil)) (da_cons (de_callP p__law_size 0 (hr.mono (by decide)) (by rfl) T.m__law_size tk (da_cons (dv 0) da_nil)) (da_cons (dv 2) (da_cons (dv 3) (da_cons (de_cmp (opd_eq hr.units) (de_callP p__law_one 0 (hr.mono (by decide)) (by rfl) T.m__law_one tk (da_cons (dv 0) (da_cons de_int da_nil))) de_int) da_nil))))))))))))
theorem ok__law_odd (T : Tx K mg) (S : Sps) (p__law_of : Pm P w K mg base 3 (He.fAd K ("_law_of", none)) ["_law_draws_here", "_law_some"] [] S.f__law_of) (p__law_one : Pm P w K mg base 2 (He.fAd K ("_law_one", none)) ["_law_draws_here", "_law_many"] [] S.f__law_one) (hl : ∀ ds G Q E, S.f__law_odd ds G Q E → ds.length = 2)
    (h : ∀ ds G Q E, S.f__law_odd ds G Q E → t__law_odd K S { nx := fun _ G' => GhV Q .non G', rt := GhV Q } (fun cls fs _ G' => E cls fs G') (dstart N__law_odd ds) G) : Pm P w K mg base 4 (He.fAd K ("_law_odd", none)) ["_law_draws_here", "_law_thing"] [] S.f__law_odd := by
  obtain ⟨fd, F⟩ := T.d__law_odd
  refine Pm.mk0 F (okF F sc__law_odd hl fun cdv A outer s H E hr tk => ⟨t__law_odd K S, ?_, h⟩) (fun _ _ _ _ _ _ us hl => match us, hl with | [_, _], _ => rfl)
  exact (dss_cons (ds_set (i := 2) sc__law_odd.nd rfl (by first | exact Or.inl rfl | exact Or.inr rfl) (de_slice de_str do_none (do_some (de_op opd_add de_int (de_callP p__law_one 0 (hr.mono (by decide)) (by rfl) T.m__law_one tk (da_cons (dv 0) (da_cons de_int da_nil)))))))
    (dss_cons (ds_set (i := 3) sc__law_odd.nd rfl (by first | exact Or.inl rfl | exact Or.inr rfl) (de_lst (da_cons de_non (da_cons de_int (da_cons (de_neg de_int) (da_cons de_bl (da_cons de_bl (da_cons de_int (da_cons (de_op opd_pow de_int de_int) (da_cons de_str (da_cons de_str (da_cons de_str (da_cons (dv 2) da_nil)))))))))))))
    (dss_cons (ds_set (i := 3) sc__law_odd.nd rfl (by first | exact Or.inl rfl | exact Or.inr rfl) (de_op opd_add (dv 3) (de_lst (da_cons (de_lst (da_cons (dv 1) da_nil)) (da_cons (de_tup (da_cons (dv 1) da_nil)) (da_cons de_dic0 (da_cons de_int (da_cons de_str (da_cons (de_op opd_add (de_callTy (cd_strA (hr.mono (by decide))) (by rfl) T.n_str bt_str (da_cons (dv 1) da_nil)) de_str) (da_cons de_str (da_cons de_int da_nil)))))))))))
    (dss_one (ds_ret (de_callP p__law_of 0 (hr.mono (by decide)) (by rfl) T.m__law_of tk (da_cons (dv 0) (da_cons (dv 3) da_nil))))))))
theorem ok__law_is_size (T : Tx K mg) (S : Sps)  (hl : ∀ ds G Q E, S.f__law_is_size ds G Q E → ds.length = 2)
    (h : ∀ ds G Q E, S.f__law_is_size ds G Q E → t__law_is_size K S { nx := fun _ G' => GhV Q .non G', rt := GhV Q } (fun cls fs _ G' => E cls fs G') (dstart N__law_is_size ds) G) : Pm P w K mg base 2 (He.fAd K ("_law_is_size", none)) ["_law_thing", "_law_most"] [] S.f__law_is_size := by
  obtain ⟨fd, F⟩ := T.d__law_is_size
  refine Pm.mk0 F (okF F sc__law_is_size hl fun cdv A outer s H E hr tk => ⟨t__law_is_size K S, ?_, h⟩) (fun _ _ _ _ _ _ us hl => match us, hl with | [_, _], _ => rfl)
  exact (dss_one (ds_ret (de_andT (de_callB cd_isi (by rfl) T.n_isinstance bt_isinstance (da_cons (dv 0) (da_cons (de_ty (by rfl) T.n_int bt_int) da_nil))) (de_andT (de_notT (de_callB cd_isi (by rfl) T.n_isinstance bt_isinstance (da_cons (dv 0) (da_cons (de_ty (by rfl) T.n_bool bt_bool) da_nil)))) (de_one (de_chain opd_le opd_le de_int (dv 0) (dv 1)))))))
theorem ok__law_is_word (T : Tx K mg) (S : Sps)  (hl : ∀ ds G Q E, S.f__law_is_word ds G Q E → ds.length = 1)
    (h : ∀ ds G Q E, S.f__law_is_word ds G Q E → t__law_is_word K S { nx := fun _ G' => GhV Q .non G', rt := GhV Q } (fun cls fs _ G' => E cls fs G') (dstart N__law_is_word ds) G) : Pm P w K mg base 2 (He.fAd K ("_law_is_word", none)) ["_law_thing"] [] S.f__law_is_word := by
  obtain ⟨fd, F⟩ := T.d__law_is_word
  refine Pm.mk0 F (okF F sc__law_is_word hl fun cdv A outer s H E hr tk => ⟨t__law_is_word K S, ?_, h⟩) (fun _ _ _ _ _ _ us hl => match us, hl with | [_], _ => rfl)
  exact (dss_cons (ds_if (dt_w (dw_or (dt_not (dt_tru (de_callB cd_isi (by rfl) T.n_isinstance bt_isinstance (da_cons (dv 0) (da_cons (de_ty (by rfl) T.n_str bt_str) da_nil))))) (dw_or1 (dt_not (dt_chain opd_le opd_le de_int (de_callB cd_len (by rfl) T.n_len bt_len (da_cons (dv 0) da_nil)) de_int))))) (dss_one (ds_ret de_bl)) dss_nil)
    (dss_one (ds_ret (de_cmp (opd_eqE (hr.mono (by decide))) (de_lc (own := [("_law_sign", 1)]) (c := (.one 1)) rfl sc__law_is_word.nd (by decide) (di_iter (dv 0)) (blkOk_by (own := [("_law_sign", 1)]) (N := N__law_is_word) (sc := defScope s__law_is_word) (by decide +kernel)) (fun _ _ _ _ _ => (pg_name (i := 1) sc__law_is_word.nd rfl (by first | exact Or.inl rfl | exact Or.inr rfl))) (fun _ _ _ _ _ => (dts_one (dt_cmp (opd_notIn hr.u65) (dv 1) de_str))) (fun _ _ _ _ _ => (dv 1))) (de_lst da_nil)))))
theorem ok__law_are_right (T : Tx K mg) (S : Sps) (p__law_is_size : Pm P w K mg base 2 (He.fAd K ("_law_is_size", none)) ["_law_thing", "_law_most"] [] S.f__law_is_size) (p__law_is_word : Pm P w K mg base 2 (He.fAd K ("_law_is_word", none)) ["_law_thing"] [] S.f__law_is_word) (hl : ∀ ds G Q E, S.f__law_are_right ds G Q E → ds.length = 1)
    (h : ∀ ds G Q E, S.f__law_are_right ds G Q E → t__law_are_right K S { nx := fun _ G' => GhV Q .non G', rt := GhV Q } (fun cls fs _ G' => E cls fs G') (dstart N__law_are_right ds) G) : Pm P w K mg base 3 (He.fAd K ("_law_are_right", none)) ["_law_things_here"] [] S.f__law_are_right := by
  obtain ⟨fd, F⟩ := T.d__law_are_right
  refine Pm.mk0 F (okF F sc__law_are_right hl fun cdv A outer s H E hr tk => ⟨t__law_are_right K S, ?_, h⟩) (fun _ _ _ _ _ _ us hl => match us, hl with | [_], _ => rfl)
  exact (dss_cons (ds_asg (dv 0) (dg_tup rfl (dgs_cons (dg_name (i := 1) sc__law_are_right.nd rfl (by first | exact Or.inl rfl | exact Or.inr rfl)) (dgs_cons (dg_name (i := 2) sc__law_are_right.nd rfl (by first | exact Or.inl rfl | exact Or.inr rfl)) (dgs_cons (dg_name (i := 3) sc__law_are_right.nd rfl (by first | exact Or.inl rfl | exact Or.inr rfl)) (dgs_cons (dg_name (i := 4) sc__law_are_right.nd rfl (by first | exact Or.inl rfl | exact Or.inr rfl)) (dgs_cons (dg_name (i := 5) sc__law_are_right.nd rfl (by first | exact Or.inl rfl | exact Or.inr rfl)) (dgs_cons (dg_name (i := 6) sc__law_are_right.nd rfl (by first | exact Or.inl rfl | exact Or.inr rfl)) dgs_nil))))))))
    (dss_cons (ds_if (dt_not (dt_tru (de_callP p__law_is_size 0 (hr.mono (by decide)) (by rfl) T.m__law_is_size tk (da_cons (dv 1) (da_cons de_int da_nil))))) (dss_one (ds_ret de_bl)) dss_nil)
    (dss_cons (ds_if (dt_w (dw_or (dt_not (dt_tru (de_callP p__law_is_size 0 (hr.mono (by decide)) (by rfl) T.m__law_is_size tk (da_cons (dv 2) (da_cons de_int da_nil))))) (dw_or1 (dt_not (dt_tru (de_callP p__law_is_size 0 (hr.mono (by decide)) (by rfl) T.m__law_is_size tk (da_cons (dv 3) (da_cons de_int da_nil)))))))) (dss_one (ds_ret de_bl)) dss_nil)
    (dss_one (ds_ret (de_andT (de_callP p__law_is_word 0 (hr.mono (by decide)) (by rfl) T.m__law_is_word tk (da_cons (dv 4) da_nil)) (de_andT (de_callP p__law_is_word 0 (hr.mono (by decide)) (by rfl) T.m__law_is_word tk (da_cons (dv 5) da_nil)) (de_one (de_callB cd_isi (by rfl) T.n_isinstance bt_isinstance (da_cons (dv 6) (da_cons (de_ty (by rfl) T.n_bool bt_bool) da_nil)))))))))))
theorem ok__law_fields (T : Tx K mg) (S : Sps)  (hl : ∀ ds G Q E, S.f__law_fields ds G Q E → ds.length = 1)
    (h : ∀ ds G Q E, S.f__law_fields ds G Q E → t__law_fields K S { nx := fun _ G' => GhV Q .non G', rt := GhV Q } (fun cls fs _ G' => E cls fs G') (dstart N__law_fields ds) G) : Pm P w K mg base 2 (He.fAd K ("_law_fields", none)) ["_law_bead"] [] S.f__law_fields := by
  obtain ⟨fd, F⟩ := T.d__law_fields
  refine Pm.mk0 F (okF F sc__law_fields hl fun cdv A outer s H E hr tk => ⟨t__law_fields K S, ?_, h⟩) (fun _ _ _ _ _ _ us hl => match us, hl with | [_], _ => rfl)
  exact (dss_one (ds_ret (de_lst (da_cons (de_fldC T.cl_Bead T.na_Bead_number (dv 0)) (da_cons (de_fldC T.cl_Bead T.na_Bead_across (dv 0)) (da_cons (de_fldC T.cl_Bead T.na_Bead_weight (dv 0)) (da_cons (de_fldC T.cl_Bead T.na_Bead_shade (dv 0)) (da_cons (de_fldC T.cl_Bead T.na_Bead_form (dv 0)) (da_cons (de_fldC T.cl_Bead T.na_Bead_drilled (dv 0)) da_nil)))))))))
theorem ok__law_made (T : Tx K mg) (S : Sps) (p_Bead___init__ : Pm P w K mg base 4 (He.fAd K ("Bead", some "__init__")) ["self", "number", "across", "weight", "shade", "form", "drilled"] [(.str "round"), (.bl false)] S.f_Bead___init__) (pN_Bead___init___0 : PmN P w K mg base 4 (He.fAd K ("Bead", some "__init__")) ["self", "number", "across", "weight", "shade", "form", "drilled"] 1 ["drilled", "form", "shade", "weight", "across", "number"] [0, 6, 5, 4, 3, 2, 1] [(.str "round"), (.bl false)] S.f_Bead___init__) (pN_Bead___init___1 : PmN P w K mg base 4 (He.fAd K ("Bead", some "__init__")) ["self", "number", "across", "weight", "shade", "form", "drilled"] 3 ["shade", "drilled", "weight", "form"] [0, 1, 2, 5, 3, 6, 4] [(.str "round"), (.bl false)] S.f_Bead___init__) (hl : ∀ ds G Q E, S.f__law_made ds G Q E → ds.length = 2)
    (h : ∀ ds G Q E, S.f__law_made ds G Q E → t__law_made K S { nx := fun _ G' => GhV Q .non G', rt := GhV Q } (fun cls fs _ G' => E cls fs G') (dstart N__law_made ds) G) : Pm P w K mg base 6 (He.fAd K ("_law_made", none)) ["_law_things_here", "_law_way"] [] S.f__law_made := by
  obtain ⟨fd, F⟩ := T.d__law_made
  refine Pm.mk0 F (okF F sc__law_made hl fun cdv A outer s H E hr tk => ⟨t__law_made K S, ?_, h⟩) (fun _ _ _ _ _ _ us hl => match us, hl with | [_, _], _ => rfl)
  exact (dss_cons (ds_asg (dv 0) (dg_tup rfl (dgs_cons (dg_name (i := 2) sc__law_made.nd rfl (by first | exact Or.inl rfl | exact Or.inr rfl)) (dgs_cons (dg_name (i := 3) sc__law_made.nd rfl (by first | exact Or.inl rfl | exact Or.inr rfl)) (dgs_cons (dg_name (i := 4) sc__law_made.nd rfl (by first | exact Or.inl rfl | exact Or.inr rfl)) (dgs_cons (dg_name (i := 5) sc__law_made.nd rfl (by first | exact Or.inl rfl | exact Or.inr rfl)) (dgs_cons (dg_name (i := 6) sc__law_made.nd rfl (by first | exact Or.inl rfl | exact Or.inr rfl)) (dgs_cons (dg_name (i := 7) sc__law_made.nd rfl (by first | exact Or.inl rfl | exact Or.inr rfl)) dgs_nil))))))))
    (dss_cons (ds_if (dt_cmp (opd_eq hr.units) (dv 1) de_int) (dss_one (ds_ret (de_makePF T.mk_Bead p_Bead___init__ (hr.mono (by decide)) (by rfl) T.m_Bead tk (da_cons (dv 2) (da_cons (dv 3) (da_cons (dv 4) (da_cons (dv 5) (da_cons (dv 6) (da_cons (dv 7) da_nil))))))))) dss_nil)
    (dss_cons (ds_if (dt_cmp (opd_eq hr.units) (dv 1) de_int) (dss_one (ds_ret (de_makeN0 (ks := ["drilled", "form", "shade", "weight", "across", "number"]) (hall := by kernel_rfl) (hks := by kernel_rfl) (hpl := by kernel_rfl) T.mk_Bead pN_Bead___init___0 (hr.mono (by decide)) (by rfl) T.m_Bead tk (dk_cons (dv 7) (dk_cons (dv 6) (dk_cons (dv 5) (dk_cons (dv 4) (dk_cons (dv 3) (dk_cons (dv 2) dk_nil))))))))) dss_nil)
    (dss_one (ds_ret (de_makeN (n := 2) (ks := ["shade", "drilled", "weight", "form"]) (hall := by kernel_rfl) (hks := by kernel_rfl) (hpl := by kernel_rfl) T.mk_Bead pN_Bead___init___1 (hr.mono (by decide)) (by rfl) T.m_Bead tk (da_cons (dv 2) (da_cons (dv 3) da_nil)) (dk_cons (dv 5) (dk_cons (dv 7) (dk_cons (dv 4) (dk_cons (dv 6) dk_nil))))))))))
theorem ok__law_told (T : Tx K mg) (S : Sps) (p__law_fields : Pm P w K mg base 2 (He.fAd K ("_law_fields", none)) ["_law_bead"] [] S.f__law_fields) (p__law_made : Pm P w K mg base 6 (He.fAd K ("_law_made", none)) ["_law_things_here", "_law_way"] [] S.f__law_made) (hl : ∀ ds G Q E, S.f__law_told ds G Q E → ds.length = 2)
    (h : ∀ ds G Q E, S.f__law_told ds G Q E → t__law_told K S { nx := fun _ G' => GhV Q .non G', rt := GhV Q } (fun cls fs _ G' => E cls fs G') (dstart N__law_told ds) G) : Pm P w K mg base 7 (He.fAd K ("_law_told", none)) ["_law_things_here", "_law_way"] [] S.f__law_told := by
  obtain ⟨fd, F⟩ := T.d__law_told
  refine Pm.mk0 F (okF F sc__law_told hl fun cdv A outer s H E hr tk => ⟨t__law_told K S, ?_, h⟩) (fun _ _ _ _ _ _ us hl => match us, hl with | [_, _], _ => rfl)
  exact (dss_cons (ds_tryAs (i := 2) rfl rfl sc__law_told.nd rfl rfl ⟨by rfl, by decide, Or.inl T.m_PearlError⟩ tk (fun W1 pn xe tk po => (dss_one (ds_ret (de_callP p__law_fields 0 (hr.mono (by decide)) (by rfl) T.m__law_fields tk (da_cons (de_callP p__law_made 0 (hr.mono (by decide)) (by rfl) T.m__law_made tk (da_cons (dv 0) (da_cons (dv 1) da_nil))) da_nil))))) (fun a oe cls d pn hz hf => (dss_cons (ds_set (i := 3) sc__law_told.nd rfl (by first | exact Or.inl rfl | exact Or.inr rfl) (de_isXT T.xc hz hf (by rfl) T.n_isinstance (dv 2) (da_cons (de_ref (by rfl) T.m_BadDeed) (da_cons (de_ref (by rfl) T.m_BadLot) (da_cons (de_ref (by rfl) T.m_BadRule) (da_cons (de_ref (by rfl) T.m_BadText) (da_cons (de_ref (by rfl) T.m_NoRow) (da_cons (de_ref (by rfl) T.m_NoShare) (da_cons (de_ref (by rfl) T.m_NoSuch) da_nil)))))))))
    (dss_one (ds_if (dt_w (dw_and (dt_tru (de_callB (cd_isX T.xc hz hf) (by rfl) T.n_isinstance bt_isinstance (da_cons (dv 2) (da_cons (de_ref (by rfl) T.m_BadBead) da_nil)))) (dw_and (dt_tru (de_callB (cd_isX T.xc hz hf) (by rfl) T.n_isinstance bt_isinstance (da_cons (dv 2) (da_cons (de_ty (by rfl) T.n_ValueError bt_ValueError) da_nil)))) (dw_and1 (dt_not (dt_tru (dv 3))))))) (dss_one (ds_ret de_non)) dss_nil)))))
    (dss_one (ds_ret de_str)))
theorem ok__law_right (T : Tx K mg) (S : Sps) (p__law_are_right : Pm P w K mg base 3 (He.fAd K ("_law_are_right", none)) ["_law_things_here"] [] S.f__law_are_right) (p__law_told : Pm P w K mg base 7 (He.fAd K ("_law_told", none)) ["_law_things_here", "_law_way"] [] S.f__law_told) (hl : ∀ ds G Q E, S.f__law_right ds G Q E → ds.length = 1)
    (h : ∀ ds G Q E, S.f__law_right ds G Q E → t__law_right K S { nx := fun _ G' => GhV Q .non G', rt := GhV Q } (fun cls fs _ G' => E cls fs G') (dstart N__law_right ds) G) : Pm P w K mg base 8 (He.fAd K ("_law_right", none)) ["_law_things_here"] [] S.f__law_right := by
  obtain ⟨fd, F⟩ := T.d__law_right
  refine Pm.mk0 F (okF F sc__law_right hl fun cdv A outer s H E hr tk => ⟨t__law_right K S, ?_, h⟩) (fun _ _ _ _ _ _ us hl => match us, hl with | [_], _ => rfl)
  exact (dss_cons (ds_set (i := 1) sc__law_right.nd rfl (by first | exact Or.inl rfl | exact Or.inr rfl) de_non)
    (dss_cons (ds_if (dt_tru (de_callP p__law_are_right 0 (hr.mono (by decide)) (by rfl) T.m__law_are_right tk (da_cons (dv 0) da_nil))) (dss_one (ds_set (i := 1) sc__law_right.nd rfl (by first | exact Or.inl rfl | exact Or.inr rfl) (de_callTy cd_list (by rfl) T.n_list bt_list (da_cons (dv 0) da_nil)))) dss_nil)
    (dss_cons (ds_for (passes_of rfl) rfl (di_range1 (by rfl) T.n_range (da_cons de_int da_nil)) (dg_name (i := 2) sc__law_right.nd rfl (by first | exact Or.inl rfl | exact Or.inr rfl)) (dss_cons (ds_set (i := 3) sc__law_right.nd rfl (by first | exact Or.inl rfl | exact Or.inr rfl) (de_callP p__law_told 0 (hr.mono (by decide)) (by rfl) T.m__law_told tk (da_cons (dv 0) (da_cons (dv 2) da_nil))))
    (dss_one (ds_if (dt_w (dw_or (dt_cmp (opd_ne hr.units) (dv 3) (dv 1)) (dw_or1 (dt_w (dw_and (dt_cmp opd_isNot (dv 1) de_non) (dw_and1 (dt_cmp opd_isNot (de_callB cd_isi (by rfl) T.n_isinstance bt_isinstance (da_cons (de_ix (dv 3) de_int) (da_cons (de_ty (by rfl) T.n_bool bt_bool) da_nil))) de_bl))))))) (dss_one (ds_ret de_bl)) dss_nil))))
    (dss_one (ds_ret de_bl)))))
theorem ok__law_left_out (T : Tx K mg) (S : Sps) (p_Bead___init__ : Pm P w K mg base 4 (He.fAd K ("Bead", some "__init__")) ["self", "number", "across", "weight", "shade", "form", "drilled"] [(.str "round"), (.bl false)] S.f_Bead___init__) (p__law_fields : Pm P w K mg base 2 (He.fAd K ("_law_fields", none)) ["_law_bead"] [] S.f__law_fields) (pN_Bead___init___2 : PmN P w K mg base 4 (He.fAd K ("Bead", some "__init__")) ["self", "number", "across", "weight", "shade", "form", "drilled"] 5 ["drilled"] [0, 1, 2, 3, 4, 6, 5] [(.str "round"), (.bl false)] S.f_Bead___init__) (hl : ∀ ds G Q E, S.f__law_left_out ds G Q E → ds.length = 1)
    (h : ∀ ds G Q E, S.f__law_left_out ds G Q E → t__law_left_out K S { nx := fun _ G' => GhV Q .non G', rt := GhV Q } (fun cls fs _ G' => E cls fs G') (dstart N__law_left_out ds) G) : Pm P w K mg base 6 (He.fAd K ("_law_left_out", none)) ["_law_things_here"] [] S.f__law_left_out := by
  obtain ⟨fd, F⟩ := T.d__law_left_out
  refine Pm.mk0 F (okF F sc__law_left_out hl fun cdv A outer s H E hr tk => ⟨t__law_left_out K S, ?_, h⟩) (fun _ _ _ _ _ _ us hl => match us, hl with | [_], _ => rfl)
  exact (dss_cons (ds_asg (dv 0) (dg_tup rfl (dgs_cons (dg_name (i := 1) sc__law_left_out.nd rfl (by first | exact Or.inl rfl | exact Or.inr rfl)) (dgs_cons (dg_name (i := 2) sc__law_left_out.nd rfl (by first | exact Or.inl rfl | exact Or.inr rfl)) (dgs_cons (dg_name (i := 3) sc__law_left_out.nd rfl (by first | exact Or.inl rfl | exact Or.inr rfl)) (dgs_cons (dg_name (i := 4) sc__law_left_out.nd rfl (by first | exact Or.inl rfl | exact Or.inr rfl)) (dgs_cons (dg_name (i := 5) sc__law_left_out.nd rfl (by first | exact Or.inl rfl | exact Or.inr rfl)) (dgs_cons (dg_name (i := 6) sc__law_left_out.nd rfl (by first | exact Or.inl rfl | exact Or.inr rfl)) dgs_nil))))))))
    (dss_cons (ds_set (i := 7) sc__law_left_out.nd rfl (by first | exact Or.inl rfl | exact Or.inr rfl) (de_callTy cd_list (by rfl) T.n_list bt_list (da_cons (de_slice (dv 0) do_none (do_some de_int)) da_nil)))
    (dss_cons (ds_if (dt_cmp (opd_ne hr.units) (de_callP p__law_fields 0 (hr.mono (by decide)) (by rfl) T.m__law_fields tk (da_cons (de_makeP T.mk_Bead p_Bead___init__ 0 (hr.mono (by decide)) (by rfl) T.m_Bead tk (da_cons (dv 1) (da_cons (dv 2) (da_cons (dv 3) (da_cons (dv 4) da_nil))))) da_nil)) (de_op opd_add (dv 7) (de_lst (da_cons de_str (da_cons de_bl da_nil))))) (dss_one (ds_ret de_bl)) dss_nil)
    (dss_cons (ds_set (i := 8) sc__law_left_out.nd rfl (by first | exact Or.inl rfl | exact Or.inr rfl) (de_makeN (n := 4) (ks := ["drilled"]) (hall := by kernel_rfl) (hks := by kernel_rfl) (hpl := by kernel_rfl) T.mk_Bead pN_Bead___init___2 (hr.mono (by decide)) (by rfl) T.m_Bead tk (da_cons (dv 1) (da_cons (dv 2) (da_cons (dv 3) (da_cons (dv 4) da_nil)))) (dk_cons (dv 6) dk_nil)))
    (dss_cons (ds_if (dt_cmp (opd_ne hr.units) (de_callP p__law_fields 0 (hr.mono (by decide)) (by rfl) T.m__law_fields tk (da_cons (dv 8) da_nil)) (de_op opd_add (dv 7) (de_lst (da_cons de_str (da_cons (dv 6) da_nil))))) (dss_one (ds_ret de_bl)) dss_nil)
    (dss_one (ds_ret (de_cmp (opd_eq hr.units) (de_callP p__law_fields 0 (hr.mono (by decide)) (by rfl) T.m__law_fields tk (da_cons (de_makeP T.mk_Bead p_Bead___init__ 1 (hr.mono (by decide)) (by rfl) T.m_Bead tk (da_cons (dv 1) (da_cons (dv 2) (da_cons (dv 3) (da_cons (dv 4) (da_cons (dv 5) da_nil)))))) da_nil)) (de_op opd_add (dv 7) (de_lst (da_cons (dv 5) (da_cons de_bl da_nil))))))))))))
theorem ok_law (T : Tx K mg) (S : Sps) {f : Addr} {fd : FuncData} (F : FunD K "law" "law" (defArgs s_law) (defBody s_law) (defScope s_law) [] [] f fd) (p__law_cell_at : Pm P w K mg base 2 (He.fAd K ("_law_cell_at", none)) ["_law_script", "_law_k"] [] S.f__law_cell_at) (p__law_draws : Pm P w K mg base 2 (He.fAd K ("_law_draws", none)) ["_law_cell"] [] S.f__law_draws) (p__law_left_out : Pm P w K mg base 6 (He.fAd K ("_law_left_out", none)) ["_law_things_here"] [] S.f__law_left_out) (p__law_odd : Pm P w K mg base 4 (He.fAd K ("_law_odd", none)) ["_law_draws_here", "_law_thing"] [] S.f__law_odd) (p__law_one : Pm P w K mg base 2 (He.fAd K ("_law_one", none)) ["_law_draws_here", "_law_many"] [] S.f__law_one) (p__law_right : Pm P w K mg base 8 (He.fAd K ("_law_right", none)) ["_law_things_here"] [] S.f__law_right) (p__law_things : Pm P w K mg base 5 (He.fAd K ("_law_things", none)) ["_law_draws_here"] [] S.f__law_things) (hl : ∀ ds G Q E, S.f_law ds G Q E → ds.length = 1)
    (h : ∀ ds G Q E, S.f_law ds G Q E → t_law K S { nx := fun _ G' => GhV Q .non G', rt := GhV Q } (fun cls fs _ G' => E cls fs G') (dstart N_law ds) G) : FnD P w K mg base 9 f fd ["_law_script"] S.f_law := by
  refine okF F sc_law hl fun cdv A outer s H E hr tk => ⟨t_law K S, ?_, h⟩
  exact (dss_cons (ds_for (passes_of rfl) rfl (di_iter (de_op opd_add (de_lst (da_cons (de_callP p__law_cell_at 0 (hr.mono (by decide)) (by rfl) T.m__law_cell_at tk (da_cons (dv 0) (da_cons de_int da_nil))) da_nil)) (de_slice (dv 0) (do_some de_int) (do_some de_int)))) (dg_name (i := 1) sc_law.nd rfl (by first | exact Or.inl rfl | exact Or.inr rfl)) (dss_cons (ds_set (i := 2) sc_law.nd rfl (by first | exact Or.inl rfl | exact Or.inr rfl) (de_callP p__law_draws 0 (hr.mono (by decide)) (by rfl) T.m__law_draws tk (da_cons (dv 1) da_nil)))
    (dss_cons (ds_set (i := 3) sc_law.nd rfl (by first | exact Or.inl rfl | exact Or.inr rfl) (de_callP p__law_things 0 (hr.mono (by decide)) (by rfl) T.m__law_things tk (da_cons (dv 2) da_nil)))
    (dss_cons (ds_if (dt_w (dw_or (dt_not (dt_tru (de_callP p__law_right 0 (hr.mono (by decide)) (by rfl) T.m__law_right tk (da_cons (dv 3) da_nil)))) (dw_or1 (dt_not (dt_tru (de_callP p__law_left_out 0 (hr.mono (by decide)) (by rfl) T.m__law_left_out tk (da_cons (dv 3) da_nil))))))) (dss_one (ds_ret de_bl)) dss_nil)
    (dss_one (ds_for (passes_of rfl) rfl (di_range1 (by rfl) T.n_range (da_cons de_int da_nil)) (dg_name (i := 4) sc_law.nd rfl (by first | exact Or.inl rfl | exact Or.inr rfl)) (dss_cons (ds_set (i := 5) sc_law.nd rfl (by first | exact Or.inl rfl | exact Or.inr rfl) (de_callTy cd_listM (by rfl) T.n_list bt_list (da_cons (dv 3) da_nil)))
    (dss_cons (ds_for (passes_of rfl) rfl (di_range1 (by rfl) T.n_range (da_cons (de_op opd_add de_int (de_callP p__law_one 0 (hr.mono (by decide)) (by rfl) T.m__law_one tk (da_cons (dv 2) (da_cons de_int da_nil)))) da_nil)) (dg_name (i := 6) sc_law.nd rfl (by first | exact Or.inl rfl | exact Or.inr rfl)) (dss_cons (ds_set (i := 7) sc_law.nd rfl (by first | exact Or.inl rfl | exact Or.inr rfl) (de_callP p__law_one 0 (hr.mono (by decide)) (by rfl) T.m__law_one tk (da_cons (dv 2) (da_cons de_int da_nil))))
    (dss_one (ds_asg (de_callP p__law_odd 0 (hr.mono (by decide)) (by rfl) T.m__law_odd tk (da_cons (dv 2) (da_cons (de_ix (dv 5) (dv 7)) da_nil))) (dg_sub (dv 5) (dv 7))))))
    (dss_one (ds_if (dt_not (dt_tru (de_callP p__law_right 0 (hr.mono (by decide)) (by rfl) T.m__law_right tk (da_cons (de_callTy cd_tuple (by rfl) T.n_tuple bt_tuple (da_cons (dv 5) da_nil)) da_nil)))) (dss_one (ds_ret de_bl)) dss_nil))))))))))
    (dss_one (ds_ret de_bl)))
end
def dd_is_whole : He.DefD := ⟨("is_whole", none), "is_whole", "is_whole", defArgs s_is_whole, defBody s_is_whole, defScope s_is_whole, [], []⟩
def dd_is_name : He.DefD := ⟨("is_name", none), "is_name", "is_name", defArgs s_is_name, defBody s_is_name, defScope s_is_name, [], []⟩
def dd_is_number : He.DefD := ⟨("is_number", none), "is_number", "is_number", defArgs s_is_number, defBody s_is_number, defScope s_is_number, [], []⟩
def dd_Bead___init__ : He.DefD := ⟨("Bead", some "__init__"), "__init__", "Bead.__init__", defArgs s_Bead___init__, defBody s_Bead___init__, defScope s_Bead___init__, [(.str "round"), (.bl false)], []⟩
def dd__law_cell_at : He.DefD := ⟨("_law_cell_at", none), "_law_cell_at", "_law_cell_at", defArgs s__law_cell_at, defBody s__law_cell_at, defScope s__law_cell_at, [], []⟩
def dd__law_draws : He.DefD := ⟨("_law_draws", none), "_law_draws", "_law_draws", defArgs s__law_draws, defBody s__law_draws, defScope s__law_draws, [], []⟩
def dd__law_one : He.DefD := ⟨("_law_one", none), "_law_one", "_law_one", defArgs s__law_one, defBody s__law_one, defScope s__law_one, [], []⟩
def dd__law_of : He.DefD := ⟨("_law_of", none), "_law_of", "_law_of", defArgs s__law_of, defBody s__law_of, defScope s__law_of, [], []⟩
def dd__law_word : He.DefD := ⟨("_law_word", none), "_law_word", "_law_word", defArgs s__law_word, defBody s__law_word, defScope s__law_word, [], []⟩
def dd__law_size : He.DefD := ⟨("_law_size", none), "_law_size", "_law_size", defArgs s__law_size, defBody s__law_size, defScope s__law_size, [], []⟩
def dd__law_things : He.DefD := ⟨("_law_things", none), "_law_things", "_law_things", defArgs s__law_things, defBody s__law_things, defScope s__law_things, [], []⟩
def dd__law_odd : He.DefD := ⟨("_law_odd", none), "_law_odd", "_law_odd", defArgs s__law_odd, defBody s__law_odd, defScope s__law_odd, [], []⟩
def dd__law_is_size : He.DefD := ⟨("_law_is_size", none), "_law_is_size", "_law_is_size", defArgs s__law_is_size, defBody s__law_is_size, defScope s__law_is_size, [], []⟩
def dd__law_is_word : He.DefD := ⟨("_law_is_word", none), "_law_is_word", "_law_is_word", defArgs s__law_is_word, defBody s__law_is_word, defScope s__law_is_word, [], []⟩
def dd__law_are_right : He.DefD := ⟨("_law_are_right", none), "_law_are_right", "_law_are_right", defArgs s__law_are_right, defBody s__law_are_right, defScope s__law_are_right, [], []⟩
def dd__law_fields : He.DefD := ⟨("_law_fields", none), "_law_fields", "_law_fields", defArgs s__law_fields, defBody s__law_fields, defScope s__law_fields, [], []⟩
def dd__law_made : He.DefD := ⟨("_law_made", none), "_law_made", "_law_made", defArgs s__law_made, defBody s__law_made, defScope s__law_made, [], []⟩
def dd__law_told : He.DefD := ⟨("_law_told", none), "_law_told", "_law_told", defArgs s__law_told, defBody s__law_told, defScope s__law_told, [], []⟩
def dd__law_right : He.DefD := ⟨("_law_right", none), "_law_right", "_law_right", defArgs s__law_right, defBody s__law_right, defScope s__law_right, [], []⟩
def dd__law_left_out : He.DefD := ⟨("_law_left_out", none), "_law_left_out", "_law_left_out", defArgs s__law_left_out, defBody s__law_left_out, defScope s__law_left_out, [], []⟩
def dd_law : He.DefD := ⟨("law", none), "law", "law", defArgs s_law, defBody s_law, defScope s_law, [], []⟩
def dd_PearlError___init__ : He.DefD := ⟨("PearlError", some "__init__"), "__init__", "PearlError.__init__", defArgs s_PearlError___init__, defBody s_PearlError___init__, defScope s_PearlError___init__, [(.str "refused")], []⟩
def fn : List He.DefD := [dd_is_whole, dd_is_name, dd_is_number, dd_Bead___init__, dd__law_cell_at, dd__law_draws, dd__law_one, dd__law_of, dd__law_word, dd__law_size, dd__law_things, dd__law_odd, dd__law_is_size, dd__law_is_word, dd__law_are_right, dd__law_fields, dd__law_made, dd__law_told, dd__law_right, dd__law_left_out, dd_law, dd_PearlError___init__]
def fa : List He.Fa := [.glo "law", .glo "_law_cell_at", .glo "_law_draws", .glo "_law_things", .glo "_law_left_out", .glo "_law_right", .free "range", .free "list", .glo "_law_one", .glo "_law_odd", .free "tuple", .glo "_law_of", .glo "_law_word", .glo "_law_size", .free "len", .glo "_law_are_right", .glo "_law_told", .free "bool", .free "isinstance", .glo "PearlError", .glo "_law_fields", .glo "_law_made", .glo "NoSuch", .glo "NoShare", .glo "NoRow", .glo "BadText", .glo "BadRule", .glo "BadLot", .glo "BadDeed", .free "ValueError", .glo "BadBead", .glo "Bead", .glo "is_number", .glo "is_whole", .glo "is_name", .free "int", .free "str", .free "all", .glo "_law_is_size", .glo "_law_is_word", .int "MOST_SIZE" 1000000, .int "MOST_NUMBER" 1000000000, .int "MOST_LETTERS" 8, .str "LETTERS" "abcdefghijklmnopqrstuvwxyz", .mkr "Bead", .cls "Bead", .noat "Bead" "number", .noat "Bead" "across", .noat "Bead" "weight", .noat "Bead" "shade", .noat "Bead" "form", .noat "Bead" "drilled"]
def exs (K : PySem.W.Frag) : List Bool := [whyB K (He.ga K "BadBead") (He.fAd K ("PearlError", some "__init__")), viniB K, (xCs K).all (fun C => excB K C), xkB K]
theorem tx_of {K : PySem.W.Frag} {h : Heap} {mg : Str → Option Value} (X : K.In h) (G : h.Ns mainGlobals mg) (c : He.SaysD fa fn K) (ce : (exs K).all id = true) : Tx K mg where
  d_is_whole := c.def_ 0 (d := dd_is_whole) rfl
  d_is_name := c.def_ 1 (d := dd_is_name) rfl
  d_is_number := c.def_ 2 (d := dd_is_number) rfl
  d_Bead___init__ := c.def_ 3 (d := dd_Bead___init__) rfl
  d__law_cell_at := c.def_ 4 (d := dd__law_cell_at) rfl
  d__law_draws := c.def_ 5 (d := dd__law_draws) rfl
  d__law_one := c.def_ 6 (d := dd__law_one) rfl
  d__law_of := c.def_ 7 (d := dd__law_of) rfl
  d__law_word := c.def_ 8 (d := dd__law_word) rfl
  d__law_size := c.def_ 9 (d := dd__law_size) rfl
  d__law_things := c.def_ 10 (d := dd__law_things) rfl
  d__law_odd := c.def_ 11 (d := dd__law_odd) rfl
  d__law_is_size := c.def_ 12 (d := dd__law_is_size) rfl
  d__law_is_word := c.def_ 13 (d := dd__law_is_word) rfl
  d__law_are_right := c.def_ 14 (d := dd__law_are_right) rfl
  d__law_fields := c.def_ 15 (d := dd__law_fields) rfl
  d__law_made := c.def_ 16 (d := dd__law_made) rfl
  d__law_told := c.def_ 17 (d := dd__law_told) rfl
  d__law_right := c.def_ 18 (d := dd__law_right) rfl
  d__law_left_out := c.def_ 19 (d := dd__law_left_out) rfl
  d_law := c.def_ 20 (d := dd_law) rfl
  d_PearlError___init__ := c.def_ 21 (d := dd_PearlError___init__) rfl
  m_law := He.glo_ok X G (c.fact 0 (f := .glo "law") rfl)
  m__law_cell_at := He.glo_ok X G (c.fact 1 (f := .glo "_law_cell_at") rfl)
  m__law_draws := He.glo_ok X G (c.fact 2 (f := .glo "_law_draws") rfl)
  m__law_things := He.glo_ok X G (c.fact 3 (f := .glo "_law_things") rfl)
  m__law_left_out := He.glo_ok X G (c.fact 4 (f := .glo "_law_left_out") rfl)
  m__law_right := He.glo_ok X G (c.fact 5 (f := .glo "_law_right") rfl)
  n_range := He.free_ok X G (c.fact 6 (f := .free "range") rfl)
  n_list := He.free_ok X G (c.fact 7 (f := .free "list") rfl)
  m__law_one := He.glo_ok X G (c.fact 8 (f := .glo "_law_one") rfl)
  m__law_odd := He.glo_ok X G (c.fact 9 (f := .glo "_law_odd") rfl)
  n_tuple := He.free_ok X G (c.fact 10 (f := .free "tuple") rfl)
  m__law_of := He.glo_ok X G (c.fact 11 (f := .glo "_law_of") rfl)
  m__law_word := He.glo_ok X G (c.fact 12 (f := .glo "_law_word") rfl)
  m__law_size := He.glo_ok X G (c.fact 13 (f := .glo "_law_size") rfl)
  n_len := He.free_ok X G (c.fact 14 (f := .free "len") rfl)
  m__law_are_right := He.glo_ok X G (c.fact 15 (f := .glo "_law_are_right") rfl)
  m__law_told := He.glo_ok X G (c.fact 16 (f := .glo "_law_told") rfl)
  n_bool := He.free_ok X G (c.fact 17 (f := .free "bool") rfl)
  n_isinstance := He.free_ok X G (c.fact 18 (f := .free "isinstance") rfl)
  m_PearlError := He.glo_ok X G (c.fact 19 (f := .glo "PearlError") rfl)
  m__law_fields := He.glo_ok X G (c.fact 20 (f := .glo "_law_fields") rfl)
  m__law_made := He.glo_ok X G (c.fact 21 (f := .glo "_law_made") rfl)
  m_NoSuch := He.glo_ok X G (c.fact 22 (f := .glo "NoSuch") rfl)
  m_NoShare := He.glo_ok X G (c.fact 23 (f := .glo "NoShare") rfl)
  m_NoRow := He.glo_ok X G (c.fact 24 (f := .glo "NoRow") rfl)
  m_BadText := He.glo_ok X G (c.fact 25 (f := .glo "BadText") rfl)
  m_BadRule := He.glo_ok X G (c.fact 26 (f := .glo "BadRule") rfl)
  m_BadLot := He.glo_ok X G (c.fact 27 (f := .glo "BadLot") rfl)
  m_BadDeed := He.glo_ok X G (c.fact 28 (f := .glo "BadDeed") rfl)
  n_ValueError := He.free_ok X G (c.fact 29 (f := .free "ValueError") rfl)
  m_BadBead := He.glo_ok X G (c.fact 30 (f := .glo "BadBead") rfl)
  m_Bead := He.glo_ok X G (c.fact 31 (f := .glo "Bead") rfl)
  m_is_number := He.glo_ok X G (c.fact 32 (f := .glo "is_number") rfl)
  m_is_whole := He.glo_ok X G (c.fact 33 (f := .glo "is_whole") rfl)
  m_is_name := He.glo_ok X G (c.fact 34 (f := .glo "is_name") rfl)
  n_int := He.free_ok X G (c.fact 35 (f := .free "int") rfl)
  n_str := He.free_ok X G (c.fact 36 (f := .free "str") rfl)
  n_all := He.free_ok X G (c.fact 37 (f := .free "all") rfl)
  m__law_is_size := He.glo_ok X G (c.fact 38 (f := .glo "_law_is_size") rfl)
  m__law_is_word := He.glo_ok X G (c.fact 39 (f := .glo "_law_is_word") rfl)
  c_MOST_SIZE := (He.int_ok X G (c.fact 40 (f := .int "MOST_SIZE" 1000000) rfl)).elim fun t h => ⟨_, h, t, rfl⟩
  c_MOST_NUMBER := (He.int_ok X G (c.fact 41 (f := .int "MOST_NUMBER" 1000000000) rfl)).elim fun t h => ⟨_, h, t, rfl⟩
  c_MOST_LETTERS := (He.int_ok X G (c.fact 42 (f := .int "MOST_LETTERS" 8) rfl)).elim fun t h => ⟨_, h, t, rfl⟩
  c_LETTERS := (He.str_ok X G (c.fact 43 (f := .str "LETTERS" "abcdefghijklmnopqrstuvwxyz") rfl)).elim fun t h => ⟨_, h, t, rfl⟩
  mk_Bead := He.mkr_ok (c.fact 44 (f := .mkr "Bead") rfl)
  cl_Bead := He.cls_ok (c.fact 45 (f := .cls "Bead") rfl)
  na_Bead_number := He.noat_ok (c.fact 46 (f := .noat "Bead" "number") rfl)
  na_Bead_across := He.noat_ok (c.fact 47 (f := .noat "Bead" "across") rfl)
  na_Bead_weight := He.noat_ok (c.fact 48 (f := .noat "Bead" "weight") rfl)
  na_Bead_shade := He.noat_ok (c.fact 49 (f := .noat "Bead" "shade") rfl)
  na_Bead_form := He.noat_ok (c.fact 50 (f := .noat "Bead" "form") rfl)
  na_Bead_drilled := He.noat_ok (c.fact 51 (f := .noat "Bead" "drilled") rfl)
  wc_BadBead := whyB_ok (ex_at ce 0 (b := whyB K (He.ga K "BadBead") (He.fAd K ("PearlError", some "__init__"))) rfl)
  v_ini := viniB_ok (ex_at ce 1 (b := viniB K) rfl)
  xc := fun C hC => excB_ok (List.all_eq_true.mp (ex_at ce 2 (b := (xCs K).all (fun C => excB K C)) rfl) C hC)
  xk := xkB_ok (ex_at ce 3 (b := xkB K) rfl)
end Pr
set_option Elab.async false
set_option linter.all false
set_option maxRecDepth 100000
set_option maxHeartbeats 0
namespace Pr
open PySem PyProof.Rows L2 DL DX
abbrev R : PySem.W.OpenRow := PySem.W.OpenLaw.row PySem.Challenge.rw_pearlrise_k05_beads_made
abbrev hk : PySem.W.Hook := hookS 4 fa fn exs
def ob (s : PySem.W.SharedT) : He.AlD := obsSG 4 fa fn exs (HandSHeadRun.getT s)
theorem ob_eq (s : PySem.W.SharedT) : ob s = hk.obs s.abs := obsSG_eq (HandSHeadRun.getT_eq s)
def names0 : List PySem.Str := ["_wall", "PearlError", "BadBead", "BadRule", "BadLot", "BadDeed", "NoRow", "BadText", "NoSuch", "NoShare", "LETTERS", "MOST_LETTERS", "MOST_NUMBER", "is_whole", "is_name", "is_number", "MOST_SIZE", "PLAIN_FORM", "Bead", "_law_cell_at", "_law_draws", "_law_one", "_law_of", "_law_word", "_law_size", "_law_things", "_law_odd", "_law_is_size", "_law_is_word", "_law_are_right"]
def names1 : List PySem.Str := ["_law_fields", "_law_made", "_law_told", "_law_right", "_law_left_out"]
theorem run (w : World) : HandSHeadRun.RunEq R (PySem.W.view R.prog [39]) hk ob 8000 (names0 ++ names1) w := by
  intro os
  kernel_rfl
end Pr
set_option Elab.async false
set_option linter.all false
set_option maxRecDepth 100000
set_option maxHeartbeats 4000000
namespace Pr
open PySem PyProof.Rows L2 DL DX
local macro_rules | `(tactic| walk_at "dl") => `(tactic| simp (config := {proj := false}) only [DL.n_nx, DL.n_rt, DL.n_bk, DL.n_ct, DL.eq_ii, DL.eq_ss, DL.eq_bb, DL.eq_nn, DL.eq_ni, DL.eq_in, DL.ne_ii, DL.ne_ss, DL.r_seq, DL.r_for, DL.r_if, DL.r_next, DL.r_ret, DL.r_retN, DL.r_brk, DL.r_cnt, DL.r_drop, DL.r_set, DL.r_asg, DL.r_gname, DL.r_gnil, DL.r_gcons, DL.r_gtup, DL.r_gsub, DL.r_name, DL.r_at0, DL.r_atS, DL.r_c, DL.r_op, DL.r_test, DL.r_tru, DL.r_and, DL.r_or, DL.r_not, DL.r_ife, DL.r_nil, DL.r_cons, DL.r_tup, DL.r_lst, DL.r_lstM, DL.r_cb, DL.r_call, DL.r_bm, DL.r_fld, DL.r_chain, DL.r_orT, DL.r_andT, DL.r_notT, DL.r_neg, DL.r_sl, DL.r_nop, DL.r_part, DL.r_slL, DL.r_slT, DL.r_slS, DL.r_lc, DL.r_lcM, DL.r_iter, DL.r_rng1, DL.r_rng2, DL.z_ch, DL.z_ts, DL.z_pt, DL.z_itL, DL.z_itT, DL.z_itS, DL.z_itR, DL.z_rg1, DL.z_rg2, DL.z_iT, DL.z_iF, DL.z_ft, DL.z_tf, DL.z_nt, DL.z_nf, DL.r_disp, DL.r_pnil, DL.r_pcons, DL.o_addI, DL.o_addS, DL.o_addL, DL.o_addT, DL.o_sub, DL.o_mulI, DL.o_mulS, DL.o_mulL, DL.o_div, DL.o_divZ, DL.o_mod, DL.o_modZ, DL.o_pow, DL.o_lt, DL.o_le, DL.o_gt, DL.o_ge, DL.o_isN, DL.o_isB, DL.o_isnN, DL.o_isnB, DL.o_ixL, DL.o_ixT, DL.o_ixS, DL.o_ixR, DL.c_lenL, DL.c_lenT, DL.c_lenS, DL.c_lenR, DL.c_intI, DL.c_intB, DL.c_intS, DL.c_int2, DL.c_strI, DL.c_strS, DL.c_abs, DL.c_max2, DL.c_min2, DL.q_non, DL.q_bl, DL.q_int, DL.q_str, DL.q_lst, DL.q_tup, DL.tym_s, DL.tym_l, DL.m_up, DL.m_low, DL.k_int_int, DL.k_int_bool, DL.k_int_str, DL.k_int_tuple, DL.k_int_list, DL.k_int_dict, DL.k_bl_int, DL.k_bl_bool, DL.k_bl_str, DL.k_bl_tuple, DL.k_bl_list, DL.k_bl_dict, DL.k_str_int, DL.k_str_bool, DL.k_str_str, DL.k_str_tuple, DL.k_str_list, DL.k_str_dict, DL.k_tup_int, DL.k_tup_bool, DL.k_tup_str, DL.k_tup_tuple, DL.k_tup_list, DL.k_tup_dict, DL.k_lst_int, DL.k_lst_bool, DL.k_lst_str, DL.k_lst_tuple, DL.k_lst_list, DL.k_lst_dict, DL.k_non_int, DL.k_non_bool, DL.k_non_str, DL.k_non_tuple, DL.k_non_list, DL.k_non_dict, DL.k_dic_int, DL.k_dic_bool, DL.k_dic_str, DL.k_dic_tuple, DL.k_dic_list, DL.k_dic_dict, DL.k_dit_int, DL.k_dit_bool, DL.k_dit_str, DL.k_dit_tuple, DL.k_dit_list, DL.k_dit_dict, DL.ls0, DL.lsS, DL.la0, DL.laS, DL.r_bind1, DL.r_wipe0, DL.r_wipeS, List.append_nil, true_and])
local macro_rules | `(tactic| walk_at "dw") => `(tactic| repeat (first | ((with_reducible apply DL.m_nm); (· exact rfl)) | (with_reducible refine DL.m_nx ?_) | (with_reducible refine DL.st DL.r_sortM ?_) | (with_reducible refine DL.st DL.r_sortS ?_) | (with_reducible refine DL.st DL.un_cons ?_) | (with_reducible refine DL.st DL.un_nil ?_) | (with_reducible refine DL.un_gh ?_) | (with_reducible refine DL.m_rt ?_) | (with_reducible refine DL.m_bk ?_) | (with_reducible refine DL.m_ct ?_) | (with_reducible refine DL.m_tr ?_) | (with_reducible refine DL.i_t ?_) | (with_reducible refine DL.i_f ?_) | (with_reducible refine DL.i_n ?_) | (with_reducible refine DL.m_tys ?_) | (with_reducible refine DL.m_tyl ?_) | (with_reducible refine DL.st DL.r_c ?_) | (with_reducible refine DL.st DL.r_par ?_) | (with_reducible refine DL.st DL.q_pr2 ?_) | (with_reducible refine DL.st DL.r_thru ?_) | (with_reducible refine DL.st DL.r_dic0 ?_) | (with_reducible refine DL.st DL.r_fmt ?_) | (with_reducible refine DL.st DL.r_join ?_) | (with_reducible refine DL.st DL.r_jnil ?_) | (with_reducible refine DL.st DL.r_jcons ?_) | (with_reducible refine DL.st DL.r_seqG ?_) | (with_reducible refine DL.st DL.r_raiseW ?_) | (with_reducible refine DL.st DX.r_tryMA ?_) | (with_reducible refine DL.st DX.r_raiseF ?_) | (with_reducible refine DL.st DX.r_methN ?_) | (with_reducible refine DL.st DL.r_tryAs ?_) | (with_reducible refine DL.st DL.q_fmtI ?_) | (with_reducible refine DL.st DL.q_fmtB ?_) | (with_reducible refine DL.st DL.q_fmtS ?_) | (with_reducible refine DL.st DL.r_cons ?_) | (with_reducible refine DL.st DL.r_nil ?_) | (with_reducible refine DL.st DL.r_op ?_) | (with_reducible refine DL.st DL.r_call ?_) | (with_reducible refine DL.st DL.r_cb ?_) | (with_reducible refine DL.st DL.r_seq ?_) | (with_reducible refine DL.st DL.r_set ?_) | (with_reducible refine DL.st DL.r_test ?_) | (with_reducible refine DL.st DL.r_tru ?_) | (with_reducible refine DL.st DL.z_ts ?_) | (with_reducible refine DL.st DL.q_bl ?_) | (with_reducible refine DL.st DL.r_if ?_) | (with_reducible refine DL.st DL.r_ret ?_) | (with_reducible refine DL.st DL.r_for ?_) | (with_reducible refine DL.st DL.r_next ?_) | (with_reducible refine DL.st DL.r_retN ?_) | (with_reducible refine DL.st DL.r_brk ?_) | (with_reducible refine DL.st DL.r_cnt ?_) | (with_reducible refine DL.st DL.r_drop ?_) | (with_reducible refine DL.st DL.r_asg ?_) | (with_reducible refine DL.st DL.r_gname ?_) | (with_reducible refine DL.st DL.r_gnil ?_) | (with_reducible refine DL.st DL.r_gcons ?_) | (with_reducible refine DL.st DL.r_gtup ?_) | (with_reducible refine DL.st DL.r_gsub ?_) | (with_reducible refine DL.st DL.r_and ?_) | (with_reducible refine DL.st DL.r_or ?_) | (with_reducible refine DL.st DL.r_not ?_) | (with_reducible refine DL.st DL.r_ife ?_) | (with_reducible refine DL.st DL.r_tup ?_) | (with_reducible refine DL.st DL.r_lst ?_) | (with_reducible refine DL.st DL.r_lstM ?_) | (with_reducible refine DL.st DL.r_bm ?_) | (with_reducible refine DL.st DL.r_fld ?_) | (with_reducible refine DL.st DL.r_chain ?_) | (with_reducible refine DL.st DL.r_orT ?_) | (with_reducible refine DL.st DL.r_andT ?_) | (with_reducible refine DL.st DL.r_notT ?_) | (with_reducible refine DL.st DL.r_neg ?_) | (with_reducible refine DL.st DL.r_sl ?_) | (with_reducible refine DL.st DL.r_nop ?_) | (with_reducible refine DL.st DL.r_part ?_) | (with_reducible refine DL.st DL.r_slL ?_) | (with_reducible refine DL.st DL.r_slT ?_) | (with_reducible refine DL.st DL.r_slS ?_) | (with_reducible refine DL.st DL.r_lc ?_) | (with_reducible refine DL.st DL.r_lcM ?_) | (with_reducible refine DL.st DL.r_iter ?_) | (with_reducible refine DL.st DL.r_rng1 ?_) | (with_reducible refine DL.st DL.r_rng2 ?_) | (with_reducible refine DL.st DL.z_ch ?_) | (with_reducible refine DL.st DL.z_pt ?_) | (with_reducible refine DL.st DL.z_itL ?_) | (with_reducible refine DL.st DL.z_itT ?_) | (with_reducible refine DL.st DL.z_itS ?_) | (with_reducible refine DL.st DL.z_itR ?_) | (with_reducible refine DL.st DL.z_rg1 ?_) | (with_reducible refine DL.st DL.z_rg2 ?_) | (with_reducible refine DL.st DL.r_disp ?_) | (with_reducible refine DL.st DL.r_pnil ?_) | (with_reducible refine DL.st DL.r_pcons ?_) | (with_reducible refine DL.st DL.o_addI ?_) | (with_reducible refine DL.st DL.o_addS ?_) | (with_reducible refine DL.st DL.o_addL ?_) | (with_reducible refine DL.st DL.o_addT ?_) | (with_reducible refine DL.st DL.o_sub ?_) | (with_reducible refine DL.st DL.o_mulI ?_) | (with_reducible refine DL.st DL.o_mulS ?_) | (with_reducible refine DL.st DL.o_mulL ?_) | (with_reducible refine DL.st DL.o_div ?_) | (with_reducible refine DL.st DL.o_divZ ?_) | (with_reducible refine DL.st DL.o_mod ?_) | (with_reducible refine DL.st DL.o_modZ ?_) | (with_reducible refine DL.st DL.o_pow ?_) | (with_reducible refine DL.st DL.o_lt ?_) | (with_reducible refine DL.st DL.o_le ?_) | (with_reducible refine DL.st DL.o_gt ?_) | (with_reducible refine DL.st DL.o_ge ?_) | (with_reducible refine DL.st DL.o_isN ?_) | (with_reducible refine DL.st DL.o_isB ?_) | (with_reducible refine DL.st DL.o_isnN ?_) | (with_reducible refine DL.st DL.o_isnB ?_) | (with_reducible refine DL.st DL.o_ixL ?_) | (with_reducible refine DL.st DL.o_ixT ?_) | (with_reducible refine DL.st DL.o_ixS ?_) | (with_reducible refine DL.st DL.o_ixR ?_) | (with_reducible refine DL.st DL.c_lenL ?_) | (with_reducible refine DL.st DL.c_lenT ?_) | (with_reducible refine DL.st DL.c_lenS ?_) | (with_reducible refine DL.st DL.c_lenR ?_) | (with_reducible refine DL.st DL.c_intI ?_) | (with_reducible refine DL.st DL.c_intB ?_) | (with_reducible refine DL.st DL.c_intS ?_) | (with_reducible refine DL.st DL.c_int2 ?_) | (with_reducible refine DL.st DL.c_strI ?_) | (with_reducible refine DL.st DL.c_strS ?_) | (with_reducible refine DL.st DL.c_abs ?_) | (with_reducible refine DL.st DL.c_max2 ?_) | (with_reducible refine DL.st DL.c_min2 ?_) | (with_reducible refine DL.st DL.q_non ?_) | (with_reducible refine DL.st DL.q_int ?_) | (with_reducible refine DL.st DL.q_str ?_) | (with_reducible refine DL.st DL.q_lst ?_) | (with_reducible refine DL.st DL.q_tup ?_) | (with_reducible refine DL.st DL.m_up ?_) | (with_reducible refine DL.st DL.m_low ?_) | (with_reducible refine DL.st DL.r_bind1 ?_) | (with_reducible refine DL.st DL.eq_ii ?_) | (with_reducible refine DL.st DL.eq_ss ?_) | (with_reducible refine DL.st DL.eq_bb ?_) | (with_reducible refine DL.st DL.eq_nn ?_) | (with_reducible refine DL.st DL.eq_ni ?_) | (with_reducible refine DL.st DL.eq_in ?_) | (with_reducible refine DL.st DL.ne_ii ?_) | (with_reducible refine DL.st DL.ne_ss ?_) | (with_reducible refine DL.st DL.r_make ?_) | (with_reducible refine DL.st DL.r_meth ?_) | (with_reducible refine DL.st DL.r_fldC ?_) | (with_reducible refine DL.st DL.r_fldS ?_) | (with_reducible refine DL.st DL.c_listL ?_) | (with_reducible refine DL.st DL.c_listT ?_) | (with_reducible refine DL.st DL.c_tupL ?_) | (with_reducible refine DL.st DL.c_tupT ?_) | (with_reducible refine DL.st DL.r_rev ?_) | (with_reducible refine DL.st DL.z_rvL ?_) | ((with_reducible apply DL.m_aug); (· exact rfl)) | (with_reducible refine DL.st DL.q_augI ?_) | (with_reducible refine DL.st DL.q_augS ?_) | (with_reducible refine DL.st DL.r_fmtR ?_) | (with_reducible refine DL.st DL.q_fmrS ?_) | (with_reducible refine DL.st DL.r_enum ?_) | (with_reducible refine DL.st DL.r_enumT ?_) | (with_reducible refine DL.st DL.z_enT ?_) | (with_reducible refine DL.st DL.z_enL ?_) | ((with_reducible apply DL.m_fobj); (· decide +kernel); (· exact rfl)) | ((with_reducible apply DL.m_mobj); (· decide +kernel)) | ((with_reducible apply DL.m_new); (· decide +kernel); (· exact rfl); (· exact rfl)) | (with_reducible refine DL.st DL.r_callN ?_) | (with_reducible refine DL.st DL.r_makeN ?_) | ((with_reducible apply DL.m_pkN); (· exact rfl); (· exact rfl); (· exact rfl)) | (with_reducible refine DL.s_int_int ?_) | (with_reducible refine DL.s_int_bool ?_) | (with_reducible refine DL.s_int_str ?_) | (with_reducible refine DL.s_int_tuple ?_) | (with_reducible refine DL.s_int_list ?_) | (with_reducible refine DL.s_int_dict ?_) | (with_reducible refine DL.s_bl_int ?_) | (with_reducible refine DL.s_bl_bool ?_) | (with_reducible refine DL.s_bl_str ?_) | (with_reducible refine DL.s_bl_tuple ?_) | (with_reducible refine DL.s_bl_list ?_) | (with_reducible refine DL.s_bl_dict ?_) | (with_reducible refine DL.s_str_int ?_) | (with_reducible refine DL.s_str_bool ?_) | (with_reducible refine DL.s_str_str ?_) | (with_reducible refine DL.s_str_tuple ?_) | (with_reducible refine DL.s_str_list ?_) | (with_reducible refine DL.s_str_dict ?_) | (with_reducible refine DL.s_tup_int ?_) | (with_reducible refine DL.s_tup_bool ?_) | (with_reducible refine DL.s_tup_str ?_) | (with_reducible refine DL.s_tup_tuple ?_) | (with_reducible refine DL.s_tup_list ?_) | (with_reducible refine DL.s_tup_dict ?_) | (with_reducible refine DL.s_lst_int ?_) | (with_reducible refine DL.s_lst_bool ?_) | (with_reducible refine DL.s_lst_str ?_) | (with_reducible refine DL.s_lst_tuple ?_) | (with_reducible refine DL.s_lst_list ?_) | (with_reducible refine DL.s_lst_dict ?_) | (with_reducible refine DL.s_non_int ?_) | (with_reducible refine DL.s_non_bool ?_) | (with_reducible refine DL.s_non_str ?_) | (with_reducible refine DL.s_non_tuple ?_) | (with_reducible refine DL.s_non_list ?_) | (with_reducible refine DL.s_non_dict ?_) | (with_reducible refine DL.s_dic_int ?_) | (with_reducible refine DL.s_dic_bool ?_) | (with_reducible refine DL.s_dic_str ?_) | (with_reducible refine DL.s_dic_tuple ?_) | (with_reducible refine DL.s_dic_list ?_) | (with_reducible refine DL.s_dic_dict ?_) | (with_reducible refine DL.s_dit_int ?_) | (with_reducible refine DL.s_dit_bool ?_) | (with_reducible refine DL.s_dit_str ?_) | (with_reducible refine DL.s_dit_tuple ?_) | (with_reducible refine DL.s_dit_list ?_) | (with_reducible refine DL.s_dit_dict ?_) | ((with_reducible refine DL.m_sz ?_ ?_); (· exact rfl)) | ((with_reducible refine DL.m_sz2 ?_ ?_); (· exact rfl)) | ((with_reducible refine DL.m_szs ?_ ?_); (· decide +kernel)) | (with_reducible refine DL.m_ty ?_) | ((with_reducible refine DL.m_ln ?_ ?_); (· exact rfl)) | ((with_reducible refine And.intro ?_ ?_); (· (first | with_reducible assumption | omega)))))
local macro_rules | `(tactic| walk_at "dx") => `(tactic| repeat (first | ((with_reducible apply DL.m_nm); (· exact rfl)) | (with_reducible refine DL.m_nx ?_) | ((with_reducible apply DL.ex_atI); (· (first | with_reducible assumption | exact rfl))) | (with_reducible refine DL.st DL.r_sortM ?_) | (with_reducible refine DL.st DL.r_sortS ?_) | (with_reducible refine DL.st DL.un_cons ?_) | (with_reducible refine DL.st DL.un_nil ?_) | (with_reducible refine DL.un_gh ?_) | (with_reducible refine DL.m_rt ?_) | (with_reducible refine DL.m_bk ?_) | (with_reducible refine DL.m_ct ?_) | (with_reducible refine DL.m_tr ?_) | (with_reducible refine DL.i_t ?_) | (with_reducible refine DL.i_f ?_) | (with_reducible refine DL.i_n ?_) | (with_reducible refine DL.m_tys ?_) | (with_reducible refine DL.m_tyl ?_) | (with_reducible refine DL.st DL.r_c ?_) | (with_reducible refine DL.st DL.r_par ?_) | (with_reducible refine DL.st DL.q_pr2 ?_) | (with_reducible refine DL.st DL.r_thru ?_) | (with_reducible refine DL.st DL.r_dic0 ?_) | (with_reducible refine DL.st DL.r_fmt ?_) | (with_reducible refine DL.st DL.r_join ?_) | (with_reducible refine DL.st DL.r_jnil ?_) | (with_reducible refine DL.st DL.r_jcons ?_) | (with_reducible refine DL.st DL.r_seqG ?_) | (with_reducible refine DL.st DL.r_raiseW ?_) | (with_reducible refine DL.st DX.r_tryMA ?_) | (with_reducible refine DL.st DX.r_raiseF ?_) | (with_reducible refine DL.st DX.r_methN ?_) | (with_reducible refine DL.st DL.r_tryAs ?_) | (with_reducible refine DL.st DL.q_fmtI ?_) | (with_reducible refine DL.st DL.q_fmtB ?_) | (with_reducible refine DL.st DL.q_fmtS ?_) | (with_reducible refine DL.st DL.r_cons ?_) | (with_reducible refine DL.st DL.r_nil ?_) | (with_reducible refine DL.st DL.r_op ?_) | (with_reducible refine DL.st DL.r_call ?_) | (with_reducible refine DL.st DL.r_cb ?_) | (with_reducible refine DL.st DL.r_seq ?_) | (with_reducible refine DL.st DL.r_set ?_) | (with_reducible refine DL.st DL.r_test ?_) | (with_reducible refine DL.st DL.r_tru ?_) | (with_reducible refine DL.st DL.z_ts ?_) | (with_reducible refine DL.st DL.q_bl ?_) | (with_reducible refine DL.st DL.r_if ?_) | (with_reducible refine DL.st DL.r_ret ?_) | (with_reducible refine DL.st DL.r_for ?_) | (with_reducible refine DL.st DL.r_next ?_) | (with_reducible refine DL.st DL.r_retN ?_) | (with_reducible refine DL.st DL.r_brk ?_) | (with_reducible refine DL.st DL.r_cnt ?_) | (with_reducible refine DL.st DL.r_drop ?_) | (with_reducible refine DL.st DL.r_asg ?_) | (with_reducible refine DL.st DL.r_gname ?_) | (with_reducible refine DL.st DL.r_gnil ?_) | (with_reducible refine DL.st DL.r_gcons ?_) | (with_reducible refine DL.st DL.r_gtup ?_) | (with_reducible refine DL.st DL.r_gsub ?_) | (with_reducible refine DL.st DL.r_and ?_) | (with_reducible refine DL.st DL.r_or ?_) | (with_reducible refine DL.st DL.r_not ?_) | (with_reducible refine DL.st DL.r_ife ?_) | (with_reducible refine DL.st DL.r_tup ?_) | (with_reducible refine DL.st DL.r_lst ?_) | (with_reducible refine DL.st DL.r_lstM ?_) | (with_reducible refine DL.st DL.r_bm ?_) | (with_reducible refine DL.st DL.r_fld ?_) | (with_reducible refine DL.st DL.r_chain ?_) | (with_reducible refine DL.st DL.r_orT ?_) | (with_reducible refine DL.st DL.r_andT ?_) | (with_reducible refine DL.st DL.r_notT ?_) | (with_reducible refine DL.st DL.r_neg ?_) | (with_reducible refine DL.st DL.r_sl ?_) | (with_reducible refine DL.st DL.r_nop ?_) | (with_reducible refine DL.st DL.r_part ?_) | (with_reducible refine DL.st DL.r_slL ?_) | (with_reducible refine DL.st DL.r_slT ?_) | (with_reducible refine DL.st DL.r_slS ?_) | (with_reducible refine DL.st DL.r_lc ?_) | (with_reducible refine DL.st DL.r_lcM ?_) | (with_reducible refine DL.st DL.r_iter ?_) | (with_reducible refine DL.st DL.r_rng1 ?_) | (with_reducible refine DL.st DL.r_rng2 ?_) | (with_reducible refine DL.st DL.z_ch ?_) | (with_reducible refine DL.st DL.z_pt ?_) | (with_reducible refine DL.st DL.z_itL ?_) | (with_reducible refine DL.st DL.z_itT ?_) | (with_reducible refine DL.st DL.z_itS ?_) | (with_reducible refine DL.st DL.z_itR ?_) | (with_reducible refine DL.st DL.z_rg1 ?_) | (with_reducible refine DL.st DL.z_rg2 ?_) | (with_reducible refine DL.st DL.r_disp ?_) | (with_reducible refine DL.st DL.r_pnil ?_) | (with_reducible refine DL.st DL.r_pcons ?_) | (with_reducible refine DL.st DL.o_addI ?_) | (with_reducible refine DL.st DL.o_addS ?_) | (with_reducible refine DL.st DL.o_addL ?_) | (with_reducible refine DL.st DL.o_addT ?_) | (with_reducible refine DL.st DL.o_sub ?_) | (with_reducible refine DL.st DL.o_mulI ?_) | (with_reducible refine DL.st DL.o_mulS ?_) | (with_reducible refine DL.st DL.o_mulL ?_) | (with_reducible refine DL.st DL.o_div ?_) | (with_reducible refine DL.st DL.o_divZ ?_) | (with_reducible refine DL.st DL.o_mod ?_) | (with_reducible refine DL.st DL.o_modZ ?_) | (with_reducible refine DL.st DL.o_pow ?_) | (with_reducible refine DL.st DL.o_lt ?_) | (with_reducible refine DL.st DL.o_le ?_) | (with_reducible refine DL.st DL.o_gt ?_) | (with_reducible refine DL.st DL.o_ge ?_) | (with_reducible refine DL.st DL.o_isN ?_) | (with_reducible refine DL.st DL.o_isB ?_) | (with_reducible refine DL.st DL.o_isnN ?_) | (with_reducible refine DL.st DL.o_isnB ?_) | (with_reducible refine DL.st DL.o_ixL ?_) | (with_reducible refine DL.st DL.o_ixT ?_) | (with_reducible refine DL.st DL.o_ixS ?_) | (with_reducible refine DL.st DL.o_ixR ?_) | (with_reducible refine DL.st DL.c_lenL ?_) | (with_reducible refine DL.st DL.c_lenT ?_) | (with_reducible refine DL.st DL.c_lenS ?_) | (with_reducible refine DL.st DL.c_lenR ?_) | (with_reducible refine DL.st DL.c_intI ?_) | (with_reducible refine DL.st DL.c_intB ?_) | (with_reducible refine DL.st DL.c_intS ?_) | (with_reducible refine DL.st DL.c_int2 ?_) | (with_reducible refine DL.st DL.c_strI ?_) | (with_reducible refine DL.st DL.c_strS ?_) | (with_reducible refine DL.st DL.c_abs ?_) | (with_reducible refine DL.st DL.c_max2 ?_) | (with_reducible refine DL.st DL.c_min2 ?_) | (with_reducible refine DL.st DL.q_non ?_) | (with_reducible refine DL.st DL.q_int ?_) | (with_reducible refine DL.st DL.q_str ?_) | (with_reducible refine DL.st DL.q_lst ?_) | (with_reducible refine DL.st DL.q_tup ?_) | (with_reducible refine DL.st DL.m_up ?_) | (with_reducible refine DL.st DL.m_low ?_) | (with_reducible refine DL.st DL.r_bind1 ?_) | (with_reducible refine DL.st DL.eq_ii ?_) | (with_reducible refine DL.st DL.eq_ss ?_) | (with_reducible refine DL.st DL.eq_bb ?_) | (with_reducible refine DL.st DL.eq_nn ?_) | (with_reducible refine DL.st DL.eq_ni ?_) | (with_reducible refine DL.st DL.eq_in ?_) | (with_reducible refine DL.st DL.ne_ii ?_) | (with_reducible refine DL.st DL.ne_ss ?_) | (with_reducible refine DL.st DL.r_make ?_) | (with_reducible refine DL.st DL.r_meth ?_) | (with_reducible refine DL.st DL.r_fldC ?_) | (with_reducible refine DL.st DL.r_fldS ?_) | (with_reducible refine DL.st DL.c_listL ?_) | (with_reducible refine DL.st DL.c_listT ?_) | (with_reducible refine DL.st DL.c_tupL ?_) | (with_reducible refine DL.st DL.c_tupT ?_) | (with_reducible refine DL.st DL.r_rev ?_) | (with_reducible refine DL.st DL.z_rvL ?_) | ((with_reducible apply DL.m_aug); (· exact rfl)) | (with_reducible refine DL.st DL.q_augI ?_) | (with_reducible refine DL.st DL.q_augS ?_) | (with_reducible refine DL.st DL.r_fmtR ?_) | (with_reducible refine DL.st DL.q_fmrS ?_) | (with_reducible refine DL.st DL.r_enum ?_) | (with_reducible refine DL.st DL.r_enumT ?_) | (with_reducible refine DL.st DL.z_enT ?_) | (with_reducible refine DL.st DL.z_enL ?_) | ((with_reducible apply DL.m_fobj); (· decide +kernel); (· exact rfl)) | ((with_reducible apply DL.m_mobj); (· decide +kernel)) | ((with_reducible apply DL.m_new); (· decide +kernel); (· exact rfl); (· exact rfl)) | (with_reducible refine DL.st DL.r_callN ?_) | (with_reducible refine DL.st DL.r_makeN ?_) | ((with_reducible apply DL.m_pkN); (· exact rfl); (· exact rfl); (· exact rfl)) | (with_reducible refine DL.s_int_int ?_) | (with_reducible refine DL.s_int_bool ?_) | (with_reducible refine DL.s_int_str ?_) | (with_reducible refine DL.s_int_tuple ?_) | (with_reducible refine DL.s_int_list ?_) | (with_reducible refine DL.s_int_dict ?_) | (with_reducible refine DL.s_bl_int ?_) | (with_reducible refine DL.s_bl_bool ?_) | (with_reducible refine DL.s_bl_str ?_) | (with_reducible refine DL.s_bl_tuple ?_) | (with_reducible refine DL.s_bl_list ?_) | (with_reducible refine DL.s_bl_dict ?_) | (with_reducible refine DL.s_str_int ?_) | (with_reducible refine DL.s_str_bool ?_) | (with_reducible refine DL.s_str_str ?_) | (with_reducible refine DL.s_str_tuple ?_) | (with_reducible refine DL.s_str_list ?_) | (with_reducible refine DL.s_str_dict ?_) | (with_reducible refine DL.s_tup_int ?_) | (with_reducible refine DL.s_tup_bool ?_) | (with_reducible refine DL.s_tup_str ?_) | (with_reducible refine DL.s_tup_tuple ?_) | (with_reducible refine DL.s_tup_list ?_) | (with_reducible refine DL.s_tup_dict ?_) | (with_reducible refine DL.s_lst_int ?_) | (with_reducible refine DL.s_lst_bool ?_) | (with_reducible refine DL.s_lst_str ?_) | (with_reducible refine DL.s_lst_tuple ?_) | (with_reducible refine DL.s_lst_list ?_) | (with_reducible refine DL.s_lst_dict ?_) | (with_reducible refine DL.s_non_int ?_) | (with_reducible refine DL.s_non_bool ?_) | (with_reducible refine DL.s_non_str ?_) | (with_reducible refine DL.s_non_tuple ?_) | (with_reducible refine DL.s_non_list ?_) | (with_reducible refine DL.s_non_dict ?_) | (with_reducible refine DL.s_dic_int ?_) | (with_reducible refine DL.s_dic_bool ?_) | (with_reducible refine DL.s_dic_str ?_) | (with_reducible refine DL.s_dic_tuple ?_) | (with_reducible refine DL.s_dic_list ?_) | (with_reducible refine DL.s_dic_dict ?_) | (with_reducible refine DL.s_dit_int ?_) | (with_reducible refine DL.s_dit_bool ?_) | (with_reducible refine DL.s_dit_str ?_) | (with_reducible refine DL.s_dit_tuple ?_) | (with_reducible refine DL.s_dit_list ?_) | (with_reducible refine DL.s_dit_dict ?_) | ((with_reducible refine DL.m_sz ?_ ?_); (· exact rfl)) | ((with_reducible refine DL.m_sz2 ?_ ?_); (· exact rfl)) | ((with_reducible refine DL.m_szs ?_ ?_); (· decide +kernel)) | (with_reducible refine DL.m_ty ?_) | ((with_reducible refine DL.m_ln ?_ ?_); (· exact rfl)) | ((with_reducible refine And.intro ?_ ?_); (· (first | with_reducible assumption | omega)))))
abbrev LET : Str := "abcdefghijklmnopqrstuvwxyz"
def isWhole (x : D) (i j : Int) : Bool := match x with | .int n => decide (i ≤ n) && decide (n ≤ j) | _ => false
def allIn (z y : Str) : Bool := z.cps.toList.all fun c => decide (c ∈ y.cps.toList)
def isName (x : D) : Bool := match x with | .str z => (decide ((1 : Int) ≤ z.length) && decide ((z.length : Int) ≤ 8)) && allIn z LET | _ => false
def sp_is_whole : DSp := sp3 fun x a b G Q E => ∃ i j n, a = .int i ∧ b = .int j ∧ tyName x = some n ∧ Q (.bl (isWhole x i j)) G
def sp_is_name : DSp := sp1 fun x G Q E => ∃ n, tyName x = some n ∧ (∀ z, x = .str z → z.length ≤ sizeLine) ∧ Q (.bl (isName x)) G
def sp_is_number : DSp := sp1 fun x G Q E => ∃ n, tyName x = some n ∧ Q (.bl (isWhole x 1 1000000000)) G
theorem rd_is_whole (K : PySem.W.Frag) (S : Sps) : ∀ ds G Q E, sp_is_whole ds G Q E → t_is_whole K S { nx := fun _ G' => GhV Q .non G', rt := GhV Q } (fun cls fs _ G' => E cls fs G') (dstart N_is_whole ds) G := by
  intro ds G Q E h
  obtain ⟨x, _, _, rfl, i, j, n, rfl, rfl, hn, q⟩ := sp3_of h
  unfold t_is_whole
  rw [show dstart N_is_whole [x, .int i, .int j] = [some x, some (.int i), some (.int j)] from rfl]
  walk_at "dl"
  refine isi_p hn rfl ?_
  cases x <;> first | (cases hn; done) | skip
  case int y =>
    walk_at "dl"
    refine isi_p hn rfl ?_
    walk_at "dl"
    unfold isWhole at q
    cases h1 : decide (i ≤ y) <;> simp only [h1, z_iT, z_ft, z_iF, Bool.true_and, Bool.false_and] at q ⊢ <;> exact .done q
  case bl y => 
    walk_at "dl"
    refine isi_p hn rfl ?_
    walk_at "dl"
    exact .done q
  all_goals (walk_at "dl"; exact .done q)
theorem rd_is_name (K : PySem.W.Frag) (S : Sps) : ∀ ds G Q E, sp_is_name ds G Q E → t_is_name K S { nx := fun _ G' => GhV Q .non G', rt := GhV Q } (fun cls fs _ G' => E cls fs G') (dstart N_is_name ds) G := by
  intro ds G Q E h
  obtain ⟨x, rfl, n, hn, hl, q⟩ := sp1_of h
  unfold t_is_name
  rw [show dstart N_is_name [x] = [some x, none] from rfl]
  walk_at "dl"
  refine isi_p hn rfl ?_
  cases x <;> first | (cases hn; done) | skip
  case str z =>
    have hz := hl z rfl
    walk_at "dl"
    refine ⟨hz, ?_⟩
    unfold isName at q
    cases h1 : decide ((1 : Int) ≤ z.length) <;> simp only [h1, z_iT, z_ft, z_iF, Bool.true_and, Bool.false_and, z_nt, z_nf] at q ⊢
    · exact .done q
    cases h2 : decide ((z.length : Int) ≤ 8) <;> simp only [h2, z_iT, z_ft, z_iF, Bool.true_and, Bool.false_and, z_nt, z_nf] at q ⊢
    · exact .done q
    unfold signsD
    refine lc_map (f := fun c => .bl (decide (c ∈ LET.cps.toList))) (by rw [← len_cps]; exact hz) trivial (fun c hc => ?_) ?_
    · walk_at "dl"
      intro Q h
      exact in_sign h
    · exact all_of (.done q)
  all_goals (walk_at "dl"; exact .done q)
theorem rd_is_number (K : PySem.W.Frag) (S : Sps) (e1 : S.f_is_whole = sp_is_whole) : ∀ ds G Q E, sp_is_number ds G Q E → t_is_number K S { nx := fun _ G' => GhV Q .non G', rt := GhV Q } (fun cls fs _ G' => E cls fs G') (dstart N_is_number ds) G := by
  intro ds G Q E h
  obtain ⟨x, rfl, n, hn, q⟩ := sp1_of h
  unfold t_is_number
  rw [e1, show dstart N_is_number [x] = [some x] from rfl]
  walk_at "dl"
  exact run_all ⟨_, _, _, rfl, rfl, hn, .done q⟩
structure Rw where
  n : Int
  a : Int
  w : Int
  s : Str
  f : Str
  d : Bool
structure Rw.Ok (r : Rw) : Prop where
  n1 : 1 ≤ r.n
  n2 : r.n ≤ 1000000000
  a1 : 1 ≤ r.a
  a2 : r.a ≤ 1000000
  w1 : 1 ≤ r.w
  w2 : r.w ≤ 1000000
  s1 : isName (.str r.s) = true
  s2 : Asc 100 r.s
  f1 : isName (.str r.f) = true
  f2 : Asc 100 r.f
abbrev BNs : List Str := ["number", "across", "weight", "shade", "form", "drilled"]
abbrev Rw.vs (r : Rw) : List D := [.int r.n, .int r.a, .int r.w, .str r.s, .str r.f, .bl r.d]
abbrev rowD (r : Rw) : D := .tup r.vs
abbrev beadD (K : PySem.W.Frag) (r : Rw) : D := .obj (He.ga K "Bead") BNs r.vs
def orow : Option Rw → D
  | none => .non
  | some r => rowD r
def obead (K : PySem.W.Frag) : Option Rw → D
  | none => .non
  | some r => beadD K r
theorem isWhole_t {n i j : Int} (h1 : i ≤ n) (h2 : n ≤ j) : isWhole (.int n) i j = true := by
  show (decide (i ≤ n) && decide (n ≤ j)) = true
  rw [decide_eq_true h1, decide_eq_true h2]; rfl
def absI (i : Int) : Int := if i < 0 then -i else i
theorem pn_row {r : Rw} (h1 : okStr r.s) (h2 : okStr r.f) : PLn 2 (rowD r) := pn_tup fun x hx => by
  simp only [List.mem_cons, List.not_mem_nil, or_false] at hx
  rcases hx with rfl | rfl | rfl | rfl | rfl | rfl
  · exact pn_int
  · exact pn_int
  · exact pn_int
  · exact pn_str h1
  · exact pn_str h2
  · exact pn_bl
theorem sz2 {n : Nat} (h : n ≤ 2000) : n ≤ sizeLine := Nat.le_trans (show n ≤ 100000 by omega) sizeLine_big
/-- a thing of any kind, its texts short -/
structure Th (x : D) : Prop where
  ty : ∃ n, tyName x = some n
  as : ∀ z, x = .str z → z.length ≤ 2000
theorem th_i {i : Int} : Th (.int i) := ⟨⟨_, rfl⟩, fun _ h => by cases h⟩
theorem th_b {b : Bool} : Th (.bl b) := ⟨⟨_, rfl⟩, fun _ h => by cases h⟩
theorem th_s {z : Str} (h : z.length ≤ 2000) : Th (.str z) := ⟨⟨_, rfl⟩, fun _ e => by cases e; exact h⟩
def isBl : D → Bool | .bl _ => true | _ => false
def b6 (n a w s f d : D) : Bool := isWhole n 1 1000000000 && (isWhole a 1 1000000 && (isWhole w 1 1000000 && (isName s && (isName f && isBl d))))
theorem isK_bl (e : D) : isK e "bool" = isBl e := by cases e <;> first | rfl | decide
theorem b6_ok {r : Rw} (h : r.Ok) : b6 (.int r.n) (.int r.a) (.int r.w) (.str r.s) (.str r.f) (.bl r.d) = true := by
  unfold b6
  rw [isWhole_t h.n1 h.n2, isWhole_t h.a1 h.a2, isWhole_t h.w1 h.w2, h.s1, h.f1]
  rfl
def sp_Bead___init__ (K : PySem.W.Frag) : DSp := sp7 fun x n a w s f d G Q E => ∃ p : Addr, x = .ref p ∧ Th n ∧ Th a ∧ Th w ∧ Th s ∧ Th f ∧ Th d ∧ G = [(p, .ins (He.ga K "Bead") [] [])] ∧ (b6 n a w s f d = true → Q .non [(p, .ins (He.ga K "Bead") BNs [n, a, w, s, f, d])]) ∧ (b6 n a w s f d = false → ∀ (z : Str) G', E (.ref (He.ga K "BadBead")) [("why", .str z)] G')
theorem rd_Bead___init__ (K : PySem.W.Frag) (S : Sps) (e1 : S.f_is_number = sp_is_number) (e2 : S.f_is_whole = sp_is_whole) (e3 : S.f_is_name = sp_is_name) : ∀ ds G Q E, sp_Bead___init__ K ds G Q E → t_Bead___init__ K S { nx := fun _ G' => GhV Q .non G', rt := GhV Q } (fun cls fs _ G' => E cls fs G') (dstart N_Bead___init__ ds) G := by
  intro ds G Q E h
  obtain ⟨_, n, a, w, s, f, d, rfl, p, rfl, ⟨⟨tn, hn⟩, _⟩, ⟨⟨ta, ha⟩, _⟩, ⟨⟨tw, hw⟩, _⟩, ⟨⟨ts, hs⟩, as⟩, ⟨⟨tf, hf⟩, af⟩, ⟨⟨td, hd⟩, _⟩, rfl, q, r⟩ := sp7_of h
  unfold t_Bead___init__
  unfold b6 at q r
  rw [e1, e2, e3, show dstart N_Bead___init__ [.ref p, n, a, w, s, f, d] = [some (.ref p), some n, some a, some w, some s, some f, some d] from rfl]
  walk_at "dw"
  refine run_all ⟨tn, hn, ?_⟩
  cases h1 : isWhole n 1 1000000000 with
  | false =>
    rw [h1] at r
    walk_at "dw"
    exact m_why rfl (r rfl _ _)
  | true =>
  rw [h1] at q r
  walk_at "dw"
  refine run_all ⟨_, _, ta, rfl, rfl, ha, ?_⟩
  cases h2 : isWhole a 1 1000000 with
  | false =>
    rw [h2] at r
    walk_at "dw"
    exact m_why rfl (r rfl _ _)
  | true =>
  rw [h2] at q r
  walk_at "dw"
  refine run_all ⟨_, _, tw, rfl, rfl, hw, ?_⟩
  cases h3 : isWhole w 1 1000000 with
  | false =>
    rw [h3] at r
    walk_at "dw"
    exact m_why rfl (r rfl _ _)
  | true =>
  rw [h3] at q r
  walk_at "dw"
  refine run_all ⟨ts, hs, fun _ h => sz2 (as _ h), ?_⟩
  cases h4 : isName s with
  | false =>
    rw [h4] at r
    walk_at "dw"
    exact m_why rfl (r rfl _ _)
  | true =>
  rw [h4] at q r
  walk_at "dw"
  refine run_all ⟨tf, hf, fun _ h => sz2 (af _ h), ?_⟩
  cases h5 : isName f with
  | false =>
    rw [h5] at r
    walk_at "dw"
    exact m_why rfl (r rfl _ _)
  | true =>
  rw [h5] at q r
  walk_at "dw"
  refine isi_p hd rfl ?_
  rw [isK_bl]
  cases h6 : isBl d with
  | false =>
    rw [h6] at r
    walk_at "dw"
    exact m_why rfl (r rfl _ _)
  | true =>
  rw [h6] at q
  walk_at "dw"
  exact .done (q rfl)

end Pr
set_option Elab.async false
set_option linter.all false
set_option maxRecDepth 100000
set_option maxHeartbeats 4000000
namespace Pr
open PySem PyProof.Rows L2 DL DX
local macro_rules | `(tactic| walk_at "dl") => `(tactic| simp (config := {proj := false}) only [DL.n_nx, DL.n_rt, DL.n_bk, DL.n_ct, DL.eq_ii, DL.eq_ss, DL.eq_bb, DL.eq_nn, DL.eq_ni, DL.eq_in, DL.ne_ii, DL.ne_ss, DL.r_seq, DL.r_for, DL.r_if, DL.r_next, DL.r_ret, DL.r_retN, DL.r_brk, DL.r_cnt, DL.r_drop, DL.r_set, DL.r_asg, DL.r_gname, DL.r_gnil, DL.r_gcons, DL.r_gtup, DL.r_gsub, DL.r_name, DL.r_at0, DL.r_atS, DL.r_c, DL.r_op, DL.r_test, DL.r_tru, DL.r_and, DL.r_or, DL.r_not, DL.r_ife, DL.r_nil, DL.r_cons, DL.r_tup, DL.r_lst, DL.r_lstM, DL.r_cb, DL.r_call, DL.r_bm, DL.r_fld, DL.r_chain, DL.r_orT, DL.r_andT, DL.r_notT, DL.r_neg, DL.r_sl, DL.r_nop, DL.r_part, DL.r_slL, DL.r_slT, DL.r_slS, DL.r_lc, DL.r_lcM, DL.r_iter, DL.r_rng1, DL.r_rng2, DL.z_ch, DL.z_ts, DL.z_pt, DL.z_itL, DL.z_itT, DL.z_itS, DL.z_itR, DL.z_rg1, DL.z_rg2, DL.z_iT, DL.z_iF, DL.z_ft, DL.z_tf, DL.z_nt, DL.z_nf, DL.r_disp, DL.r_pnil, DL.r_pcons, DL.o_addI, DL.o_addS, DL.o_addL, DL.o_addT, DL.o_sub, DL.o_mulI, DL.o_mulS, DL.o_mulL, DL.o_div, DL.o_divZ, DL.o_mod, DL.o_modZ, DL.o_pow, DL.o_lt, DL.o_le, DL.o_gt, DL.o_ge, DL.o_isN, DL.o_isB, DL.o_isnN, DL.o_isnB, DL.o_ixL, DL.o_ixT, DL.o_ixS, DL.o_ixR, DL.c_lenL, DL.c_lenT, DL.c_lenS, DL.c_lenR, DL.c_intI, DL.c_intB, DL.c_intS, DL.c_int2, DL.c_strI, DL.c_strS, DL.c_abs, DL.c_max2, DL.c_min2, DL.q_non, DL.q_bl, DL.q_int, DL.q_str, DL.q_lst, DL.q_tup, DL.tym_s, DL.tym_l, DL.m_up, DL.m_low, DL.k_int_int, DL.k_int_bool, DL.k_int_str, DL.k_int_tuple, DL.k_int_list, DL.k_int_dict, DL.k_bl_int, DL.k_bl_bool, DL.k_bl_str, DL.k_bl_tuple, DL.k_bl_list, DL.k_bl_dict, DL.k_str_int, DL.k_str_bool, DL.k_str_str, DL.k_str_tuple, DL.k_str_list, DL.k_str_dict, DL.k_tup_int, DL.k_tup_bool, DL.k_tup_str, DL.k_tup_tuple, DL.k_tup_list, DL.k_tup_dict, DL.k_lst_int, DL.k_lst_bool, DL.k_lst_str, DL.k_lst_tuple, DL.k_lst_list, DL.k_lst_dict, DL.k_non_int, DL.k_non_bool, DL.k_non_str, DL.k_non_tuple, DL.k_non_list, DL.k_non_dict, DL.k_dic_int, DL.k_dic_bool, DL.k_dic_str, DL.k_dic_tuple, DL.k_dic_list, DL.k_dic_dict, DL.k_dit_int, DL.k_dit_bool, DL.k_dit_str, DL.k_dit_tuple, DL.k_dit_list, DL.k_dit_dict, DL.ls0, DL.lsS, DL.la0, DL.laS, DL.r_bind1, DL.r_wipe0, DL.r_wipeS, List.append_nil, true_and])
local macro_rules | `(tactic| walk_at "dw") => `(tactic| repeat (first | ((with_reducible apply DL.m_nm); (· exact rfl)) | (with_reducible refine DL.m_nx ?_) | (with_reducible refine DL.st DL.r_sortM ?_) | (with_reducible refine DL.st DL.r_sortS ?_) | (with_reducible refine DL.st DL.un_cons ?_) | (with_reducible refine DL.st DL.un_nil ?_) | (with_reducible refine DL.un_gh ?_) | (with_reducible refine DL.m_rt ?_) | (with_reducible refine DL.m_bk ?_) | (with_reducible refine DL.m_ct ?_) | (with_reducible refine DL.m_tr ?_) | (with_reducible refine DL.i_t ?_) | (with_reducible refine DL.i_f ?_) | (with_reducible refine DL.i_n ?_) | (with_reducible refine DL.m_tys ?_) | (with_reducible refine DL.m_tyl ?_) | (with_reducible refine DL.st DL.r_c ?_) | (with_reducible refine DL.st DL.r_par ?_) | (with_reducible refine DL.st DL.q_pr2 ?_) | (with_reducible refine DL.st DL.r_thru ?_) | (with_reducible refine DL.st DL.r_dic0 ?_) | (with_reducible refine DL.st DL.r_fmt ?_) | (with_reducible refine DL.st DL.r_join ?_) | (with_reducible refine DL.st DL.r_jnil ?_) | (with_reducible refine DL.st DL.r_jcons ?_) | (with_reducible refine DL.st DL.r_seqG ?_) | (with_reducible refine DL.st DL.r_raiseW ?_) | (with_reducible refine DL.st DX.r_tryMA ?_) | (with_reducible refine DL.st DX.r_raiseF ?_) | (with_reducible refine DL.st DX.r_methN ?_) | (with_reducible refine DL.st DL.r_tryAs ?_) | (with_reducible refine DL.st DL.q_fmtI ?_) | (with_reducible refine DL.st DL.q_fmtB ?_) | (with_reducible refine DL.st DL.q_fmtS ?_) | (with_reducible refine DL.st DL.r_cons ?_) | (with_reducible refine DL.st DL.r_nil ?_) | (with_reducible refine DL.st DL.r_op ?_) | (with_reducible refine DL.st DL.r_call ?_) | (with_reducible refine DL.st DL.r_cb ?_) | (with_reducible refine DL.st DL.r_seq ?_) | (with_reducible refine DL.st DL.r_set ?_) | (with_reducible refine DL.st DL.r_test ?_) | (with_reducible refine DL.st DL.r_tru ?_) | (with_reducible refine DL.st DL.z_ts ?_) | (with_reducible refine DL.st DL.q_bl ?_) | (with_reducible refine DL.st DL.r_if ?_) | (with_reducible refine DL.st DL.r_ret ?_) | (with_reducible refine DL.st DL.r_for ?_) | (with_reducible refine DL.st DL.r_next ?_) | (with_reducible refine DL.st DL.r_retN ?_) | (with_reducible refine DL.st DL.r_brk ?_) | (with_reducible refine DL.st DL.r_cnt ?_) | (with_reducible refine DL.st DL.r_drop ?_) | (with_reducible refine DL.st DL.r_asg ?_) | (with_reducible refine DL.st DL.r_gname ?_) | (with_reducible refine DL.st DL.r_gnil ?_) | (with_reducible refine DL.st DL.r_gcons ?_) | (with_reducible refine DL.st DL.r_gtup ?_) | (with_reducible refine DL.st DL.r_gsub ?_) | (with_reducible refine DL.st DL.r_and ?_) | (with_reducible refine DL.st DL.r_or ?_) | (with_reducible refine DL.st DL.r_not ?_) | (with_reducible refine DL.st DL.r_ife ?_) | (with_reducible refine DL.st DL.r_tup ?_) | (with_reducible refine DL.st DL.r_lst ?_) | (with_reducible refine DL.st DL.r_lstM ?_) | (with_reducible refine DL.st DL.r_bm ?_) | (with_reducible refine DL.st DL.r_fld ?_) | (with_reducible refine DL.st DL.r_chain ?_) | (with_reducible refine DL.st DL.r_orT ?_) | (with_reducible refine DL.st DL.r_andT ?_) | (with_reducible refine DL.st DL.r_notT ?_) | (with_reducible refine DL.st DL.r_neg ?_) | (with_reducible refine DL.st DL.r_sl ?_) | (with_reducible refine DL.st DL.r_nop ?_) | (with_reducible refine DL.st DL.r_part ?_) | (with_reducible refine DL.st DL.r_slL ?_) | (with_reducible refine DL.st DL.r_slT ?_) | (with_reducible refine DL.st DL.r_slS ?_) | (with_reducible refine DL.st DL.r_lc ?_) | (with_reducible refine DL.st DL.r_lcM ?_) | (with_reducible refine DL.st DL.r_iter ?_) | (with_reducible refine DL.st DL.r_rng1 ?_) | (with_reducible refine DL.st DL.r_rng2 ?_) | (with_reducible refine DL.st DL.z_ch ?_) | (with_reducible refine DL.st DL.z_pt ?_) | (with_reducible refine DL.st DL.z_itL ?_) | (with_reducible refine DL.st DL.z_itT ?_) | (with_reducible refine DL.st DL.z_itS ?_) | (with_reducible refine DL.st DL.z_itR ?_) | (with_reducible refine DL.st DL.z_rg1 ?_) | (with_reducible refine DL.st DL.z_rg2 ?_) | (with_reducible refine DL.st DL.r_disp ?_) | (with_reducible refine DL.st DL.r_pnil ?_) | (with_reducible refine DL.st DL.r_pcons ?_) | (with_reducible refine DL.st DL.o_addI ?_) | (with_reducible refine DL.st DL.o_addS ?_) | (with_reducible refine DL.st DL.o_addL ?_) | (with_reducible refine DL.st DL.o_addT ?_) | (with_reducible refine DL.st DL.o_sub ?_) | (with_reducible refine DL.st DL.o_mulI ?_) | (with_reducible refine DL.st DL.o_mulS ?_) | (with_reducible refine DL.st DL.o_mulL ?_) | (with_reducible refine DL.st DL.o_div ?_) | (with_reducible refine DL.st DL.o_divZ ?_) | (with_reducible refine DL.st DL.o_mod ?_) | (with_reducible refine DL.st DL.o_modZ ?_) | (with_reducible refine DL.st DL.o_pow ?_) | (with_reducible refine DL.st DL.o_lt ?_) | (with_reducible refine DL.st DL.o_le ?_) | (with_reducible refine DL.st DL.o_gt ?_) | (with_reducible refine DL.st DL.o_ge ?_) | (with_reducible refine DL.st DL.o_isN ?_) | (with_reducible refine DL.st DL.o_isB ?_) | (with_reducible refine DL.st DL.o_isnN ?_) | (with_reducible refine DL.st DL.o_isnB ?_) | (with_reducible refine DL.st DL.o_ixL ?_) | (with_reducible refine DL.st DL.o_ixT ?_) | (with_reducible refine DL.st DL.o_ixS ?_) | (with_reducible refine DL.st DL.o_ixR ?_) | (with_reducible refine DL.st DL.c_lenL ?_) | (with_reducible refine DL.st DL.c_lenT ?_) | (with_reducible refine DL.st DL.c_lenS ?_) | (with_reducible refine DL.st DL.c_lenR ?_) | (with_reducible refine DL.st DL.c_intI ?_) | (with_reducible refine DL.st DL.c_intB ?_) | (with_reducible refine DL.st DL.c_intS ?_) | (with_reducible refine DL.st DL.c_int2 ?_) | (with_reducible refine DL.st DL.c_strI ?_) | (with_reducible refine DL.st DL.c_strS ?_) | (with_reducible refine DL.st DL.c_abs ?_) | (with_reducible refine DL.st DL.c_max2 ?_) | (with_reducible refine DL.st DL.c_min2 ?_) | (with_reducible refine DL.st DL.q_non ?_) | (with_reducible refine DL.st DL.q_int ?_) | (with_reducible refine DL.st DL.q_str ?_) | (with_reducible refine DL.st DL.q_lst ?_) | (with_reducible refine DL.st DL.q_tup ?_) | (with_reducible refine DL.st DL.m_up ?_) | (with_reducible refine DL.st DL.m_low ?_) | (with_reducible refine DL.st DL.r_bind1 ?_) | (with_reducible refine DL.st DL.eq_ii ?_) | (with_reducible refine DL.st DL.eq_ss ?_) | (with_reducible refine DL.st DL.eq_bb ?_) | (with_reducible refine DL.st DL.eq_nn ?_) | (with_reducible refine DL.st DL.eq_ni ?_) | (with_reducible refine DL.st DL.eq_in ?_) | (with_reducible refine DL.st DL.ne_ii ?_) | (with_reducible refine DL.st DL.ne_ss ?_) | (with_reducible refine DL.st DL.r_make ?_) | (with_reducible refine DL.st DL.r_meth ?_) | (with_reducible refine DL.st DL.r_fldC ?_) | (with_reducible refine DL.st DL.r_fldS ?_) | (with_reducible refine DL.st DL.c_listL ?_) | (with_reducible refine DL.st DL.c_listT ?_) | (with_reducible refine DL.st DL.c_tupL ?_) | (with_reducible refine DL.st DL.c_tupT ?_) | (with_reducible refine DL.st DL.r_rev ?_) | (with_reducible refine DL.st DL.z_rvL ?_) | ((with_reducible apply DL.m_aug); (· exact rfl)) | (with_reducible refine DL.st DL.q_augI ?_) | (with_reducible refine DL.st DL.q_augS ?_) | (with_reducible refine DL.st DL.r_fmtR ?_) | (with_reducible refine DL.st DL.q_fmrS ?_) | (with_reducible refine DL.st DL.r_enum ?_) | (with_reducible refine DL.st DL.r_enumT ?_) | (with_reducible refine DL.st DL.z_enT ?_) | (with_reducible refine DL.st DL.z_enL ?_) | ((with_reducible apply DL.m_fobj); (· decide +kernel); (· exact rfl)) | ((with_reducible apply DL.m_mobj); (· decide +kernel)) | ((with_reducible apply DL.m_new); (· decide +kernel); (· exact rfl); (· exact rfl)) | (with_reducible refine DL.st DL.r_callN ?_) | (with_reducible refine DL.st DL.r_makeN ?_) | ((with_reducible apply DL.m_pkN); (· exact rfl); (· exact rfl); (· exact rfl)) | (with_reducible refine DL.s_int_int ?_) | (with_reducible refine DL.s_int_bool ?_) | (with_reducible refine DL.s_int_str ?_) | (with_reducible refine DL.s_int_tuple ?_) | (with_reducible refine DL.s_int_list ?_) | (with_reducible refine DL.s_int_dict ?_) | (with_reducible refine DL.s_bl_int ?_) | (with_reducible refine DL.s_bl_bool ?_) | (with_reducible refine DL.s_bl_str ?_) | (with_reducible refine DL.s_bl_tuple ?_) | (with_reducible refine DL.s_bl_list ?_) | (with_reducible refine DL.s_bl_dict ?_) | (with_reducible refine DL.s_str_int ?_) | (with_reducible refine DL.s_str_bool ?_) | (with_reducible refine DL.s_str_str ?_) | (with_reducible refine DL.s_str_tuple ?_) | (with_reducible refine DL.s_str_list ?_) | (with_reducible refine DL.s_str_dict ?_) | (with_reducible refine DL.s_tup_int ?_) | (with_reducible refine DL.s_tup_bool ?_) | (with_reducible refine DL.s_tup_str ?_) | (with_reducible refine DL.s_tup_tuple ?_) | (with_reducible refine DL.s_tup_list ?_) | (with_reducible refine DL.s_tup_dict ?_) | (with_reducible refine DL.s_lst_int ?_) | (with_reducible refine DL.s_lst_bool ?_) | (with_reducible refine DL.s_lst_str ?_) | (with_reducible refine DL.s_lst_tuple ?_) | (with_reducible refine DL.s_lst_list ?_) | (with_reducible refine DL.s_lst_dict ?_) | (with_reducible refine DL.s_non_int ?_) | (with_reducible refine DL.s_non_bool ?_) | (with_reducible refine DL.s_non_str ?_) | (with_reducible refine DL.s_non_tuple ?_) | (with_reducible refine DL.s_non_list ?_) | (with_reducible refine DL.s_non_dict ?_) | (with_reducible refine DL.s_dic_int ?_) | (with_reducible refine DL.s_dic_bool ?_) | (with_reducible refine DL.s_dic_str ?_) | (with_reducible refine DL.s_dic_tuple ?_) | (with_reducible refine DL.s_dic_list ?_) | (with_reducible refine DL.s_dic_dict ?_) | (with_reducible refine DL.s_dit_int ?_) | (with_reducible refine DL.s_dit_bool ?_) | (with_reducible refine DL.s_dit_str ?_) | (with_reducible refine DL.s_dit_tuple ?_) | (with_reducible refine DL.s_dit_list ?_) | (with_reducible refine DL.s_dit_dict ?_) | ((with_reducible refine DL.m_sz ?_ ?_); (· exact rfl)) | ((with_reducible refine DL.m_sz2 ?_ ?_); (· exact rfl)) | ((with_reducible refine DL.m_szs ?_ ?_); (· decide +kernel)) | (with_reducible refine DL.m_ty ?_) | ((with_reducible refine DL.m_ln ?_ ?_); (· exact rfl)) | ((with_reducible refine And.intro ?_ ?_); (· (first | with_reducible assumption | omega)))))
local macro_rules | `(tactic| walk_at "dx") => `(tactic| repeat (first | ((with_reducible apply DL.m_nm); (· exact rfl)) | (with_reducible refine DL.m_nx ?_) | ((with_reducible apply DL.ex_atI); (· (first | with_reducible assumption | exact rfl))) | (with_reducible refine DL.st DL.r_sortM ?_) | (with_reducible refine DL.st DL.r_sortS ?_) | (with_reducible refine DL.st DL.un_cons ?_) | (with_reducible refine DL.st DL.un_nil ?_) | (with_reducible refine DL.un_gh ?_) | (with_reducible refine DL.m_rt ?_) | (with_reducible refine DL.m_bk ?_) | (with_reducible refine DL.m_ct ?_) | (with_reducible refine DL.m_tr ?_) | (with_reducible refine DL.i_t ?_) | (with_reducible refine DL.i_f ?_) | (with_reducible refine DL.i_n ?_) | (with_reducible refine DL.m_tys ?_) | (with_reducible refine DL.m_tyl ?_) | (with_reducible refine DL.st DL.r_c ?_) | (with_reducible refine DL.st DL.r_par ?_) | (with_reducible refine DL.st DL.q_pr2 ?_) | (with_reducible refine DL.st DL.r_thru ?_) | (with_reducible refine DL.st DL.r_dic0 ?_) | (with_reducible refine DL.st DL.r_fmt ?_) | (with_reducible refine DL.st DL.r_join ?_) | (with_reducible refine DL.st DL.r_jnil ?_) | (with_reducible refine DL.st DL.r_jcons ?_) | (with_reducible refine DL.st DL.r_seqG ?_) | (with_reducible refine DL.st DL.r_raiseW ?_) | (with_reducible refine DL.st DX.r_tryMA ?_) | (with_reducible refine DL.st DX.r_raiseF ?_) | (with_reducible refine DL.st DX.r_methN ?_) | (with_reducible refine DL.st DL.r_tryAs ?_) | (with_reducible refine DL.st DL.q_fmtI ?_) | (with_reducible refine DL.st DL.q_fmtB ?_) | (with_reducible refine DL.st DL.q_fmtS ?_) | (with_reducible refine DL.st DL.r_cons ?_) | (with_reducible refine DL.st DL.r_nil ?_) | (with_reducible refine DL.st DL.r_op ?_) | (with_reducible refine DL.st DL.r_call ?_) | (with_reducible refine DL.st DL.r_cb ?_) | (with_reducible refine DL.st DL.r_seq ?_) | (with_reducible refine DL.st DL.r_set ?_) | (with_reducible refine DL.st DL.r_test ?_) | (with_reducible refine DL.st DL.r_tru ?_) | (with_reducible refine DL.st DL.z_ts ?_) | (with_reducible refine DL.st DL.q_bl ?_) | (with_reducible refine DL.st DL.r_if ?_) | (with_reducible refine DL.st DL.r_ret ?_) | (with_reducible refine DL.st DL.r_for ?_) | (with_reducible refine DL.st DL.r_next ?_) | (with_reducible refine DL.st DL.r_retN ?_) | (with_reducible refine DL.st DL.r_brk ?_) | (with_reducible refine DL.st DL.r_cnt ?_) | (with_reducible refine DL.st DL.r_drop ?_) | (with_reducible refine DL.st DL.r_asg ?_) | (with_reducible refine DL.st DL.r_gname ?_) | (with_reducible refine DL.st DL.r_gnil ?_) | (with_reducible refine DL.st DL.r_gcons ?_) | (with_reducible refine DL.st DL.r_gtup ?_) | (with_reducible refine DL.st DL.r_gsub ?_) | (with_reducible refine DL.st DL.r_and ?_) | (with_reducible refine DL.st DL.r_or ?_) | (with_reducible refine DL.st DL.r_not ?_) | (with_reducible refine DL.st DL.r_ife ?_) | (with_reducible refine DL.st DL.r_tup ?_) | (with_reducible refine DL.st DL.r_lst ?_) | (with_reducible refine DL.st DL.r_lstM ?_) | (with_reducible refine DL.st DL.r_bm ?_) | (with_reducible refine DL.st DL.r_fld ?_) | (with_reducible refine DL.st DL.r_chain ?_) | (with_reducible refine DL.st DL.r_orT ?_) | (with_reducible refine DL.st DL.r_andT ?_) | (with_reducible refine DL.st DL.r_notT ?_) | (with_reducible refine DL.st DL.r_neg ?_) | (with_reducible refine DL.st DL.r_sl ?_) | (with_reducible refine DL.st DL.r_nop ?_) | (with_reducible refine DL.st DL.r_part ?_) | (with_reducible refine DL.st DL.r_slL ?_) | (with_reducible refine DL.st DL.r_slT ?_) | (with_reducible refine DL.st DL.r_slS ?_) | (with_reducible refine DL.st DL.r_lc ?_) | (with_reducible refine DL.st DL.r_lcM ?_) | (with_reducible refine DL.st DL.r_iter ?_) | (with_reducible refine DL.st DL.r_rng1 ?_) | (with_reducible refine DL.st DL.r_rng2 ?_) | (with_reducible refine DL.st DL.z_ch ?_) | (with_reducible refine DL.st DL.z_pt ?_) | (with_reducible refine DL.st DL.z_itL ?_) | (with_reducible refine DL.st DL.z_itT ?_) | (with_reducible refine DL.st DL.z_itS ?_) | (with_reducible refine DL.st DL.z_itR ?_) | (with_reducible refine DL.st DL.z_rg1 ?_) | (with_reducible refine DL.st DL.z_rg2 ?_) | (with_reducible refine DL.st DL.r_disp ?_) | (with_reducible refine DL.st DL.r_pnil ?_) | (with_reducible refine DL.st DL.r_pcons ?_) | (with_reducible refine DL.st DL.o_addI ?_) | (with_reducible refine DL.st DL.o_addS ?_) | (with_reducible refine DL.st DL.o_addL ?_) | (with_reducible refine DL.st DL.o_addT ?_) | (with_reducible refine DL.st DL.o_sub ?_) | (with_reducible refine DL.st DL.o_mulI ?_) | (with_reducible refine DL.st DL.o_mulS ?_) | (with_reducible refine DL.st DL.o_mulL ?_) | (with_reducible refine DL.st DL.o_div ?_) | (with_reducible refine DL.st DL.o_divZ ?_) | (with_reducible refine DL.st DL.o_mod ?_) | (with_reducible refine DL.st DL.o_modZ ?_) | (with_reducible refine DL.st DL.o_pow ?_) | (with_reducible refine DL.st DL.o_lt ?_) | (with_reducible refine DL.st DL.o_le ?_) | (with_reducible refine DL.st DL.o_gt ?_) | (with_reducible refine DL.st DL.o_ge ?_) | (with_reducible refine DL.st DL.o_isN ?_) | (with_reducible refine DL.st DL.o_isB ?_) | (with_reducible refine DL.st DL.o_isnN ?_) | (with_reducible refine DL.st DL.o_isnB ?_) | (with_reducible refine DL.st DL.o_ixL ?_) | (with_reducible refine DL.st DL.o_ixT ?_) | (with_reducible refine DL.st DL.o_ixS ?_) | (with_reducible refine DL.st DL.o_ixR ?_) | (with_reducible refine DL.st DL.c_lenL ?_) | (with_reducible refine DL.st DL.c_lenT ?_) | (with_reducible refine DL.st DL.c_lenS ?_) | (with_reducible refine DL.st DL.c_lenR ?_) | (with_reducible refine DL.st DL.c_intI ?_) | (with_reducible refine DL.st DL.c_intB ?_) | (with_reducible refine DL.st DL.c_intS ?_) | (with_reducible refine DL.st DL.c_int2 ?_) | (with_reducible refine DL.st DL.c_strI ?_) | (with_reducible refine DL.st DL.c_strS ?_) | (with_reducible refine DL.st DL.c_abs ?_) | (with_reducible refine DL.st DL.c_max2 ?_) | (with_reducible refine DL.st DL.c_min2 ?_) | (with_reducible refine DL.st DL.q_non ?_) | (with_reducible refine DL.st DL.q_int ?_) | (with_reducible refine DL.st DL.q_str ?_) | (with_reducible refine DL.st DL.q_lst ?_) | (with_reducible refine DL.st DL.q_tup ?_) | (with_reducible refine DL.st DL.m_up ?_) | (with_reducible refine DL.st DL.m_low ?_) | (with_reducible refine DL.st DL.r_bind1 ?_) | (with_reducible refine DL.st DL.eq_ii ?_) | (with_reducible refine DL.st DL.eq_ss ?_) | (with_reducible refine DL.st DL.eq_bb ?_) | (with_reducible refine DL.st DL.eq_nn ?_) | (with_reducible refine DL.st DL.eq_ni ?_) | (with_reducible refine DL.st DL.eq_in ?_) | (with_reducible refine DL.st DL.ne_ii ?_) | (with_reducible refine DL.st DL.ne_ss ?_) | (with_reducible refine DL.st DL.r_make ?_) | (with_reducible refine DL.st DL.r_meth ?_) | (with_reducible refine DL.st DL.r_fldC ?_) | (with_reducible refine DL.st DL.r_fldS ?_) | (with_reducible refine DL.st DL.c_listL ?_) | (with_reducible refine DL.st DL.c_listT ?_) | (with_reducible refine DL.st DL.c_tupL ?_) | (with_reducible refine DL.st DL.c_tupT ?_) | (with_reducible refine DL.st DL.r_rev ?_) | (with_reducible refine DL.st DL.z_rvL ?_) | ((with_reducible apply DL.m_aug); (· exact rfl)) | (with_reducible refine DL.st DL.q_augI ?_) | (with_reducible refine DL.st DL.q_augS ?_) | (with_reducible refine DL.st DL.r_fmtR ?_) | (with_reducible refine DL.st DL.q_fmrS ?_) | (with_reducible refine DL.st DL.r_enum ?_) | (with_reducible refine DL.st DL.r_enumT ?_) | (with_reducible refine DL.st DL.z_enT ?_) | (with_reducible refine DL.st DL.z_enL ?_) | ((with_reducible apply DL.m_fobj); (· decide +kernel); (· exact rfl)) | ((with_reducible apply DL.m_mobj); (· decide +kernel)) | ((with_reducible apply DL.m_new); (· decide +kernel); (· exact rfl); (· exact rfl)) | (with_reducible refine DL.st DL.r_callN ?_) | (with_reducible refine DL.st DL.r_makeN ?_) | ((with_reducible apply DL.m_pkN); (· exact rfl); (· exact rfl); (· exact rfl)) | (with_reducible refine DL.s_int_int ?_) | (with_reducible refine DL.s_int_bool ?_) | (with_reducible refine DL.s_int_str ?_) | (with_reducible refine DL.s_int_tuple ?_) | (with_reducible refine DL.s_int_list ?_) | (with_reducible refine DL.s_int_dict ?_) | (with_reducible refine DL.s_bl_int ?_) | (with_reducible refine DL.s_bl_bool ?_) | (with_reducible refine DL.s_bl_str ?_) | (with_reducible refine DL.s_bl_tuple ?_) | (with_reducible refine DL.s_bl_list ?_) | (with_reducible refine DL.s_bl_dict ?_) | (with_reducible refine DL.s_str_int ?_) | (with_reducible refine DL.s_str_bool ?_) | (with_reducible refine DL.s_str_str ?_) | (with_reducible refine DL.s_str_tuple ?_) | (with_reducible refine DL.s_str_list ?_) | (with_reducible refine DL.s_str_dict ?_) | (with_reducible refine DL.s_tup_int ?_) | (with_reducible refine DL.s_tup_bool ?_) | (with_reducible refine DL.s_tup_str ?_) | (with_reducible refine DL.s_tup_tuple ?_) | (with_reducible refine DL.s_tup_list ?_) | (with_reducible refine DL.s_tup_dict ?_) | (with_reducible refine DL.s_lst_int ?_) | (with_reducible refine DL.s_lst_bool ?_) | (with_reducible refine DL.s_lst_str ?_) | (with_reducible refine DL.s_lst_tuple ?_) | (with_reducible refine DL.s_lst_list ?_) | (with_reducible refine DL.s_lst_dict ?_) | (with_reducible refine DL.s_non_int ?_) | (with_reducible refine DL.s_non_bool ?_) | (with_reducible refine DL.s_non_str ?_) | (with_reducible refine DL.s_non_tuple ?_) | (with_reducible refine DL.s_non_list ?_) | (with_reducible refine DL.s_non_dict ?_) | (with_reducible refine DL.s_dic_int ?_) | (with_reducible refine DL.s_dic_bool ?_) | (with_reducible refine DL.s_dic_str ?_) | (with_reducible refine DL.s_dic_tuple ?_) | (with_reducible refine DL.s_dic_list ?_) | (with_reducible refine DL.s_dic_dict ?_) | (with_reducible refine DL.s_dit_int ?_) | (with_reducible refine DL.s_dit_bool ?_) | (with_reducible refine DL.s_dit_str ?_) | (with_reducible refine DL.s_dit_tuple ?_) | (with_reducible refine DL.s_dit_list ?_) | (with_reducible refine DL.s_dit_dict ?_) | ((with_reducible refine DL.m_sz ?_ ?_); (· exact rfl)) | ((with_reducible refine DL.m_sz2 ?_ ?_); (· exact rfl)) | ((with_reducible refine DL.m_szs ?_ ?_); (· decide +kernel)) | (with_reducible refine DL.m_ty ?_) | ((with_reducible refine DL.m_ln ?_ ?_); (· exact rfl)) | ((with_reducible refine And.intro ?_ ?_); (· (first | with_reducible assumption | omega)))))
def sp__law_cell_at : DSp := sp2 fun x y G Q E => ∃ (ns : List Int) (i : Nat), x = .lst (ns.map D.int) ∧ y = .int i ∧ ∀ r : Int, Q (.int r) G
theorem rd__law_cell_at (K : PySem.W.Frag) (S : Sps) : ∀ ds G Q E, sp__law_cell_at ds G Q E → t__law_cell_at K S { nx := fun _ G' => GhV Q .non G', rt := GhV Q } (fun cls fs _ G' => E cls fs G') (dstart N__law_cell_at ds) G := by
  intro ds G Q E h
  obtain ⟨_, _, rfl, ns, i, rfl, rfl, q⟩ := sp2_of h
  unfold t__law_cell_at
  rw [show dstart N__law_cell_at [.lst (ns.map D.int), .int i] = [some (.lst (ns.map D.int)), some (.int i)] from rfl]
  walk_at "dl"
  by_cases hi : (i : Int) < ((ns.map D.int).length : Nat)
  · rw [decide_eq_true hi]
    walk_at "dl"
    obtain ⟨v, hv, hm⟩ := atI_in (l := ns.map D.int) (i := i) (by omega) hi
    obtain ⟨n, _, rfl⟩ := List.mem_map.mp hm
    exact ⟨_, hv, .done (q n)⟩
  · rw [decide_eq_false hi]
    walk_at "dl"
    exact .done (q 0)
theorem log9000 {i : Int} (h : 0 < i) (h2 : i < 2 ^ 200) : CDivW 0 i := ⟨h, by
  have h3 : i.natAbs < 2 ^ 200 := by omega
  have : i.natAbs.log2 < 200 := (Nat.log2_lt (by omega)).mpr h3
  omega⟩
/-! ### the draws -/
def DW (d : Addr) (k : Nat) (G : GS) : Prop := ∃ a b c : Int, G = [(d, .lst [.int a, .int b, .int c])] ∧ 0 ≤ b ∧ b < 2147483647 ∧ 0 ≤ c ∧ c ≤ k
theorem DW.le {d : Addr} {j k : Nat} {G : GS} (h : DW d j G) (l : j ≤ k) : DW d k G := by
  obtain ⟨a, b, c, e, h1, h2, h3, h4⟩ := h
  exact ⟨a, b, c, e, h1, h2, h3, by omega⟩
def sp__law_draws : DSp := sp1 fun x G Q E => ∃ i : Int, x = .int i ∧ G = [] ∧ ∀ d G', DW d 0 G' → Q (.ref d) G'
theorem rd__law_draws (K : PySem.W.Frag) (S : Sps) : ∀ ds G Q E, sp__law_draws ds G Q E → t__law_draws K S { nx := fun _ G' => GhV Q .non G', rt := GhV Q } (fun cls fs _ G' => E cls fs G') (dstart N__law_draws ds) G := by
  intro ds G Q E h
  obtain ⟨_, rfl, i, rfl, rfl, q⟩ := sp1_of h
  unfold t__law_draws
  rw [show dstart N__law_draws [.int i] = [some (.int i)] from rfl]
  walk_at "dw"
  refine ⟨⟨by decide, by decide, by decide⟩, ?_⟩
  walk_at "dw"
  refine ⟨.inr (.inr (by split <;> constructor <;> decide)), ?_⟩
  walk_at "dw"
  exact fun p hp => .done (q p _ ⟨_, _, 0, rfl, Int.emod_nonneg _ (by decide), Int.emod_lt_of_pos _ (by decide), by decide, by decide⟩)
def sp__law_one : DSp := sp2 fun x y G Q E => ∃ (d : Addr) (many : Int) (k : Nat), x = .ref d ∧ y = .int many ∧ 0 < many ∧ many < 2 ^ 200 ∧ DW d k G ∧ k ≤ 2 ^ 40 ∧ ∀ (r : Int) G', 0 ≤ r → r < many → DW d (k + 1) G' → Q (.int r) G'
theorem rd__law_one (K : PySem.W.Frag) (S : Sps) : ∀ ds G Q E, sp__law_one ds G Q E → t__law_one K S { nx := fun _ G' => GhV Q .non G', rt := GhV Q } (fun cls fs _ G' => E cls fs G') (dstart N__law_one ds) G := by
  intro ds G Q E h
  obtain ⟨_, _, rfl, d, many, k, rfl, rfl, hm, hm2, ⟨a, b, c, rfl, hb0, hb1, hc, hck⟩, hk, q⟩ := sp2_of h
  unfold t__law_one
  rw [show dstart N__law_one [.ref d, .int many] = [some (.ref d), some (.int many), none, none] from rfl]
  walk_at "dw"
  refine ⟨[.int a, .int b, .int c], .int a, by simp, rfl, ?_⟩
  walk_at "dw"
  refine i_c (fun ha => ?_) (fun ha => ?_)
  · walk_at "dw"
    refine ⟨[.int a, .int b, .int c], .int a, by simp, rfl, ?_⟩
    walk_at "dw"
    refine ⟨[.int a, .int b, .int c], .int a, by simp, rfl, ?_⟩
    walk_at "dw"
    refine ⟨⟨hm, (log9000 hm hm2).2⟩, ?_⟩
    walk_at "dw"
    refine ⟨d, 0, 0, [.int a, .int b, .int c], 0, rfl, rfl, rfl, rfl, ?_⟩
    walk_at "dw"
    exact .done (q _ _ (Int.emod_nonneg _ (by omega)) (Int.emod_lt_of_pos _ hm) ⟨_, b, c, rfl, hb0, hb1, hc, by omega⟩)
  · walk_at "dw"
    refine ⟨[.int a, .int b, .int c], .int c, by simp, rfl, ?_⟩
    walk_at "dw"
    refine ⟨d, 0, 2, [.int a, .int b, .int c], 2, rfl, rfl, rfl, rfl, ?_⟩
    walk_at "dw"
    refine ⟨_, .int b, List.mem_singleton.mpr rfl, rfl, ?_⟩
    walk_at "dw"
    refine ⟨_, .int (c + 1), List.mem_singleton.mpr rfl, rfl, ?_⟩
    walk_at "dw"
    have hk' : (k : Int) ≤ 2 ^ 40 := by exact_mod_cast hk
    refine ⟨.inr (.inl (by constructor <;> decide)), ?_⟩
    walk_at "dw"
    refine ⟨⟨by decide, by decide, by omega⟩, ?_⟩
    walk_at "dw"
    have m1 : 0 ≤ (b + 7919 * (c + 1) + 1) ^ (Int.toNat 5) % 2147483647 := Int.emod_nonneg _ (by decide)
    have m2 : (b + 7919 * (c + 1) + 1) ^ (Int.toNat 5) % 2147483647 < 2147483647 := Int.emod_lt_of_pos _ (by decide)
    generalize (b + 7919 * (c + 1) + 1) ^ (Int.toNat 5) % 2147483647 = m at m1 m2 ⊢
    refine ⟨⟨by decide, by decide⟩, ?_⟩
    walk_at "dw"
    refine ⟨_, .int (c + 1), List.mem_singleton.mpr rfl, rfl, ?_⟩
    walk_at "dw"
    refine ⟨.inr (.inl (by omega)), ?_⟩
    walk_at "dw"
    generalize m * (m / 1009 + 69621 + (c + 1)) = z
    have n1 : 0 ≤ z % 2147483629 := Int.emod_nonneg _ (by decide)
    have n2 : z % 2147483629 < 2147483629 := Int.emod_lt_of_pos _ (by decide)
    generalize z % 2147483629 = y at n1 n2 ⊢
    refine ⟨⟨by decide, by decide⟩, ?_⟩
    walk_at "dw"
    refine ⟨.inr (.inl (by omega)), ?_⟩
    walk_at "dw"
    exact .done (q _ _ (Int.emod_nonneg _ (by omega)) (Int.emod_lt_of_pos _ hm) ⟨a, b, c + 1, rfl, hb0, hb1, by omega, by omega⟩)
/-- one of a list: a still one, or a cell behind the draws -/
def sp__law_of : DSp := sp2 fun x y G Q E => ∃ (d : Addr) (xs : List D) (k : Nat) (c : Addr × Cell) (Gr : GS), x = .ref d ∧ (y = .lst xs ∨ ∃ p, y = .ref p ∧ (p, Cell.lst xs) ∈ Gr) ∧ xs ≠ [] ∧ xs.length < 2 ^ 60 ∧ G = c :: Gr ∧ DW d k [c] ∧ k ≤ 2 ^ 40 ∧ ∀ v c', v ∈ xs → DW d (k + 1) [c'] → Q v (c' :: Gr)
theorem DW.one {d : Addr} {k : Nat} {G : GS} (h : DW d k G) : ∃ c, G = [c] ∧ DW d k [c] := by
  obtain ⟨a, b, c, rfl, h⟩ := h
  exact ⟨_, rfl, a, b, c, rfl, h⟩
theorem rd__law_of (K : PySem.W.Frag) (S : Sps) (e1 : S.f__law_one = sp__law_one) : ∀ ds G Q E, sp__law_of ds G Q E → t__law_of K S { nx := fun _ G' => GhV Q .non G', rt := GhV Q } (fun cls fs _ G' => E cls fs G') (dstart N__law_of ds) G := by
  intro ds G Q E h
  obtain ⟨_, y, rfl, d, xs, k, c, Gr, rfl, hy, hne, hl, rfl, hd, hk, q⟩ := sp2_of h
  unfold t__law_of
  have h0 : 0 < xs.length := List.length_pos_iff.mpr hne
  rcases hy with rfl | ⟨p, rfl, hp⟩
  · rw [e1, show dstart N__law_of [.ref d, .lst xs] = [some (.ref d), some (.lst xs)] from rfl]
    walk_at "dw"
    refine run_1 ⟨d, _, k, rfl, rfl, by omega, by omega, hd, hk, fun r G' h1 h2 h3 => ?_⟩
    obtain ⟨c', rfl, h3⟩ := h3.one
    walk_at "dw"
    obtain ⟨v, hv, hm⟩ := atI_in h1 h2
    exact ⟨v, hv, .done (q v _ hm h3)⟩
  · rw [e1, show dstart N__law_of [.ref d, .ref p] = [some (.ref d), some (.ref p)] from rfl]
    walk_at "dw"
    refine ⟨xs, List.mem_cons_of_mem _ hp, ?_⟩
    walk_at "dw"
    refine run_1 ⟨d, _, k, rfl, rfl, by omega, by omega, hd, hk, fun r G' h1 h2 h3 => ?_⟩
    obtain ⟨c', rfl, h3⟩ := h3.one
    walk_at "dw"
    obtain ⟨v, hv, hm⟩ := atI_in h1 h2
    exact ⟨xs, v, List.mem_cons_of_mem _ hp, hv, .done (q v _ hm h3)⟩

end Pr
set_option Elab.async false
set_option linter.all false
set_option maxRecDepth 100000
set_option maxHeartbeats 4000000
namespace Pr
open PySem PyProof.Rows L2 DL DX
local macro_rules | `(tactic| walk_at "dl") => `(tactic| simp (config := {proj := false}) only [DL.n_nx, DL.n_rt, DL.n_bk, DL.n_ct, DL.eq_ii, DL.eq_ss, DL.eq_bb, DL.eq_nn, DL.eq_ni, DL.eq_in, DL.ne_ii, DL.ne_ss, DL.r_seq, DL.r_for, DL.r_if, DL.r_next, DL.r_ret, DL.r_retN, DL.r_brk, DL.r_cnt, DL.r_drop, DL.r_set, DL.r_asg, DL.r_gname, DL.r_gnil, DL.r_gcons, DL.r_gtup, DL.r_gsub, DL.r_name, DL.r_at0, DL.r_atS, DL.r_c, DL.r_op, DL.r_test, DL.r_tru, DL.r_and, DL.r_or, DL.r_not, DL.r_ife, DL.r_nil, DL.r_cons, DL.r_tup, DL.r_lst, DL.r_lstM, DL.r_cb, DL.r_call, DL.r_bm, DL.r_fld, DL.r_chain, DL.r_orT, DL.r_andT, DL.r_notT, DL.r_neg, DL.r_sl, DL.r_nop, DL.r_part, DL.r_slL, DL.r_slT, DL.r_slS, DL.r_lc, DL.r_lcM, DL.r_iter, DL.r_rng1, DL.r_rng2, DL.z_ch, DL.z_ts, DL.z_pt, DL.z_itL, DL.z_itT, DL.z_itS, DL.z_itR, DL.z_rg1, DL.z_rg2, DL.z_iT, DL.z_iF, DL.z_ft, DL.z_tf, DL.z_nt, DL.z_nf, DL.r_disp, DL.r_pnil, DL.r_pcons, DL.o_addI, DL.o_addS, DL.o_addL, DL.o_addT, DL.o_sub, DL.o_mulI, DL.o_mulS, DL.o_mulL, DL.o_div, DL.o_divZ, DL.o_mod, DL.o_modZ, DL.o_pow, DL.o_lt, DL.o_le, DL.o_gt, DL.o_ge, DL.o_isN, DL.o_isB, DL.o_isnN, DL.o_isnB, DL.o_ixL, DL.o_ixT, DL.o_ixS, DL.o_ixR, DL.c_lenL, DL.c_lenT, DL.c_lenS, DL.c_lenR, DL.c_intI, DL.c_intB, DL.c_intS, DL.c_int2, DL.c_strI, DL.c_strS, DL.c_abs, DL.c_max2, DL.c_min2, DL.q_non, DL.q_bl, DL.q_int, DL.q_str, DL.q_lst, DL.q_tup, DL.tym_s, DL.tym_l, DL.m_up, DL.m_low, DL.k_int_int, DL.k_int_bool, DL.k_int_str, DL.k_int_tuple, DL.k_int_list, DL.k_int_dict, DL.k_bl_int, DL.k_bl_bool, DL.k_bl_str, DL.k_bl_tuple, DL.k_bl_list, DL.k_bl_dict, DL.k_str_int, DL.k_str_bool, DL.k_str_str, DL.k_str_tuple, DL.k_str_list, DL.k_str_dict, DL.k_tup_int, DL.k_tup_bool, DL.k_tup_str, DL.k_tup_tuple, DL.k_tup_list, DL.k_tup_dict, DL.k_lst_int, DL.k_lst_bool, DL.k_lst_str, DL.k_lst_tuple, DL.k_lst_list, DL.k_lst_dict, DL.k_non_int, DL.k_non_bool, DL.k_non_str, DL.k_non_tuple, DL.k_non_list, DL.k_non_dict, DL.k_dic_int, DL.k_dic_bool, DL.k_dic_str, DL.k_dic_tuple, DL.k_dic_list, DL.k_dic_dict, DL.k_dit_int, DL.k_dit_bool, DL.k_dit_str, DL.k_dit_tuple, DL.k_dit_list, DL.k_dit_dict, DL.ls0, DL.lsS, DL.la0, DL.laS, DL.r_bind1, DL.r_wipe0, DL.r_wipeS, List.append_nil, true_and])
local macro_rules | `(tactic| walk_at "dw") => `(tactic| repeat (first | ((with_reducible apply DL.m_nm); (· exact rfl)) | (with_reducible refine DL.m_nx ?_) | (with_reducible refine DL.st DL.r_sortM ?_) | (with_reducible refine DL.st DL.r_sortS ?_) | (with_reducible refine DL.st DL.un_cons ?_) | (with_reducible refine DL.st DL.un_nil ?_) | (with_reducible refine DL.un_gh ?_) | (with_reducible refine DL.m_rt ?_) | (with_reducible refine DL.m_bk ?_) | (with_reducible refine DL.m_ct ?_) | (with_reducible refine DL.m_tr ?_) | (with_reducible refine DL.i_t ?_) | (with_reducible refine DL.i_f ?_) | (with_reducible refine DL.i_n ?_) | (with_reducible refine DL.m_tys ?_) | (with_reducible refine DL.m_tyl ?_) | (with_reducible refine DL.st DL.r_c ?_) | (with_reducible refine DL.st DL.r_par ?_) | (with_reducible refine DL.st DL.q_pr2 ?_) | (with_reducible refine DL.st DL.r_thru ?_) | (with_reducible refine DL.st DL.r_dic0 ?_) | (with_reducible refine DL.st DL.r_fmt ?_) | (with_reducible refine DL.st DL.r_join ?_) | (with_reducible refine DL.st DL.r_jnil ?_) | (with_reducible refine DL.st DL.r_jcons ?_) | (with_reducible refine DL.st DL.r_seqG ?_) | (with_reducible refine DL.st DL.r_raiseW ?_) | (with_reducible refine DL.st DX.r_tryMA ?_) | (with_reducible refine DL.st DX.r_raiseF ?_) | (with_reducible refine DL.st DX.r_methN ?_) | (with_reducible refine DL.st DL.r_tryAs ?_) | (with_reducible refine DL.st DL.q_fmtI ?_) | (with_reducible refine DL.st DL.q_fmtB ?_) | (with_reducible refine DL.st DL.q_fmtS ?_) | (with_reducible refine DL.st DL.r_cons ?_) | (with_reducible refine DL.st DL.r_nil ?_) | (with_reducible refine DL.st DL.r_op ?_) | (with_reducible refine DL.st DL.r_call ?_) | (with_reducible refine DL.st DL.r_cb ?_) | (with_reducible refine DL.st DL.r_seq ?_) | (with_reducible refine DL.st DL.r_set ?_) | (with_reducible refine DL.st DL.r_test ?_) | (with_reducible refine DL.st DL.r_tru ?_) | (with_reducible refine DL.st DL.z_ts ?_) | (with_reducible refine DL.st DL.q_bl ?_) | (with_reducible refine DL.st DL.r_if ?_) | (with_reducible refine DL.st DL.r_ret ?_) | (with_reducible refine DL.st DL.r_for ?_) | (with_reducible refine DL.st DL.r_next ?_) | (with_reducible refine DL.st DL.r_retN ?_) | (with_reducible refine DL.st DL.r_brk ?_) | (with_reducible refine DL.st DL.r_cnt ?_) | (with_reducible refine DL.st DL.r_drop ?_) | (with_reducible refine DL.st DL.r_asg ?_) | (with_reducible refine DL.st DL.r_gname ?_) | (with_reducible refine DL.st DL.r_gnil ?_) | (with_reducible refine DL.st DL.r_gcons ?_) | (with_reducible refine DL.st DL.r_gtup ?_) | (with_reducible refine DL.st DL.r_gsub ?_) | (with_reducible refine DL.st DL.r_and ?_) | (with_reducible refine DL.st DL.r_or ?_) | (with_reducible refine DL.st DL.r_not ?_) | (with_reducible refine DL.st DL.r_ife ?_) | (with_reducible refine DL.st DL.r_tup ?_) | (with_reducible refine DL.st DL.r_lst ?_) | (with_reducible refine DL.st DL.r_lstM ?_) | (with_reducible refine DL.st DL.r_bm ?_) | (with_reducible refine DL.st DL.r_fld ?_) | (with_reducible refine DL.st DL.r_chain ?_) | (with_reducible refine DL.st DL.r_orT ?_) | (with_reducible refine DL.st DL.r_andT ?_) | (with_reducible refine DL.st DL.r_notT ?_) | (with_reducible refine DL.st DL.r_neg ?_) | (with_reducible refine DL.st DL.r_sl ?_) | (with_reducible refine DL.st DL.r_nop ?_) | (with_reducible refine DL.st DL.r_part ?_) | (with_reducible refine DL.st DL.r_slL ?_) | (with_reducible refine DL.st DL.r_slT ?_) | (with_reducible refine DL.st DL.r_slS ?_) | (with_reducible refine DL.st DL.r_lc ?_) | (with_reducible refine DL.st DL.r_lcM ?_) | (with_reducible refine DL.st DL.r_iter ?_) | (with_reducible refine DL.st DL.r_rng1 ?_) | (with_reducible refine DL.st DL.r_rng2 ?_) | (with_reducible refine DL.st DL.z_ch ?_) | (with_reducible refine DL.st DL.z_pt ?_) | (with_reducible refine DL.st DL.z_itL ?_) | (with_reducible refine DL.st DL.z_itT ?_) | (with_reducible refine DL.st DL.z_itS ?_) | (with_reducible refine DL.st DL.z_itR ?_) | (with_reducible refine DL.st DL.z_rg1 ?_) | (with_reducible refine DL.st DL.z_rg2 ?_) | (with_reducible refine DL.st DL.r_disp ?_) | (with_reducible refine DL.st DL.r_pnil ?_) | (with_reducible refine DL.st DL.r_pcons ?_) | (with_reducible refine DL.st DL.o_addI ?_) | (with_reducible refine DL.st DL.o_addS ?_) | (with_reducible refine DL.st DL.o_addL ?_) | (with_reducible refine DL.st DL.o_addT ?_) | (with_reducible refine DL.st DL.o_sub ?_) | (with_reducible refine DL.st DL.o_mulI ?_) | (with_reducible refine DL.st DL.o_mulS ?_) | (with_reducible refine DL.st DL.o_mulL ?_) | (with_reducible refine DL.st DL.o_div ?_) | (with_reducible refine DL.st DL.o_divZ ?_) | (with_reducible refine DL.st DL.o_mod ?_) | (with_reducible refine DL.st DL.o_modZ ?_) | (with_reducible refine DL.st DL.o_pow ?_) | (with_reducible refine DL.st DL.o_lt ?_) | (with_reducible refine DL.st DL.o_le ?_) | (with_reducible refine DL.st DL.o_gt ?_) | (with_reducible refine DL.st DL.o_ge ?_) | (with_reducible refine DL.st DL.o_isN ?_) | (with_reducible refine DL.st DL.o_isB ?_) | (with_reducible refine DL.st DL.o_isnN ?_) | (with_reducible refine DL.st DL.o_isnB ?_) | (with_reducible refine DL.st DL.o_ixL ?_) | (with_reducible refine DL.st DL.o_ixT ?_) | (with_reducible refine DL.st DL.o_ixS ?_) | (with_reducible refine DL.st DL.o_ixR ?_) | (with_reducible refine DL.st DL.c_lenL ?_) | (with_reducible refine DL.st DL.c_lenT ?_) | (with_reducible refine DL.st DL.c_lenS ?_) | (with_reducible refine DL.st DL.c_lenR ?_) | (with_reducible refine DL.st DL.c_intI ?_) | (with_reducible refine DL.st DL.c_intB ?_) | (with_reducible refine DL.st DL.c_intS ?_) | (with_reducible refine DL.st DL.c_int2 ?_) | (with_reducible refine DL.st DL.c_strI ?_) | (with_reducible refine DL.st DL.c_strS ?_) | (with_reducible refine DL.st DL.c_abs ?_) | (with_reducible refine DL.st DL.c_max2 ?_) | (with_reducible refine DL.st DL.c_min2 ?_) | (with_reducible refine DL.st DL.q_non ?_) | (with_reducible refine DL.st DL.q_int ?_) | (with_reducible refine DL.st DL.q_str ?_) | (with_reducible refine DL.st DL.q_lst ?_) | (with_reducible refine DL.st DL.q_tup ?_) | (with_reducible refine DL.st DL.m_up ?_) | (with_reducible refine DL.st DL.m_low ?_) | (with_reducible refine DL.st DL.r_bind1 ?_) | (with_reducible refine DL.st DL.eq_ii ?_) | (with_reducible refine DL.st DL.eq_ss ?_) | (with_reducible refine DL.st DL.eq_bb ?_) | (with_reducible refine DL.st DL.eq_nn ?_) | (with_reducible refine DL.st DL.eq_ni ?_) | (with_reducible refine DL.st DL.eq_in ?_) | (with_reducible refine DL.st DL.ne_ii ?_) | (with_reducible refine DL.st DL.ne_ss ?_) | (with_reducible refine DL.st DL.r_make ?_) | (with_reducible refine DL.st DL.r_meth ?_) | (with_reducible refine DL.st DL.r_fldC ?_) | (with_reducible refine DL.st DL.r_fldS ?_) | (with_reducible refine DL.st DL.c_listL ?_) | (with_reducible refine DL.st DL.c_listT ?_) | (with_reducible refine DL.st DL.c_tupL ?_) | (with_reducible refine DL.st DL.c_tupT ?_) | (with_reducible refine DL.st DL.r_rev ?_) | (with_reducible refine DL.st DL.z_rvL ?_) | ((with_reducible apply DL.m_aug); (· exact rfl)) | (with_reducible refine DL.st DL.q_augI ?_) | (with_reducible refine DL.st DL.q_augS ?_) | (with_reducible refine DL.st DL.r_fmtR ?_) | (with_reducible refine DL.st DL.q_fmrS ?_) | (with_reducible refine DL.st DL.r_enum ?_) | (with_reducible refine DL.st DL.r_enumT ?_) | (with_reducible refine DL.st DL.z_enT ?_) | (with_reducible refine DL.st DL.z_enL ?_) | ((with_reducible apply DL.m_fobj); (· decide +kernel); (· exact rfl)) | ((with_reducible apply DL.m_mobj); (· decide +kernel)) | ((with_reducible apply DL.m_new); (· decide +kernel); (· exact rfl); (· exact rfl)) | (with_reducible refine DL.st DL.r_callN ?_) | (with_reducible refine DL.st DL.r_makeN ?_) | ((with_reducible apply DL.m_pkN); (· exact rfl); (· exact rfl); (· exact rfl)) | (with_reducible refine DL.s_int_int ?_) | (with_reducible refine DL.s_int_bool ?_) | (with_reducible refine DL.s_int_str ?_) | (with_reducible refine DL.s_int_tuple ?_) | (with_reducible refine DL.s_int_list ?_) | (with_reducible refine DL.s_int_dict ?_) | (with_reducible refine DL.s_bl_int ?_) | (with_reducible refine DL.s_bl_bool ?_) | (with_reducible refine DL.s_bl_str ?_) | (with_reducible refine DL.s_bl_tuple ?_) | (with_reducible refine DL.s_bl_list ?_) | (with_reducible refine DL.s_bl_dict ?_) | (with_reducible refine DL.s_str_int ?_) | (with_reducible refine DL.s_str_bool ?_) | (with_reducible refine DL.s_str_str ?_) | (with_reducible refine DL.s_str_tuple ?_) | (with_reducible refine DL.s_str_list ?_) | (with_reducible refine DL.s_str_dict ?_) | (with_reducible refine DL.s_tup_int ?_) | (with_reducible refine DL.s_tup_bool ?_) | (with_reducible refine DL.s_tup_str ?_) | (with_reducible refine DL.s_tup_tuple ?_) | (with_reducible refine DL.s_tup_list ?_) | (with_reducible refine DL.s_tup_dict ?_) | (with_reducible refine DL.s_lst_int ?_) | (with_reducible refine DL.s_lst_bool ?_) | (with_reducible refine DL.s_lst_str ?_) | (with_reducible refine DL.s_lst_tuple ?_) | (with_reducible refine DL.s_lst_list ?_) | (with_reducible refine DL.s_lst_dict ?_) | (with_reducible refine DL.s_non_int ?_) | (with_reducible refine DL.s_non_bool ?_) | (with_reducible refine DL.s_non_str ?_) | (with_reducible refine DL.s_non_tuple ?_) | (with_reducible refine DL.s_non_list ?_) | (with_reducible refine DL.s_non_dict ?_) | (with_reducible refine DL.s_dic_int ?_) | (with_reducible refine DL.s_dic_bool ?_) | (with_reducible refine DL.s_dic_str ?_) | (with_reducible refine DL.s_dic_tuple ?_) | (with_reducible refine DL.s_dic_list ?_) | (with_reducible refine DL.s_dic_dict ?_) | (with_reducible refine DL.s_dit_int ?_) | (with_reducible refine DL.s_dit_bool ?_) | (with_reducible refine DL.s_dit_str ?_) | (with_reducible refine DL.s_dit_tuple ?_) | (with_reducible refine DL.s_dit_list ?_) | (with_reducible refine DL.s_dit_dict ?_) | ((with_reducible refine DL.m_sz ?_ ?_); (· exact rfl)) | ((with_reducible refine DL.m_sz2 ?_ ?_); (· exact rfl)) | ((with_reducible refine DL.m_szs ?_ ?_); (· decide +kernel)) | (with_reducible refine DL.m_ty ?_) | ((with_reducible refine DL.m_ln ?_ ?_); (· exact rfl)) | ((with_reducible refine And.intro ?_ ?_); (· (first | with_reducible assumption | omega)))))
local macro_rules | `(tactic| walk_at "dx") => `(tactic| repeat (first | ((with_reducible apply DL.m_nm); (· exact rfl)) | (with_reducible refine DL.m_nx ?_) | ((with_reducible apply DL.ex_atI); (· (first | with_reducible assumption | exact rfl))) | (with_reducible refine DL.st DL.r_sortM ?_) | (with_reducible refine DL.st DL.r_sortS ?_) | (with_reducible refine DL.st DL.un_cons ?_) | (with_reducible refine DL.st DL.un_nil ?_) | (with_reducible refine DL.un_gh ?_) | (with_reducible refine DL.m_rt ?_) | (with_reducible refine DL.m_bk ?_) | (with_reducible refine DL.m_ct ?_) | (with_reducible refine DL.m_tr ?_) | (with_reducible refine DL.i_t ?_) | (with_reducible refine DL.i_f ?_) | (with_reducible refine DL.i_n ?_) | (with_reducible refine DL.m_tys ?_) | (with_reducible refine DL.m_tyl ?_) | (with_reducible refine DL.st DL.r_c ?_) | (with_reducible refine DL.st DL.r_par ?_) | (with_reducible refine DL.st DL.q_pr2 ?_) | (with_reducible refine DL.st DL.r_thru ?_) | (with_reducible refine DL.st DL.r_dic0 ?_) | (with_reducible refine DL.st DL.r_fmt ?_) | (with_reducible refine DL.st DL.r_join ?_) | (with_reducible refine DL.st DL.r_jnil ?_) | (with_reducible refine DL.st DL.r_jcons ?_) | (with_reducible refine DL.st DL.r_seqG ?_) | (with_reducible refine DL.st DL.r_raiseW ?_) | (with_reducible refine DL.st DX.r_tryMA ?_) | (with_reducible refine DL.st DX.r_raiseF ?_) | (with_reducible refine DL.st DX.r_methN ?_) | (with_reducible refine DL.st DL.r_tryAs ?_) | (with_reducible refine DL.st DL.q_fmtI ?_) | (with_reducible refine DL.st DL.q_fmtB ?_) | (with_reducible refine DL.st DL.q_fmtS ?_) | (with_reducible refine DL.st DL.r_cons ?_) | (with_reducible refine DL.st DL.r_nil ?_) | (with_reducible refine DL.st DL.r_op ?_) | (with_reducible refine DL.st DL.r_call ?_) | (with_reducible refine DL.st DL.r_cb ?_) | (with_reducible refine DL.st DL.r_seq ?_) | (with_reducible refine DL.st DL.r_set ?_) | (with_reducible refine DL.st DL.r_test ?_) | (with_reducible refine DL.st DL.r_tru ?_) | (with_reducible refine DL.st DL.z_ts ?_) | (with_reducible refine DL.st DL.q_bl ?_) | (with_reducible refine DL.st DL.r_if ?_) | (with_reducible refine DL.st DL.r_ret ?_) | (with_reducible refine DL.st DL.r_for ?_) | (with_reducible refine DL.st DL.r_next ?_) | (with_reducible refine DL.st DL.r_retN ?_) | (with_reducible refine DL.st DL.r_brk ?_) | (with_reducible refine DL.st DL.r_cnt ?_) | (with_reducible refine DL.st DL.r_drop ?_) | (with_reducible refine DL.st DL.r_asg ?_) | (with_reducible refine DL.st DL.r_gname ?_) | (with_reducible refine DL.st DL.r_gnil ?_) | (with_reducible refine DL.st DL.r_gcons ?_) | (with_reducible refine DL.st DL.r_gtup ?_) | (with_reducible refine DL.st DL.r_gsub ?_) | (with_reducible refine DL.st DL.r_and ?_) | (with_reducible refine DL.st DL.r_or ?_) | (with_reducible refine DL.st DL.r_not ?_) | (with_reducible refine DL.st DL.r_ife ?_) | (with_reducible refine DL.st DL.r_tup ?_) | (with_reducible refine DL.st DL.r_lst ?_) | (with_reducible refine DL.st DL.r_lstM ?_) | (with_reducible refine DL.st DL.r_bm ?_) | (with_reducible refine DL.st DL.r_fld ?_) | (with_reducible refine DL.st DL.r_chain ?_) | (with_reducible refine DL.st DL.r_orT ?_) | (with_reducible refine DL.st DL.r_andT ?_) | (with_reducible refine DL.st DL.r_notT ?_) | (with_reducible refine DL.st DL.r_neg ?_) | (with_reducible refine DL.st DL.r_sl ?_) | (with_reducible refine DL.st DL.r_nop ?_) | (with_reducible refine DL.st DL.r_part ?_) | (with_reducible refine DL.st DL.r_slL ?_) | (with_reducible refine DL.st DL.r_slT ?_) | (with_reducible refine DL.st DL.r_slS ?_) | (with_reducible refine DL.st DL.r_lc ?_) | (with_reducible refine DL.st DL.r_lcM ?_) | (with_reducible refine DL.st DL.r_iter ?_) | (with_reducible refine DL.st DL.r_rng1 ?_) | (with_reducible refine DL.st DL.r_rng2 ?_) | (with_reducible refine DL.st DL.z_ch ?_) | (with_reducible refine DL.st DL.z_pt ?_) | (with_reducible refine DL.st DL.z_itL ?_) | (with_reducible refine DL.st DL.z_itT ?_) | (with_reducible refine DL.st DL.z_itS ?_) | (with_reducible refine DL.st DL.z_itR ?_) | (with_reducible refine DL.st DL.z_rg1 ?_) | (with_reducible refine DL.st DL.z_rg2 ?_) | (with_reducible refine DL.st DL.r_disp ?_) | (with_reducible refine DL.st DL.r_pnil ?_) | (with_reducible refine DL.st DL.r_pcons ?_) | (with_reducible refine DL.st DL.o_addI ?_) | (with_reducible refine DL.st DL.o_addS ?_) | (with_reducible refine DL.st DL.o_addL ?_) | (with_reducible refine DL.st DL.o_addT ?_) | (with_reducible refine DL.st DL.o_sub ?_) | (with_reducible refine DL.st DL.o_mulI ?_) | (with_reducible refine DL.st DL.o_mulS ?_) | (with_reducible refine DL.st DL.o_mulL ?_) | (with_reducible refine DL.st DL.o_div ?_) | (with_reducible refine DL.st DL.o_divZ ?_) | (with_reducible refine DL.st DL.o_mod ?_) | (with_reducible refine DL.st DL.o_modZ ?_) | (with_reducible refine DL.st DL.o_pow ?_) | (with_reducible refine DL.st DL.o_lt ?_) | (with_reducible refine DL.st DL.o_le ?_) | (with_reducible refine DL.st DL.o_gt ?_) | (with_reducible refine DL.st DL.o_ge ?_) | (with_reducible refine DL.st DL.o_isN ?_) | (with_reducible refine DL.st DL.o_isB ?_) | (with_reducible refine DL.st DL.o_isnN ?_) | (with_reducible refine DL.st DL.o_isnB ?_) | (with_reducible refine DL.st DL.o_ixL ?_) | (with_reducible refine DL.st DL.o_ixT ?_) | (with_reducible refine DL.st DL.o_ixS ?_) | (with_reducible refine DL.st DL.o_ixR ?_) | (with_reducible refine DL.st DL.c_lenL ?_) | (with_reducible refine DL.st DL.c_lenT ?_) | (with_reducible refine DL.st DL.c_lenS ?_) | (with_reducible refine DL.st DL.c_lenR ?_) | (with_reducible refine DL.st DL.c_intI ?_) | (with_reducible refine DL.st DL.c_intB ?_) | (with_reducible refine DL.st DL.c_intS ?_) | (with_reducible refine DL.st DL.c_int2 ?_) | (with_reducible refine DL.st DL.c_strI ?_) | (with_reducible refine DL.st DL.c_strS ?_) | (with_reducible refine DL.st DL.c_abs ?_) | (with_reducible refine DL.st DL.c_max2 ?_) | (with_reducible refine DL.st DL.c_min2 ?_) | (with_reducible refine DL.st DL.q_non ?_) | (with_reducible refine DL.st DL.q_int ?_) | (with_reducible refine DL.st DL.q_str ?_) | (with_reducible refine DL.st DL.q_lst ?_) | (with_reducible refine DL.st DL.q_tup ?_) | (with_reducible refine DL.st DL.m_up ?_) | (with_reducible refine DL.st DL.m_low ?_) | (with_reducible refine DL.st DL.r_bind1 ?_) | (with_reducible refine DL.st DL.eq_ii ?_) | (with_reducible refine DL.st DL.eq_ss ?_) | (with_reducible refine DL.st DL.eq_bb ?_) | (with_reducible refine DL.st DL.eq_nn ?_) | (with_reducible refine DL.st DL.eq_ni ?_) | (with_reducible refine DL.st DL.eq_in ?_) | (with_reducible refine DL.st DL.ne_ii ?_) | (with_reducible refine DL.st DL.ne_ss ?_) | (with_reducible refine DL.st DL.r_make ?_) | (with_reducible refine DL.st DL.r_meth ?_) | (with_reducible refine DL.st DL.r_fldC ?_) | (with_reducible refine DL.st DL.r_fldS ?_) | (with_reducible refine DL.st DL.c_listL ?_) | (with_reducible refine DL.st DL.c_listT ?_) | (with_reducible refine DL.st DL.c_tupL ?_) | (with_reducible refine DL.st DL.c_tupT ?_) | (with_reducible refine DL.st DL.r_rev ?_) | (with_reducible refine DL.st DL.z_rvL ?_) | ((with_reducible apply DL.m_aug); (· exact rfl)) | (with_reducible refine DL.st DL.q_augI ?_) | (with_reducible refine DL.st DL.q_augS ?_) | (with_reducible refine DL.st DL.r_fmtR ?_) | (with_reducible refine DL.st DL.q_fmrS ?_) | (with_reducible refine DL.st DL.r_enum ?_) | (with_reducible refine DL.st DL.r_enumT ?_) | (with_reducible refine DL.st DL.z_enT ?_) | (with_reducible refine DL.st DL.z_enL ?_) | ((with_reducible apply DL.m_fobj); (· decide +kernel); (· exact rfl)) | ((with_reducible apply DL.m_mobj); (· decide +kernel)) | ((with_reducible apply DL.m_new); (· decide +kernel); (· exact rfl); (· exact rfl)) | (with_reducible refine DL.st DL.r_callN ?_) | (with_reducible refine DL.st DL.r_makeN ?_) | ((with_reducible apply DL.m_pkN); (· exact rfl); (· exact rfl); (· exact rfl)) | (with_reducible refine DL.s_int_int ?_) | (with_reducible refine DL.s_int_bool ?_) | (with_reducible refine DL.s_int_str ?_) | (with_reducible refine DL.s_int_tuple ?_) | (with_reducible refine DL.s_int_list ?_) | (with_reducible refine DL.s_int_dict ?_) | (with_reducible refine DL.s_bl_int ?_) | (with_reducible refine DL.s_bl_bool ?_) | (with_reducible refine DL.s_bl_str ?_) | (with_reducible refine DL.s_bl_tuple ?_) | (with_reducible refine DL.s_bl_list ?_) | (with_reducible refine DL.s_bl_dict ?_) | (with_reducible refine DL.s_str_int ?_) | (with_reducible refine DL.s_str_bool ?_) | (with_reducible refine DL.s_str_str ?_) | (with_reducible refine DL.s_str_tuple ?_) | (with_reducible refine DL.s_str_list ?_) | (with_reducible refine DL.s_str_dict ?_) | (with_reducible refine DL.s_tup_int ?_) | (with_reducible refine DL.s_tup_bool ?_) | (with_reducible refine DL.s_tup_str ?_) | (with_reducible refine DL.s_tup_tuple ?_) | (with_reducible refine DL.s_tup_list ?_) | (with_reducible refine DL.s_tup_dict ?_) | (with_reducible refine DL.s_lst_int ?_) | (with_reducible refine DL.s_lst_bool ?_) | (with_reducible refine DL.s_lst_str ?_) | (with_reducible refine DL.s_lst_tuple ?_) | (with_reducible refine DL.s_lst_list ?_) | (with_reducible refine DL.s_lst_dict ?_) | (with_reducible refine DL.s_non_int ?_) | (with_reducible refine DL.s_non_bool ?_) | (with_reducible refine DL.s_non_str ?_) | (with_reducible refine DL.s_non_tuple ?_) | (with_reducible refine DL.s_non_list ?_) | (with_reducible refine DL.s_non_dict ?_) | (with_reducible refine DL.s_dic_int ?_) | (with_reducible refine DL.s_dic_bool ?_) | (with_reducible refine DL.s_dic_str ?_) | (with_reducible refine DL.s_dic_tuple ?_) | (with_reducible refine DL.s_dic_list ?_) | (with_reducible refine DL.s_dic_dict ?_) | (with_reducible refine DL.s_dit_int ?_) | (with_reducible refine DL.s_dit_bool ?_) | (with_reducible refine DL.s_dit_str ?_) | (with_reducible refine DL.s_dit_tuple ?_) | (with_reducible refine DL.s_dit_list ?_) | (with_reducible refine DL.s_dit_dict ?_) | ((with_reducible refine DL.m_sz ?_ ?_); (· exact rfl)) | ((with_reducible refine DL.m_sz2 ?_ ?_); (· exact rfl)) | ((with_reducible refine DL.m_szs ?_ ?_); (· decide +kernel)) | (with_reducible refine DL.m_ty ?_) | ((with_reducible refine DL.m_ln ?_ ?_); (· exact rfl)) | ((with_reducible refine And.intro ?_ ?_); (· (first | with_reducible assumption | omega)))))
theorem rng_get {a : Int} {n k : Nat} {d : D} (h : (rngD a n)[k]? = some d) : k < n ∧ d = .int (a + (k : Nat)) := by
  unfold rngD at h
  rw [List.getElem?_map, Option.map_eq_some_iff] at h
  obtain ⟨j, h1, rfl⟩ := h
  have h2 := List.getElem?_eq_some_iff.mp h1
  obtain ⟨h3, h4⟩ := h2
  simp at h3 h4
  exact ⟨h3, by rw [← h4]⟩
theorem rng_len {a : Int} {n : Nat} : (rngD a n).length = n := by unfold rngD; simp
theorem let_lt {c : Nat} (h : c ∈ LET.cps.toList) : c < 128 := by
  have e : (LET.cps.toList.all fun c => decide (c < 128)) = true := by decide +kernel
  exact of_decide_eq_true (List.all_eq_true.mp e c h)
theorem name_of {z : Str} (h1 : 1 ≤ z.length) (h2 : z.length ≤ 8) (h : ∀ c ∈ z.cps.toList, c ∈ LET.cps.toList) : isName (.str z) = true ∧ Asc 100 z := by
  refine ⟨?_, by omega, fun c hc => let_lt (h c hc)⟩
  show ((decide ((1 : Int) ≤ z.length) && decide ((z.length : Int) ≤ 8)) && allIn z LET) = true
  rw [decide_eq_true (show (1 : Int) ≤ z.length by omega), decide_eq_true (show (z.length : Int) ≤ 8 by omega)]
  unfold allIn
  simp only [Bool.and_self, Bool.true_and, List.all_eq_true]
  exact fun c hc => decide_eq_true (h c hc)
/-- a text of drawn signs of y -/
theorem drawnW {vs : List Nat} {i0 : Nat} {te : DTE} {σ : Ev} {n : Nat} {d : Addr} {k : Nat} {G : GS} {y : Str} {Z : List D → GS → Prop} {ok : GS → Prop} (hok : ∀ G, ok G) (hn : n ≤ 1000) (hk : k ≤ 2 ^ 31) (hd : DW d k G)
    (ht : ∀ (j : Int) G (Q : DK) (l : Nat), l ≤ 2 ^ 32 → DW d l G → (∀ c G', c ∈ y.cps.toList → DW d (l + 1) G' → Q (.str ⟨#[c]⟩) G') → te ((wipeD σ vs).set i0 (some (.int j))) G Q dX0)
    (hz : ∀ (cs : List Nat) G', cs.length = n → (∀ c ∈ cs, c ∈ y.cps.toList) → DW d (k + n) G' → Z (cs.map fun c => D.str ⟨#[c]⟩) G') : lcTurns vs (.one i0) dYes te (rngD 0 n) ok σ G Z := by
  have hl : (rngD 0 n).length = n := by simp [rngD]
  refine ⟨fun i acc G => i ≤ n ∧ ∃ cs : List Nat, acc = (cs.map fun c => D.str ⟨#[c]⟩) ∧ cs.length = i ∧ (∀ c ∈ cs, c ∈ y.cps.toList) ∧ DW d (k + i) G, ⟨Nat.zero_le _, [], rfl, rfl, by simp, hd⟩, fun i acc G _ _ => hok G, fun i x acc G hx h => ?_, fun acc G h => ?_⟩
  · obtain ⟨hi, cs, rfl, hcl, hcs, hG⟩ := h
    obtain ⟨hlt, rfl⟩ := rng_get hx
    walk_at "dw"
    show te _ G _ dX0
    refine ht _ G _ (k + i) (by omega) hG fun c G' hc hG' => ⟨by rw [List.length_map, hcl]; exact Nat.lt_of_lt_of_le (show i < 100000 by omega) sizeLine_big, by omega, cs ++ [c], by simp, by simp [hcl], fun z hz => ?_, hG'⟩
    rcases List.mem_append.mp hz with hz | hz
    · exact hcs z hz
    · rw [List.mem_singleton.mp hz]; exact hc
  · obtain ⟨_, cs, rfl, hcl, hcs, hG⟩ := h
    rw [hl] at hcl hG
    exact hz cs G hcl hcs hG
def sp__law_word : DSp := sp1 fun x G Q E => ∃ (d : Addr) (k : Nat), x = .ref d ∧ DW d k G ∧ k ≤ 2 ^ 30 ∧ ∀ (z : Str) G', isName (.str z) = true → Asc 100 z → DW d (k + 100) G' → Q (.str z) G'
theorem rd__law_word (K : PySem.W.Frag) (S : Sps) (e1 : S.f__law_one = sp__law_one) : ∀ ds G Q E, sp__law_word ds G Q E → t__law_word K S { nx := fun _ G' => GhV Q .non G', rt := GhV Q } (fun cls fs _ G' => E cls fs G') (dstart N__law_word ds) G := by
  intro ds G Q E h
  obtain ⟨_, rfl, d, k, rfl, hd, hk, q⟩ := sp1_of h
  unfold t__law_word
  rw [e1, show dstart N__law_word [.ref d] = [some (.ref d), none, none] from rfl]
  walk_at "dw"
  refine run_all ⟨d, 8, k, rfl, rfl, by decide, by decide, hd, by omega, fun r G1 h1 h2 h3 => ?_⟩
  walk_at "dw"
  refine drawnW (y := LET) (fun _ => trivial) (by omega) (by omega) h3 (fun j G Q l hl hG hQ => ?_) (fun cs G' h4 h5 h6 => ?_)
  · walk_at "dw"
    refine run_all ⟨d, 26, l, rfl, rfl, by decide, by decide, hG, by omega, fun r G' h1 h2 h3 => ?_⟩
    walk_at "dw"
    obtain ⟨c, hc, hm⟩ := atI_in (l := LET.cps.toList) h1 (by rw [show LET.cps.toList.length = 26 by decide +kernel]; exact h2)
    exact ⟨c, hc, hQ c G' hm h3⟩
  · walk_at "dw"
    refine join_sg (by omega) fun z hz => ?_
    have hl : z.length = cs.length := by rw [len_cps, hz]
    obtain ⟨n1, n2⟩ := name_of (z := z) (by omega) (by omega) (by rw [hz]; exact h5)
    exact .done (q z _ n1 n2 (h6.le (by omega)))
def sp__law_size : DSp := sp1 fun x G Q E => ∃ (d : Addr) (k : Nat), x = .ref d ∧ DW d k G ∧ k ≤ 2 ^ 30 ∧ ∀ (i : Int) G', 1 ≤ i → i ≤ 1000000 → DW d (k + 3) G' → Q (.int i) G'
theorem rd__law_size (K : PySem.W.Frag) (S : Sps) (e1 : S.f__law_one = sp__law_one) (e2 : S.f__law_of = sp__law_of) : ∀ ds G Q E, sp__law_size ds G Q E → t__law_size K S { nx := fun _ G' => GhV Q .non G', rt := GhV Q } (fun cls fs _ G' => E cls fs G') (dstart N__law_size ds) G := by
  intro ds G Q E h
  obtain ⟨_, rfl, d, k, rfl, hd, hk, q⟩ := sp1_of h
  unfold t__law_size
  rw [e1, e2, show dstart N__law_size [.ref d] = [some (.ref d)] from rfl]
  walk_at "dw"
  refine run_all ⟨d, 9, k, rfl, rfl, by decide, by decide, hd, by omega, fun r1 G1 a1 b1 h1 => ?_⟩
  walk_at "dw"
  refine run_all ⟨d, 1000000, k + 1, rfl, rfl, by decide, by decide, h1, by omega, fun r2 G2 a2 b2 h2 => ?_⟩
  obtain ⟨c, rfl, h2⟩ := h2.one
  walk_at "dw"
  refine run_all ⟨d, _, k + 2, c, [], rfl, .inl rfl, by simp, by simp, rfl, h2, by omega, fun v c' hm h3 => ?_⟩
  simp only [List.mem_cons, List.not_mem_nil, or_false] at hm
  rcases hm with rfl | rfl | rfl | rfl
  · exact .done (q _ _ (by omega) (by omega) h3)
  · exact .done (q _ _ (by omega) (by omega) h3)
  · exact .done (q _ _ (by omega) (by omega) h3)
  · exact .done (q _ _ (by omega) (by omega) h3)
def sp__law_things : DSp := sp1 fun x G Q E => ∃ (d : Addr) (k : Nat), x = .ref d ∧ DW d k G ∧ k ≤ 2 ^ 29 ∧ ∀ (r : Rw) G', r.Ok → DW d (k + 300) G' → Q (rowD r) G'
theorem nm_lit {z : Str} (h : (isName (.str z) && (decide (z.length ≤ 100) && z.cps.toList.all fun c => decide (c < 128))) = true) : isName (.str z) = true ∧ Asc 100 z := by
  obtain ⟨h1, h2⟩ := Bool.and_eq_true_iff.mp h
  exact ⟨h1, .lit h2⟩
theorem rd__law_things (K : PySem.W.Frag) (S : Sps) (e1 : S.f__law_one = sp__law_one) (e2 : S.f__law_of = sp__law_of) (e3 : S.f__law_word = sp__law_word) (e4 : S.f__law_size = sp__law_size) : ∀ ds G Q E, sp__law_things ds G Q E → t__law_things K S { nx := fun _ G' => GhV Q .non G', rt := GhV Q } (fun cls fs _ G' => E cls fs G') (dstart N__law_things ds) G := by
  intro ds G Q E h
  obtain ⟨_, rfl, d, k, rfl, hd, hk, q⟩ := sp1_of h
  unfold t__law_things
  rw [e1, e2, e3, e4, show dstart N__law_things [.ref d] = [some (.ref d), none, none, none] from rfl]
  walk_at "dw"
  refine run_all ⟨d, 99, k, rfl, rfl, by decide, by decide, hd, by omega, fun r1 G1 a1 b1 h1 => ?_⟩
  walk_at "dw"
  refine run_all ⟨d, 1000000000, k + 1, rfl, rfl, by decide, by decide, h1, by omega, fun r2 G2 a2 b2 h2 => ?_⟩
  obtain ⟨c, rfl, h2⟩ := h2.one
  walk_at "dw"
  refine run_all ⟨d, _, k + 2, c, [], rfl, .inl rfl, by simp, by simp, rfl, h2, by omega, fun v c' hm h3 => ?_⟩
  obtain ⟨n, rfl, n1, n2⟩ : ∃ n : Int, v = .int n ∧ 1 ≤ n ∧ n ≤ 1000000000 := by
    simp only [List.mem_cons, List.not_mem_nil, or_false] at hm
    rcases hm with rfl | rfl | rfl <;> exact ⟨_, rfl, by omega, by omega⟩
  walk_at "dw"
  refine run_all ⟨d, k + 3, rfl, h3, by omega, fun z1 G4 s1 s2 h4 => ?_⟩
  obtain ⟨c, rfl, h4⟩ := h4.one
  walk_at "dw"
  refine run_all ⟨d, _, k + 103, c, [], rfl, .inl rfl, by simp, by simp, rfl, h4, by omega, fun v c' hm h5 => ?_⟩
  obtain ⟨s, rfl, hs1, hs2⟩ : ∃ s : Str, v = .str s ∧ isName (.str s) = true ∧ Asc 100 s := by
    simp only [List.mem_cons, List.not_mem_nil, or_false] at hm
    rcases hm with rfl | rfl | rfl
    · exact ⟨_, rfl, s1, s2⟩
    · exact ⟨_, rfl, nm_lit (by decide +kernel)⟩
    · exact ⟨_, rfl, nm_lit (by decide +kernel)⟩
  walk_at "dw"
  refine run_all ⟨d, k + 104, rfl, h5, by omega, fun z2 G6 f1 f2 h6 => ?_⟩
  obtain ⟨c, rfl, h6⟩ := h6.one
  walk_at "dw"
  refine run_all ⟨d, _, k + 204, c, [], rfl, .inl rfl, by simp, by simp, rfl, h6, by omega, fun v c' hm h7 => ?_⟩
  obtain ⟨f, rfl, hf1, hf2⟩ : ∃ s : Str, v = .str s ∧ isName (.str s) = true ∧ Asc 100 s := by
    simp only [List.mem_cons, List.not_mem_nil, or_false] at hm
    rcases hm with rfl | rfl | rfl
    · exact ⟨_, rfl, f1, f2⟩
    · exact ⟨_, rfl, nm_lit (by decide +kernel)⟩
    · exact ⟨_, rfl, nm_lit (by decide +kernel)⟩
  walk_at "dw"
  refine run_all ⟨d, k + 205, rfl, h7, by omega, fun a G8 a1 a2 h8 => ?_⟩
  walk_at "dw"
  refine run_all ⟨d, k + 208, rfl, h8, by omega, fun w G9 w1 w2 h9 => ?_⟩
  walk_at "dw"
  refine run_all ⟨d, 2, k + 211, rfl, rfl, by decide, by decide, h9, by omega, fun r G10 _ _ h10 => ?_⟩
  walk_at "dw"
  exact .done (q ⟨n, a, w, s, f, decide (r = 1)⟩ _ ⟨n1, n2, a1, a2, w1, w2, hs1, hs2, hf1, hf2⟩ (h10.le (by omega)))

end Pr
set_option Elab.async false
set_option linter.all false
set_option maxRecDepth 100000
set_option maxHeartbeats 4000000
namespace Pr
open PySem PyProof.Rows L2 DL DX
local macro_rules | `(tactic| walk_at "dl") => `(tactic| simp (config := {proj := false}) only [DL.n_nx, DL.n_rt, DL.n_bk, DL.n_ct, DL.eq_ii, DL.eq_ss, DL.eq_bb, DL.eq_nn, DL.eq_ni, DL.eq_in, DL.ne_ii, DL.ne_ss, DL.r_seq, DL.r_for, DL.r_if, DL.r_next, DL.r_ret, DL.r_retN, DL.r_brk, DL.r_cnt, DL.r_drop, DL.r_set, DL.r_asg, DL.r_gname, DL.r_gnil, DL.r_gcons, DL.r_gtup, DL.r_gsub, DL.r_name, DL.r_at0, DL.r_atS, DL.r_c, DL.r_op, DL.r_test, DL.r_tru, DL.r_and, DL.r_or, DL.r_not, DL.r_ife, DL.r_nil, DL.r_cons, DL.r_tup, DL.r_lst, DL.r_lstM, DL.r_cb, DL.r_call, DL.r_bm, DL.r_fld, DL.r_chain, DL.r_orT, DL.r_andT, DL.r_notT, DL.r_neg, DL.r_sl, DL.r_nop, DL.r_part, DL.r_slL, DL.r_slT, DL.r_slS, DL.r_lc, DL.r_lcM, DL.r_iter, DL.r_rng1, DL.r_rng2, DL.z_ch, DL.z_ts, DL.z_pt, DL.z_itL, DL.z_itT, DL.z_itS, DL.z_itR, DL.z_rg1, DL.z_rg2, DL.z_iT, DL.z_iF, DL.z_ft, DL.z_tf, DL.z_nt, DL.z_nf, DL.r_disp, DL.r_pnil, DL.r_pcons, DL.o_addI, DL.o_addS, DL.o_addL, DL.o_addT, DL.o_sub, DL.o_mulI, DL.o_mulS, DL.o_mulL, DL.o_div, DL.o_divZ, DL.o_mod, DL.o_modZ, DL.o_pow, DL.o_lt, DL.o_le, DL.o_gt, DL.o_ge, DL.o_isN, DL.o_isB, DL.o_isnN, DL.o_isnB, DL.o_ixL, DL.o_ixT, DL.o_ixS, DL.o_ixR, DL.c_lenL, DL.c_lenT, DL.c_lenS, DL.c_lenR, DL.c_intI, DL.c_intB, DL.c_intS, DL.c_int2, DL.c_strI, DL.c_strS, DL.c_abs, DL.c_max2, DL.c_min2, DL.q_non, DL.q_bl, DL.q_int, DL.q_str, DL.q_lst, DL.q_tup, DL.tym_s, DL.tym_l, DL.m_up, DL.m_low, DL.k_int_int, DL.k_int_bool, DL.k_int_str, DL.k_int_tuple, DL.k_int_list, DL.k_int_dict, DL.k_bl_int, DL.k_bl_bool, DL.k_bl_str, DL.k_bl_tuple, DL.k_bl_list, DL.k_bl_dict, DL.k_str_int, DL.k_str_bool, DL.k_str_str, DL.k_str_tuple, DL.k_str_list, DL.k_str_dict, DL.k_tup_int, DL.k_tup_bool, DL.k_tup_str, DL.k_tup_tuple, DL.k_tup_list, DL.k_tup_dict, DL.k_lst_int, DL.k_lst_bool, DL.k_lst_str, DL.k_lst_tuple, DL.k_lst_list, DL.k_lst_dict, DL.k_non_int, DL.k_non_bool, DL.k_non_str, DL.k_non_tuple, DL.k_non_list, DL.k_non_dict, DL.k_dic_int, DL.k_dic_bool, DL.k_dic_str, DL.k_dic_tuple, DL.k_dic_list, DL.k_dic_dict, DL.k_dit_int, DL.k_dit_bool, DL.k_dit_str, DL.k_dit_tuple, DL.k_dit_list, DL.k_dit_dict, DL.ls0, DL.lsS, DL.la0, DL.laS, DL.r_bind1, DL.r_wipe0, DL.r_wipeS, List.append_nil, true_and])
local macro_rules | `(tactic| walk_at "dw") => `(tactic| repeat (first | ((with_reducible apply DL.m_nm); (· exact rfl)) | (with_reducible refine DL.m_nx ?_) | (with_reducible refine DL.st DL.r_sortM ?_) | (with_reducible refine DL.st DL.r_sortS ?_) | (with_reducible refine DL.st DL.un_cons ?_) | (with_reducible refine DL.st DL.un_nil ?_) | (with_reducible refine DL.un_gh ?_) | (with_reducible refine DL.m_rt ?_) | (with_reducible refine DL.m_bk ?_) | (with_reducible refine DL.m_ct ?_) | (with_reducible refine DL.m_tr ?_) | (with_reducible refine DL.i_t ?_) | (with_reducible refine DL.i_f ?_) | (with_reducible refine DL.i_n ?_) | (with_reducible refine DL.m_tys ?_) | (with_reducible refine DL.m_tyl ?_) | (with_reducible refine DL.st DL.r_c ?_) | (with_reducible refine DL.st DL.r_par ?_) | (with_reducible refine DL.st DL.q_pr2 ?_) | (with_reducible refine DL.st DL.r_thru ?_) | (with_reducible refine DL.st DL.r_dic0 ?_) | (with_reducible refine DL.st DL.r_fmt ?_) | (with_reducible refine DL.st DL.r_join ?_) | (with_reducible refine DL.st DL.r_jnil ?_) | (with_reducible refine DL.st DL.r_jcons ?_) | (with_reducible refine DL.st DL.r_seqG ?_) | (with_reducible refine DL.st DL.r_raiseW ?_) | (with_reducible refine DL.st DX.r_tryMA ?_) | (with_reducible refine DL.st DX.r_raiseF ?_) | (with_reducible refine DL.st DX.r_methN ?_) | (with_reducible refine DL.st DL.r_tryAs ?_) | (with_reducible refine DL.st DL.q_fmtI ?_) | (with_reducible refine DL.st DL.q_fmtB ?_) | (with_reducible refine DL.st DL.q_fmtS ?_) | (with_reducible refine DL.st DL.r_cons ?_) | (with_reducible refine DL.st DL.r_nil ?_) | (with_reducible refine DL.st DL.r_op ?_) | (with_reducible refine DL.st DL.r_call ?_) | (with_reducible refine DL.st DL.r_cb ?_) | (with_reducible refine DL.st DL.r_seq ?_) | (with_reducible refine DL.st DL.r_set ?_) | (with_reducible refine DL.st DL.r_test ?_) | (with_reducible refine DL.st DL.r_tru ?_) | (with_reducible refine DL.st DL.z_ts ?_) | (with_reducible refine DL.st DL.q_bl ?_) | (with_reducible refine DL.st DL.r_if ?_) | (with_reducible refine DL.st DL.r_ret ?_) | (with_reducible refine DL.st DL.r_for ?_) | (with_reducible refine DL.st DL.r_next ?_) | (with_reducible refine DL.st DL.r_retN ?_) | (with_reducible refine DL.st DL.r_brk ?_) | (with_reducible refine DL.st DL.r_cnt ?_) | (with_reducible refine DL.st DL.r_drop ?_) | (with_reducible refine DL.st DL.r_asg ?_) | (with_reducible refine DL.st DL.r_gname ?_) | (with_reducible refine DL.st DL.r_gnil ?_) | (with_reducible refine DL.st DL.r_gcons ?_) | (with_reducible refine DL.st DL.r_gtup ?_) | (with_reducible refine DL.st DL.r_gsub ?_) | (with_reducible refine DL.st DL.r_and ?_) | (with_reducible refine DL.st DL.r_or ?_) | (with_reducible refine DL.st DL.r_not ?_) | (with_reducible refine DL.st DL.r_ife ?_) | (with_reducible refine DL.st DL.r_tup ?_) | (with_reducible refine DL.st DL.r_lst ?_) | (with_reducible refine DL.st DL.r_lstM ?_) | (with_reducible refine DL.st DL.r_bm ?_) | (with_reducible refine DL.st DL.r_fld ?_) | (with_reducible refine DL.st DL.r_chain ?_) | (with_reducible refine DL.st DL.r_orT ?_) | (with_reducible refine DL.st DL.r_andT ?_) | (with_reducible refine DL.st DL.r_notT ?_) | (with_reducible refine DL.st DL.r_neg ?_) | (with_reducible refine DL.st DL.r_sl ?_) | (with_reducible refine DL.st DL.r_nop ?_) | (with_reducible refine DL.st DL.r_part ?_) | (with_reducible refine DL.st DL.r_slL ?_) | (with_reducible refine DL.st DL.r_slT ?_) | (with_reducible refine DL.st DL.r_slS ?_) | (with_reducible refine DL.st DL.r_lc ?_) | (with_reducible refine DL.st DL.r_lcM ?_) | (with_reducible refine DL.st DL.r_iter ?_) | (with_reducible refine DL.st DL.r_rng1 ?_) | (with_reducible refine DL.st DL.r_rng2 ?_) | (with_reducible refine DL.st DL.z_ch ?_) | (with_reducible refine DL.st DL.z_pt ?_) | (with_reducible refine DL.st DL.z_itL ?_) | (with_reducible refine DL.st DL.z_itT ?_) | (with_reducible refine DL.st DL.z_itS ?_) | (with_reducible refine DL.st DL.z_itR ?_) | (with_reducible refine DL.st DL.z_rg1 ?_) | (with_reducible refine DL.st DL.z_rg2 ?_) | (with_reducible refine DL.st DL.r_disp ?_) | (with_reducible refine DL.st DL.r_pnil ?_) | (with_reducible refine DL.st DL.r_pcons ?_) | (with_reducible refine DL.st DL.o_addI ?_) | (with_reducible refine DL.st DL.o_addS ?_) | (with_reducible refine DL.st DL.o_addL ?_) | (with_reducible refine DL.st DL.o_addT ?_) | (with_reducible refine DL.st DL.o_sub ?_) | (with_reducible refine DL.st DL.o_mulI ?_) | (with_reducible refine DL.st DL.o_mulS ?_) | (with_reducible refine DL.st DL.o_mulL ?_) | (with_reducible refine DL.st DL.o_div ?_) | (with_reducible refine DL.st DL.o_divZ ?_) | (with_reducible refine DL.st DL.o_mod ?_) | (with_reducible refine DL.st DL.o_modZ ?_) | (with_reducible refine DL.st DL.o_pow ?_) | (with_reducible refine DL.st DL.o_lt ?_) | (with_reducible refine DL.st DL.o_le ?_) | (with_reducible refine DL.st DL.o_gt ?_) | (with_reducible refine DL.st DL.o_ge ?_) | (with_reducible refine DL.st DL.o_isN ?_) | (with_reducible refine DL.st DL.o_isB ?_) | (with_reducible refine DL.st DL.o_isnN ?_) | (with_reducible refine DL.st DL.o_isnB ?_) | (with_reducible refine DL.st DL.o_ixL ?_) | (with_reducible refine DL.st DL.o_ixT ?_) | (with_reducible refine DL.st DL.o_ixS ?_) | (with_reducible refine DL.st DL.o_ixR ?_) | (with_reducible refine DL.st DL.c_lenL ?_) | (with_reducible refine DL.st DL.c_lenT ?_) | (with_reducible refine DL.st DL.c_lenS ?_) | (with_reducible refine DL.st DL.c_lenR ?_) | (with_reducible refine DL.st DL.c_intI ?_) | (with_reducible refine DL.st DL.c_intB ?_) | (with_reducible refine DL.st DL.c_intS ?_) | (with_reducible refine DL.st DL.c_int2 ?_) | (with_reducible refine DL.st DL.c_strI ?_) | (with_reducible refine DL.st DL.c_strS ?_) | (with_reducible refine DL.st DL.c_abs ?_) | (with_reducible refine DL.st DL.c_max2 ?_) | (with_reducible refine DL.st DL.c_min2 ?_) | (with_reducible refine DL.st DL.q_non ?_) | (with_reducible refine DL.st DL.q_int ?_) | (with_reducible refine DL.st DL.q_str ?_) | (with_reducible refine DL.st DL.q_lst ?_) | (with_reducible refine DL.st DL.q_tup ?_) | (with_reducible refine DL.st DL.m_up ?_) | (with_reducible refine DL.st DL.m_low ?_) | (with_reducible refine DL.st DL.r_bind1 ?_) | (with_reducible refine DL.st DL.eq_ii ?_) | (with_reducible refine DL.st DL.eq_ss ?_) | (with_reducible refine DL.st DL.eq_bb ?_) | (with_reducible refine DL.st DL.eq_nn ?_) | (with_reducible refine DL.st DL.eq_ni ?_) | (with_reducible refine DL.st DL.eq_in ?_) | (with_reducible refine DL.st DL.ne_ii ?_) | (with_reducible refine DL.st DL.ne_ss ?_) | (with_reducible refine DL.st DL.r_make ?_) | (with_reducible refine DL.st DL.r_meth ?_) | (with_reducible refine DL.st DL.r_fldC ?_) | (with_reducible refine DL.st DL.r_fldS ?_) | (with_reducible refine DL.st DL.c_listL ?_) | (with_reducible refine DL.st DL.c_listT ?_) | (with_reducible refine DL.st DL.c_tupL ?_) | (with_reducible refine DL.st DL.c_tupT ?_) | (with_reducible refine DL.st DL.r_rev ?_) | (with_reducible refine DL.st DL.z_rvL ?_) | ((with_reducible apply DL.m_aug); (· exact rfl)) | (with_reducible refine DL.st DL.q_augI ?_) | (with_reducible refine DL.st DL.q_augS ?_) | (with_reducible refine DL.st DL.r_fmtR ?_) | (with_reducible refine DL.st DL.q_fmrS ?_) | (with_reducible refine DL.st DL.r_enum ?_) | (with_reducible refine DL.st DL.r_enumT ?_) | (with_reducible refine DL.st DL.z_enT ?_) | (with_reducible refine DL.st DL.z_enL ?_) | ((with_reducible apply DL.m_fobj); (· decide +kernel); (· exact rfl)) | ((with_reducible apply DL.m_mobj); (· decide +kernel)) | ((with_reducible apply DL.m_new); (· decide +kernel); (· exact rfl); (· exact rfl)) | (with_reducible refine DL.st DL.r_callN ?_) | (with_reducible refine DL.st DL.r_makeN ?_) | ((with_reducible apply DL.m_pkN); (· exact rfl); (· exact rfl); (· exact rfl)) | (with_reducible refine DL.s_int_int ?_) | (with_reducible refine DL.s_int_bool ?_) | (with_reducible refine DL.s_int_str ?_) | (with_reducible refine DL.s_int_tuple ?_) | (with_reducible refine DL.s_int_list ?_) | (with_reducible refine DL.s_int_dict ?_) | (with_reducible refine DL.s_bl_int ?_) | (with_reducible refine DL.s_bl_bool ?_) | (with_reducible refine DL.s_bl_str ?_) | (with_reducible refine DL.s_bl_tuple ?_) | (with_reducible refine DL.s_bl_list ?_) | (with_reducible refine DL.s_bl_dict ?_) | (with_reducible refine DL.s_str_int ?_) | (with_reducible refine DL.s_str_bool ?_) | (with_reducible refine DL.s_str_str ?_) | (with_reducible refine DL.s_str_tuple ?_) | (with_reducible refine DL.s_str_list ?_) | (with_reducible refine DL.s_str_dict ?_) | (with_reducible refine DL.s_tup_int ?_) | (with_reducible refine DL.s_tup_bool ?_) | (with_reducible refine DL.s_tup_str ?_) | (with_reducible refine DL.s_tup_tuple ?_) | (with_reducible refine DL.s_tup_list ?_) | (with_reducible refine DL.s_tup_dict ?_) | (with_reducible refine DL.s_lst_int ?_) | (with_reducible refine DL.s_lst_bool ?_) | (with_reducible refine DL.s_lst_str ?_) | (with_reducible refine DL.s_lst_tuple ?_) | (with_reducible refine DL.s_lst_list ?_) | (with_reducible refine DL.s_lst_dict ?_) | (with_reducible refine DL.s_non_int ?_) | (with_reducible refine DL.s_non_bool ?_) | (with_reducible refine DL.s_non_str ?_) | (with_reducible refine DL.s_non_tuple ?_) | (with_reducible refine DL.s_non_list ?_) | (with_reducible refine DL.s_non_dict ?_) | (with_reducible refine DL.s_dic_int ?_) | (with_reducible refine DL.s_dic_bool ?_) | (with_reducible refine DL.s_dic_str ?_) | (with_reducible refine DL.s_dic_tuple ?_) | (with_reducible refine DL.s_dic_list ?_) | (with_reducible refine DL.s_dic_dict ?_) | (with_reducible refine DL.s_dit_int ?_) | (with_reducible refine DL.s_dit_bool ?_) | (with_reducible refine DL.s_dit_str ?_) | (with_reducible refine DL.s_dit_tuple ?_) | (with_reducible refine DL.s_dit_list ?_) | (with_reducible refine DL.s_dit_dict ?_) | ((with_reducible refine DL.m_sz ?_ ?_); (· exact rfl)) | ((with_reducible refine DL.m_sz2 ?_ ?_); (· exact rfl)) | ((with_reducible refine DL.m_szs ?_ ?_); (· decide +kernel)) | (with_reducible refine DL.m_ty ?_) | ((with_reducible refine DL.m_ln ?_ ?_); (· exact rfl)) | ((with_reducible refine And.intro ?_ ?_); (· (first | with_reducible assumption | omega)))))
local macro_rules | `(tactic| walk_at "dx") => `(tactic| repeat (first | ((with_reducible apply DL.m_nm); (· exact rfl)) | (with_reducible refine DL.m_nx ?_) | ((with_reducible apply DL.ex_atI); (· (first | with_reducible assumption | exact rfl))) | (with_reducible refine DL.st DL.r_sortM ?_) | (with_reducible refine DL.st DL.r_sortS ?_) | (with_reducible refine DL.st DL.un_cons ?_) | (with_reducible refine DL.st DL.un_nil ?_) | (with_reducible refine DL.un_gh ?_) | (with_reducible refine DL.m_rt ?_) | (with_reducible refine DL.m_bk ?_) | (with_reducible refine DL.m_ct ?_) | (with_reducible refine DL.m_tr ?_) | (with_reducible refine DL.i_t ?_) | (with_reducible refine DL.i_f ?_) | (with_reducible refine DL.i_n ?_) | (with_reducible refine DL.m_tys ?_) | (with_reducible refine DL.m_tyl ?_) | (with_reducible refine DL.st DL.r_c ?_) | (with_reducible refine DL.st DL.r_par ?_) | (with_reducible refine DL.st DL.q_pr2 ?_) | (with_reducible refine DL.st DL.r_thru ?_) | (with_reducible refine DL.st DL.r_dic0 ?_) | (with_reducible refine DL.st DL.r_fmt ?_) | (with_reducible refine DL.st DL.r_join ?_) | (with_reducible refine DL.st DL.r_jnil ?_) | (with_reducible refine DL.st DL.r_jcons ?_) | (with_reducible refine DL.st DL.r_seqG ?_) | (with_reducible refine DL.st DL.r_raiseW ?_) | (with_reducible refine DL.st DX.r_tryMA ?_) | (with_reducible refine DL.st DX.r_raiseF ?_) | (with_reducible refine DL.st DX.r_methN ?_) | (with_reducible refine DL.st DL.r_tryAs ?_) | (with_reducible refine DL.st DL.q_fmtI ?_) | (with_reducible refine DL.st DL.q_fmtB ?_) | (with_reducible refine DL.st DL.q_fmtS ?_) | (with_reducible refine DL.st DL.r_cons ?_) | (with_reducible refine DL.st DL.r_nil ?_) | (with_reducible refine DL.st DL.r_op ?_) | (with_reducible refine DL.st DL.r_call ?_) | (with_reducible refine DL.st DL.r_cb ?_) | (with_reducible refine DL.st DL.r_seq ?_) | (with_reducible refine DL.st DL.r_set ?_) | (with_reducible refine DL.st DL.r_test ?_) | (with_reducible refine DL.st DL.r_tru ?_) | (with_reducible refine DL.st DL.z_ts ?_) | (with_reducible refine DL.st DL.q_bl ?_) | (with_reducible refine DL.st DL.r_if ?_) | (with_reducible refine DL.st DL.r_ret ?_) | (with_reducible refine DL.st DL.r_for ?_) | (with_reducible refine DL.st DL.r_next ?_) | (with_reducible refine DL.st DL.r_retN ?_) | (with_reducible refine DL.st DL.r_brk ?_) | (with_reducible refine DL.st DL.r_cnt ?_) | (with_reducible refine DL.st DL.r_drop ?_) | (with_reducible refine DL.st DL.r_asg ?_) | (with_reducible refine DL.st DL.r_gname ?_) | (with_reducible refine DL.st DL.r_gnil ?_) | (with_reducible refine DL.st DL.r_gcons ?_) | (with_reducible refine DL.st DL.r_gtup ?_) | (with_reducible refine DL.st DL.r_gsub ?_) | (with_reducible refine DL.st DL.r_and ?_) | (with_reducible refine DL.st DL.r_or ?_) | (with_reducible refine DL.st DL.r_not ?_) | (with_reducible refine DL.st DL.r_ife ?_) | (with_reducible refine DL.st DL.r_tup ?_) | (with_reducible refine DL.st DL.r_lst ?_) | (with_reducible refine DL.st DL.r_lstM ?_) | (with_reducible refine DL.st DL.r_bm ?_) | (with_reducible refine DL.st DL.r_fld ?_) | (with_reducible refine DL.st DL.r_chain ?_) | (with_reducible refine DL.st DL.r_orT ?_) | (with_reducible refine DL.st DL.r_andT ?_) | (with_reducible refine DL.st DL.r_notT ?_) | (with_reducible refine DL.st DL.r_neg ?_) | (with_reducible refine DL.st DL.r_sl ?_) | (with_reducible refine DL.st DL.r_nop ?_) | (with_reducible refine DL.st DL.r_part ?_) | (with_reducible refine DL.st DL.r_slL ?_) | (with_reducible refine DL.st DL.r_slT ?_) | (with_reducible refine DL.st DL.r_slS ?_) | (with_reducible refine DL.st DL.r_lc ?_) | (with_reducible refine DL.st DL.r_lcM ?_) | (with_reducible refine DL.st DL.r_iter ?_) | (with_reducible refine DL.st DL.r_rng1 ?_) | (with_reducible refine DL.st DL.r_rng2 ?_) | (with_reducible refine DL.st DL.z_ch ?_) | (with_reducible refine DL.st DL.z_pt ?_) | (with_reducible refine DL.st DL.z_itL ?_) | (with_reducible refine DL.st DL.z_itT ?_) | (with_reducible refine DL.st DL.z_itS ?_) | (with_reducible refine DL.st DL.z_itR ?_) | (with_reducible refine DL.st DL.z_rg1 ?_) | (with_reducible refine DL.st DL.z_rg2 ?_) | (with_reducible refine DL.st DL.r_disp ?_) | (with_reducible refine DL.st DL.r_pnil ?_) | (with_reducible refine DL.st DL.r_pcons ?_) | (with_reducible refine DL.st DL.o_addI ?_) | (with_reducible refine DL.st DL.o_addS ?_) | (with_reducible refine DL.st DL.o_addL ?_) | (with_reducible refine DL.st DL.o_addT ?_) | (with_reducible refine DL.st DL.o_sub ?_) | (with_reducible refine DL.st DL.o_mulI ?_) | (with_reducible refine DL.st DL.o_mulS ?_) | (with_reducible refine DL.st DL.o_mulL ?_) | (with_reducible refine DL.st DL.o_div ?_) | (with_reducible refine DL.st DL.o_divZ ?_) | (with_reducible refine DL.st DL.o_mod ?_) | (with_reducible refine DL.st DL.o_modZ ?_) | (with_reducible refine DL.st DL.o_pow ?_) | (with_reducible refine DL.st DL.o_lt ?_) | (with_reducible refine DL.st DL.o_le ?_) | (with_reducible refine DL.st DL.o_gt ?_) | (with_reducible refine DL.st DL.o_ge ?_) | (with_reducible refine DL.st DL.o_isN ?_) | (with_reducible refine DL.st DL.o_isB ?_) | (with_reducible refine DL.st DL.o_isnN ?_) | (with_reducible refine DL.st DL.o_isnB ?_) | (with_reducible refine DL.st DL.o_ixL ?_) | (with_reducible refine DL.st DL.o_ixT ?_) | (with_reducible refine DL.st DL.o_ixS ?_) | (with_reducible refine DL.st DL.o_ixR ?_) | (with_reducible refine DL.st DL.c_lenL ?_) | (with_reducible refine DL.st DL.c_lenT ?_) | (with_reducible refine DL.st DL.c_lenS ?_) | (with_reducible refine DL.st DL.c_lenR ?_) | (with_reducible refine DL.st DL.c_intI ?_) | (with_reducible refine DL.st DL.c_intB ?_) | (with_reducible refine DL.st DL.c_intS ?_) | (with_reducible refine DL.st DL.c_int2 ?_) | (with_reducible refine DL.st DL.c_strI ?_) | (with_reducible refine DL.st DL.c_strS ?_) | (with_reducible refine DL.st DL.c_abs ?_) | (with_reducible refine DL.st DL.c_max2 ?_) | (with_reducible refine DL.st DL.c_min2 ?_) | (with_reducible refine DL.st DL.q_non ?_) | (with_reducible refine DL.st DL.q_int ?_) | (with_reducible refine DL.st DL.q_str ?_) | (with_reducible refine DL.st DL.q_lst ?_) | (with_reducible refine DL.st DL.q_tup ?_) | (with_reducible refine DL.st DL.m_up ?_) | (with_reducible refine DL.st DL.m_low ?_) | (with_reducible refine DL.st DL.r_bind1 ?_) | (with_reducible refine DL.st DL.eq_ii ?_) | (with_reducible refine DL.st DL.eq_ss ?_) | (with_reducible refine DL.st DL.eq_bb ?_) | (with_reducible refine DL.st DL.eq_nn ?_) | (with_reducible refine DL.st DL.eq_ni ?_) | (with_reducible refine DL.st DL.eq_in ?_) | (with_reducible refine DL.st DL.ne_ii ?_) | (with_reducible refine DL.st DL.ne_ss ?_) | (with_reducible refine DL.st DL.r_make ?_) | (with_reducible refine DL.st DL.r_meth ?_) | (with_reducible refine DL.st DL.r_fldC ?_) | (with_reducible refine DL.st DL.r_fldS ?_) | (with_reducible refine DL.st DL.c_listL ?_) | (with_reducible refine DL.st DL.c_listT ?_) | (with_reducible refine DL.st DL.c_tupL ?_) | (with_reducible refine DL.st DL.c_tupT ?_) | (with_reducible refine DL.st DL.r_rev ?_) | (with_reducible refine DL.st DL.z_rvL ?_) | ((with_reducible apply DL.m_aug); (· exact rfl)) | (with_reducible refine DL.st DL.q_augI ?_) | (with_reducible refine DL.st DL.q_augS ?_) | (with_reducible refine DL.st DL.r_fmtR ?_) | (with_reducible refine DL.st DL.q_fmrS ?_) | (with_reducible refine DL.st DL.r_enum ?_) | (with_reducible refine DL.st DL.r_enumT ?_) | (with_reducible refine DL.st DL.z_enT ?_) | (with_reducible refine DL.st DL.z_enL ?_) | ((with_reducible apply DL.m_fobj); (· decide +kernel); (· exact rfl)) | ((with_reducible apply DL.m_mobj); (· decide +kernel)) | ((with_reducible apply DL.m_new); (· decide +kernel); (· exact rfl); (· exact rfl)) | (with_reducible refine DL.st DL.r_callN ?_) | (with_reducible refine DL.st DL.r_makeN ?_) | ((with_reducible apply DL.m_pkN); (· exact rfl); (· exact rfl); (· exact rfl)) | (with_reducible refine DL.s_int_int ?_) | (with_reducible refine DL.s_int_bool ?_) | (with_reducible refine DL.s_int_str ?_) | (with_reducible refine DL.s_int_tuple ?_) | (with_reducible refine DL.s_int_list ?_) | (with_reducible refine DL.s_int_dict ?_) | (with_reducible refine DL.s_bl_int ?_) | (with_reducible refine DL.s_bl_bool ?_) | (with_reducible refine DL.s_bl_str ?_) | (with_reducible refine DL.s_bl_tuple ?_) | (with_reducible refine DL.s_bl_list ?_) | (with_reducible refine DL.s_bl_dict ?_) | (with_reducible refine DL.s_str_int ?_) | (with_reducible refine DL.s_str_bool ?_) | (with_reducible refine DL.s_str_str ?_) | (with_reducible refine DL.s_str_tuple ?_) | (with_reducible refine DL.s_str_list ?_) | (with_reducible refine DL.s_str_dict ?_) | (with_reducible refine DL.s_tup_int ?_) | (with_reducible refine DL.s_tup_bool ?_) | (with_reducible refine DL.s_tup_str ?_) | (with_reducible refine DL.s_tup_tuple ?_) | (with_reducible refine DL.s_tup_list ?_) | (with_reducible refine DL.s_tup_dict ?_) | (with_reducible refine DL.s_lst_int ?_) | (with_reducible refine DL.s_lst_bool ?_) | (with_reducible refine DL.s_lst_str ?_) | (with_reducible refine DL.s_lst_tuple ?_) | (with_reducible refine DL.s_lst_list ?_) | (with_reducible refine DL.s_lst_dict ?_) | (with_reducible refine DL.s_non_int ?_) | (with_reducible refine DL.s_non_bool ?_) | (with_reducible refine DL.s_non_str ?_) | (with_reducible refine DL.s_non_tuple ?_) | (with_reducible refine DL.s_non_list ?_) | (with_reducible refine DL.s_non_dict ?_) | (with_reducible refine DL.s_dic_int ?_) | (with_reducible refine DL.s_dic_bool ?_) | (with_reducible refine DL.s_dic_str ?_) | (with_reducible refine DL.s_dic_tuple ?_) | (with_reducible refine DL.s_dic_list ?_) | (with_reducible refine DL.s_dic_dict ?_) | (with_reducible refine DL.s_dit_int ?_) | (with_reducible refine DL.s_dit_bool ?_) | (with_reducible refine DL.s_dit_str ?_) | (with_reducible refine DL.s_dit_tuple ?_) | (with_reducible refine DL.s_dit_list ?_) | (with_reducible refine DL.s_dit_dict ?_) | ((with_reducible refine DL.m_sz ?_ ?_); (· exact rfl)) | ((with_reducible refine DL.m_sz2 ?_ ?_); (· exact rfl)) | ((with_reducible refine DL.m_szs ?_ ?_); (· decide +kernel)) | (with_reducible refine DL.m_ty ?_) | ((with_reducible refine DL.m_ln ?_ ?_); (· exact rfl)) | ((with_reducible refine And.intro ?_ ?_); (· (first | with_reducible assumption | omega)))))
def sp__law_is_size : DSp := sp2 fun x y G Q E => ∃ (n : String) (i : Int), y = .int i ∧ tyName x = some n ∧ Q (.bl (isWhole x 1 i)) G
theorem rd__law_is_size (K : PySem.W.Frag) (S : Sps) : ∀ ds G Q E, sp__law_is_size ds G Q E → t__law_is_size K S { nx := fun _ G' => GhV Q .non G', rt := GhV Q } (fun cls fs _ G' => E cls fs G') (dstart N__law_is_size ds) G := by
  intro ds G Q E h
  obtain ⟨x, _, rfl, n, i, rfl, hn, q⟩ := sp2_of h
  unfold t__law_is_size
  rw [show dstart N__law_is_size [x, .int i] = [some x, some (.int i)] from rfl]
  cases x <;> first | (cases hn; done) | skip
  case int y =>
    walk_at "dx"
    refine i_c (fun h1 => ?_) (fun h1 => ?_)
    · walk_at "dx"
      rw [show isWhole (.int y) 1 i = decide (y ≤ i) by show (decide (1 ≤ y) && _) = _; rw [h1]; rfl] at q
      exact .done q
    · walk_at "dx"
      rw [show isWhole (.int y) 1 i = false by show (decide (1 ≤ y) && _) = _; rw [h1]; rfl] at q
      exact .done q
  all_goals (walk_at "dx"; exact .done q)
theorem filt_all {l : List Nat} {f : Nat → D} : ((l.filter fun c => !decide (c ∈ LET.cps.toList)).map f).isEmpty = l.all fun c => decide (c ∈ LET.cps.toList) := by
  induction l with
  | nil => rfl
  | cons c l ih =>
    rw [List.filter_cons, List.all_cons]
    cases h : decide (c ∈ LET.cps.toList) with
    | true => simpa using ih
    | false => rfl
def sp__law_is_word : DSp := sp1 fun x G Q E => Th x ∧ Q (.bl (isName x)) G
theorem rd__law_is_word (K : PySem.W.Frag) (S : Sps) : ∀ ds G Q E, sp__law_is_word ds G Q E → t__law_is_word K S { nx := fun _ G' => GhV Q .non G', rt := GhV Q } (fun cls fs _ G' => E cls fs G') (dstart N__law_is_word ds) G := by
  intro ds G Q E h
  obtain ⟨x, rfl, ⟨⟨n, hn⟩, ha⟩, q⟩ := sp1_of h
  unfold t__law_is_word
  rw [show dstart N__law_is_word [x] = [some x, none] from rfl]
  cases x <;> first | (cases hn; done) | skip
  case str z =>
    have hl := ha _ rfl
    have e : isName (.str z) = ((decide ((1 : Int) ≤ z.length) && decide ((z.length : Int) ≤ 8)) && allIn z LET) := rfl
    walk_at "dx"
    refine ⟨sz2 hl, ?_⟩
    walk_at "dx"
    refine i_c (fun h1 => ?_) (fun h1 => ?_)
    · walk_at "dx"
      refine i_c (fun h2 => ?_) (fun h2 => ?_)
      · walk_at "dx"
        unfold signsD
        refine lc_filter (fun c => !decide (c ∈ LET.cps.toList)) (fun c => .str ⟨#[c]⟩) (by rw [← len_cps]; exact sz2 hl) trivial (fun c hc => ⟨?_, ?_⟩) ?_
        · intro Q h
          walk_at "dx"
          refine notIn_sign ?_
          walk_at "dx"
          exact h
        · intro _ Q h
          walk_at "dx"
          exact h
        walk_at "dx"
        refine eqE_l ?_
        rw [filt_all]
        rw [e, h1, h2] at q
        exact .done q
      · walk_at "dx"
        rw [e, h2, Bool.and_false, Bool.false_and] at q
        exact .done q
    · walk_at "dx"
      rw [e, h1, Bool.false_and, Bool.false_and] at q
      exact .done q
  all_goals (walk_at "dx"; exact .done q)
def sp__law_are_right : DSp := sp1 fun x G Q E => ∃ n a w s f d, x = .tup [n, a, w, s, f, d] ∧ Th n ∧ Th a ∧ Th w ∧ Th s ∧ Th f ∧ Th d ∧ Q (.bl (b6 n a w s f d)) G
theorem rd__law_are_right (K : PySem.W.Frag) (S : Sps) (e1 : S.f__law_is_size = sp__law_is_size) (e2 : S.f__law_is_word = sp__law_is_word) : ∀ ds G Q E, sp__law_are_right ds G Q E → t__law_are_right K S { nx := fun _ G' => GhV Q .non G', rt := GhV Q } (fun cls fs _ G' => E cls fs G') (dstart N__law_are_right ds) G := by
  intro ds G Q E h
  obtain ⟨_, rfl, n, a, w, s, f, d, rfl, hn, ha, hw, hs, hf, hd, q⟩ := sp1_of h
  unfold t__law_are_right
  unfold b6 at q
  obtain ⟨tn, hn⟩ := hn.ty
  obtain ⟨ta, ha⟩ := ha.ty
  obtain ⟨tw, hw⟩ := hw.ty
  obtain ⟨td, hd⟩ := hd.ty
  rw [e1, e2, show dstart N__law_are_right [.tup [n, a, w, s, f, d]] = [some (.tup [n, a, w, s, f, d]), none, none, none, none, none, none] from rfl]
  walk_at "dx"
  refine run_all ⟨tn, _, rfl, hn, ?_⟩
  cases h1 : isWhole n 1 1000000000 with
  | false =>
    rw [h1] at q
    walk_at "dx"
    exact .done q
  | true =>
  rw [h1] at q
  walk_at "dx"
  refine run_all ⟨ta, _, rfl, ha, ?_⟩
  cases h2 : isWhole a 1 1000000 with
  | false =>
    rw [h2] at q
    walk_at "dx"
    exact .done q
  | true =>
  rw [h2] at q
  walk_at "dx"
  refine run_all ⟨tw, _, rfl, hw, ?_⟩
  cases h3 : isWhole w 1 1000000 with
  | false =>
    rw [h3] at q
    walk_at "dx"
    exact .done q
  | true =>
  rw [h3] at q
  walk_at "dx"
  refine run_all ⟨hs, ?_⟩
  cases h4 : isName s with
  | false =>
    rw [h4] at q
    walk_at "dx"
    exact .done q
  | true =>
  rw [h4] at q
  walk_at "dx"
  refine run_all ⟨hf, ?_⟩
  cases h5 : isName f with
  | false =>
    rw [h5] at q
    walk_at "dx"
    exact .done q
  | true =>
  rw [h5] at q
  walk_at "dx"
  refine isi_p hd rfl ?_
  rw [isK_bl]
  exact .done q
abbrev obD (K : PySem.W.Frag) (n a w s f d : D) : D := .obj (He.ga K "Bead") BNs [n, a, w, s, f, d]
def sp__law_fields (K : PySem.W.Frag) : DSp := sp1 fun x G Q E => ∃ n a w s f d, x = obD K n a w s f d ∧ Q (.lst [n, a, w, s, f, d]) G
theorem rd__law_fields (K : PySem.W.Frag) (S : Sps) : ∀ ds G Q E, sp__law_fields K ds G Q E → t__law_fields K S { nx := fun _ G' => GhV Q .non G', rt := GhV Q } (fun cls fs _ G' => E cls fs G') (dstart N__law_fields ds) G := by
  intro ds G Q E h
  obtain ⟨_, rfl, n, a, w, s, f, d, rfl, q⟩ := sp1_of h
  unfold t__law_fields
  rw [show dstart N__law_fields [obD K n a w s f d] = [some (.obj (He.ga K "Bead") BNs [n, a, w, s, f, d])] from rfl]
  walk_at "dx"
  exact .done q
def sp__law_made (K : PySem.W.Frag) : DSp := sp2 fun x y G Q E => ∃ n a w s f d, ∃ i : Int, x = .tup [n, a, w, s, f, d] ∧ y = .int i ∧ Th n ∧ Th a ∧ Th w ∧ Th s ∧ Th f ∧ Th d ∧ (b6 n a w s f d = true → Q (obD K n a w s f d) G) ∧ (b6 n a w s f d = false → ∀ z : Str, E (.ref (He.ga K "BadBead")) [("why", .str z)] G)
theorem rd__law_made (K : PySem.W.Frag) (S : Sps) (e1 : S.f_Bead___init__ = sp_Bead___init__ K) : ∀ ds G Q E, sp__law_made K ds G Q E → t__law_made K S { nx := fun _ G' => GhV Q .non G', rt := GhV Q } (fun cls fs _ G' => E cls fs G') (dstart N__law_made ds) G := by
  intro ds G Q E h
  obtain ⟨_, _, rfl, n, a, w, s, f, d, i, rfl, rfl, hn, ha, hw, hs, hf, hd, q, r⟩ := sp2_of h
  unfold t__law_made
  rw [e1, show dstart N__law_made [.tup [n, a, w, s, f, d], .int i] = [some (.tup [n, a, w, s, f, d]), some (.int i), none, none, none, none, none, none] from rfl]
  walk_at "dx"
  refine i_c (fun h1 => ?_) (fun h1 => ?_)
  · walk_at "dx"
    exact fun p hp => ⟨p, rfl, hn, ha, hw, hs, hf, hd, rfl, fun hb => ⟨BNs, _, rfl, rfl, .done (q hb)⟩, fun hb z _ => r hb z⟩
  · walk_at "dx"
    refine i_c (fun h2 => ?_) (fun h2 => ?_)
    · walk_at "dx"
      exact ⟨rfl, rfl, fun p hp => ⟨p, rfl, hn, ha, hw, hs, hf, hd, rfl, fun hb => ⟨BNs, _, rfl, rfl, .done (q hb)⟩, fun hb z _ => r hb z⟩⟩
    · walk_at "dx"
      exact ⟨rfl, rfl, fun p hp => ⟨p, rfl, hn, ha, hw, hs, hf, hd, rfl, fun hb => ⟨BNs, _, rfl, rfl, .done (q hb)⟩, fun hb z _ => r hb z⟩⟩
def sp__law_told (K : PySem.W.Frag) : DSp := sp2 fun x y G Q E => ∃ n a w s f d, ∃ i : Int, x = .tup [n, a, w, s, f, d] ∧ y = .int i ∧ Th n ∧ Th a ∧ Th w ∧ Th s ∧ Th f ∧ Th d ∧ (b6 n a w s f d = true → Q (.lst [n, a, w, s, f, d]) G) ∧ (b6 n a w s f d = false → Q .non G)
theorem rd__law_told (K : PySem.W.Frag) (S : Sps) (xk : Xk K) (e1 : S.f__law_made = sp__law_made K) (e2 : S.f__law_fields = sp__law_fields K) : ∀ ds G Q E, sp__law_told K ds G Q E → t__law_told K S { nx := fun _ G' => GhV Q .non G', rt := GhV Q } (fun cls fs _ G' => E cls fs G') (dstart N__law_told ds) G := by
  intro ds G Q E h
  obtain ⟨_, _, rfl, n, a, w, s, f, d, i, rfl, rfl, hn, ha, hw, hs, hf, hd, q, q'⟩ := sp2_of h
  unfold t__law_told
  rw [e1, e2, show dstart N__law_told [.tup [n, a, w, s, f, d], .int i] = [some (.tup [n, a, w, s, f, d]), some (.int i), none, none] from rfl]
  walk_at "dx"
  refine run_all ⟨n, a, w, s, f, d, i, rfl, rfl, hn, ha, hw, hs, hf, hd, fun hb => ?_, fun hb z => ?_⟩
  · walk_at "dx"
    exact run_all ⟨n, a, w, s, f, d, rfl, .done (q hb)⟩
  · refine ⟨true, xk.m_BadBead_PearlError, fun _ ad d hd => ?_, fun h => by cases h⟩
    obtain ⟨dd, rfl⟩ := hd (by simp)
    have hm : ∀ (G0 : GS), (dd, Cell.xd [("why", D.str z)]) ∈ G0 ++ xdG (some dd) [("why", D.str z)] := fun G0 => List.mem_append_right _ (List.mem_singleton.mpr rfl)
    walk_at "dx"
    refine ⟨He.ga K "BadBead", List.mem_singleton.mpr rfl, rfl, ?_⟩
    walk_at "dx"
    refine ⟨dd, _, _, false, rfl, hm _, .cons (.own _) (.cons (.own _) (.cons (.own _) (.cons (.own _) (.cons (.own _) (.cons (.own _) (.cons (.own _) .nil)))))), xk.k_BadBead_BadDeed_BadLot_BadRule_BadText_NoRow_NoShare_NoSuch, ?_⟩
    walk_at "dx"
    refine ⟨He.ga K "BadBead", List.mem_singleton.mpr rfl, rfl, dd, _, _, _, true, rfl, rfl, hm _, rfl, xk.k_BadBead_BadBead, ?_⟩
    walk_at "dx"
    refine ⟨He.ga K "BadBead", List.mem_singleton.mpr rfl, rfl, dd, _, _, _, true, rfl, rfl, hm _, rfl, xk.k_BadBead_ValueError, ?_⟩
    walk_at "dx"
    exact .fgt (G' := G) (List.sublist_append_left _ _) (.done (q' hb))

end Pr
set_option Elab.async false
set_option linter.all false
set_option maxRecDepth 100000
set_option maxHeartbeats 4000000
namespace Pr
open PySem PyProof.Rows L2 DL DX
local macro_rules | `(tactic| walk_at "dl") => `(tactic| simp (config := {proj := false}) only [DL.n_nx, DL.n_rt, DL.n_bk, DL.n_ct, DL.eq_ii, DL.eq_ss, DL.eq_bb, DL.eq_nn, DL.eq_ni, DL.eq_in, DL.ne_ii, DL.ne_ss, DL.r_seq, DL.r_for, DL.r_if, DL.r_next, DL.r_ret, DL.r_retN, DL.r_brk, DL.r_cnt, DL.r_drop, DL.r_set, DL.r_asg, DL.r_gname, DL.r_gnil, DL.r_gcons, DL.r_gtup, DL.r_gsub, DL.r_name, DL.r_at0, DL.r_atS, DL.r_c, DL.r_op, DL.r_test, DL.r_tru, DL.r_and, DL.r_or, DL.r_not, DL.r_ife, DL.r_nil, DL.r_cons, DL.r_tup, DL.r_lst, DL.r_lstM, DL.r_cb, DL.r_call, DL.r_bm, DL.r_fld, DL.r_chain, DL.r_orT, DL.r_andT, DL.r_notT, DL.r_neg, DL.r_sl, DL.r_nop, DL.r_part, DL.r_slL, DL.r_slT, DL.r_slS, DL.r_lc, DL.r_lcM, DL.r_iter, DL.r_rng1, DL.r_rng2, DL.z_ch, DL.z_ts, DL.z_pt, DL.z_itL, DL.z_itT, DL.z_itS, DL.z_itR, DL.z_rg1, DL.z_rg2, DL.z_iT, DL.z_iF, DL.z_ft, DL.z_tf, DL.z_nt, DL.z_nf, DL.r_disp, DL.r_pnil, DL.r_pcons, DL.o_addI, DL.o_addS, DL.o_addL, DL.o_addT, DL.o_sub, DL.o_mulI, DL.o_mulS, DL.o_mulL, DL.o_div, DL.o_divZ, DL.o_mod, DL.o_modZ, DL.o_pow, DL.o_lt, DL.o_le, DL.o_gt, DL.o_ge, DL.o_isN, DL.o_isB, DL.o_isnN, DL.o_isnB, DL.o_ixL, DL.o_ixT, DL.o_ixS, DL.o_ixR, DL.c_lenL, DL.c_lenT, DL.c_lenS, DL.c_lenR, DL.c_intI, DL.c_intB, DL.c_intS, DL.c_int2, DL.c_strI, DL.c_strS, DL.c_abs, DL.c_max2, DL.c_min2, DL.q_non, DL.q_bl, DL.q_int, DL.q_str, DL.q_lst, DL.q_tup, DL.tym_s, DL.tym_l, DL.m_up, DL.m_low, DL.k_int_int, DL.k_int_bool, DL.k_int_str, DL.k_int_tuple, DL.k_int_list, DL.k_int_dict, DL.k_bl_int, DL.k_bl_bool, DL.k_bl_str, DL.k_bl_tuple, DL.k_bl_list, DL.k_bl_dict, DL.k_str_int, DL.k_str_bool, DL.k_str_str, DL.k_str_tuple, DL.k_str_list, DL.k_str_dict, DL.k_tup_int, DL.k_tup_bool, DL.k_tup_str, DL.k_tup_tuple, DL.k_tup_list, DL.k_tup_dict, DL.k_lst_int, DL.k_lst_bool, DL.k_lst_str, DL.k_lst_tuple, DL.k_lst_list, DL.k_lst_dict, DL.k_non_int, DL.k_non_bool, DL.k_non_str, DL.k_non_tuple, DL.k_non_list, DL.k_non_dict, DL.k_dic_int, DL.k_dic_bool, DL.k_dic_str, DL.k_dic_tuple, DL.k_dic_list, DL.k_dic_dict, DL.k_dit_int, DL.k_dit_bool, DL.k_dit_str, DL.k_dit_tuple, DL.k_dit_list, DL.k_dit_dict, DL.ls0, DL.lsS, DL.la0, DL.laS, DL.r_bind1, DL.r_wipe0, DL.r_wipeS, List.append_nil, true_and])
local macro_rules | `(tactic| walk_at "dw") => `(tactic| repeat (first | ((with_reducible apply DL.m_nm); (· exact rfl)) | (with_reducible refine DL.m_nx ?_) | (with_reducible refine DL.st DL.r_sortM ?_) | (with_reducible refine DL.st DL.r_sortS ?_) | (with_reducible refine DL.st DL.un_cons ?_) | (with_reducible refine DL.st DL.un_nil ?_) | (with_reducible refine DL.un_gh ?_) | (with_reducible refine DL.m_rt ?_) | (with_reducible refine DL.m_bk ?_) | (with_reducible refine DL.m_ct ?_) | (with_reducible refine DL.m_tr ?_) | (with_reducible refine DL.i_t ?_) | (with_reducible refine DL.i_f ?_) | (with_reducible refine DL.i_n ?_) | (with_reducible refine DL.m_tys ?_) | (with_reducible refine DL.m_tyl ?_) | (with_reducible refine DL.st DL.r_c ?_) | (with_reducible refine DL.st DL.r_par ?_) | (with_reducible refine DL.st DL.q_pr2 ?_) | (with_reducible refine DL.st DL.r_thru ?_) | (with_reducible refine DL.st DL.r_dic0 ?_) | (with_reducible refine DL.st DL.r_fmt ?_) | (with_reducible refine DL.st DL.r_join ?_) | (with_reducible refine DL.st DL.r_jnil ?_) | (with_reducible refine DL.st DL.r_jcons ?_) | (with_reducible refine DL.st DL.r_seqG ?_) | (with_reducible refine DL.st DL.r_raiseW ?_) | (with_reducible refine DL.st DX.r_tryMA ?_) | (with_reducible refine DL.st DX.r_raiseF ?_) | (with_reducible refine DL.st DX.r_methN ?_) | (with_reducible refine DL.st DL.r_tryAs ?_) | (with_reducible refine DL.st DL.q_fmtI ?_) | (with_reducible refine DL.st DL.q_fmtB ?_) | (with_reducible refine DL.st DL.q_fmtS ?_) | (with_reducible refine DL.st DL.r_cons ?_) | (with_reducible refine DL.st DL.r_nil ?_) | (with_reducible refine DL.st DL.r_op ?_) | (with_reducible refine DL.st DL.r_call ?_) | (with_reducible refine DL.st DL.r_cb ?_) | (with_reducible refine DL.st DL.r_seq ?_) | (with_reducible refine DL.st DL.r_set ?_) | (with_reducible refine DL.st DL.r_test ?_) | (with_reducible refine DL.st DL.r_tru ?_) | (with_reducible refine DL.st DL.z_ts ?_) | (with_reducible refine DL.st DL.q_bl ?_) | (with_reducible refine DL.st DL.r_if ?_) | (with_reducible refine DL.st DL.r_ret ?_) | (with_reducible refine DL.st DL.r_for ?_) | (with_reducible refine DL.st DL.r_next ?_) | (with_reducible refine DL.st DL.r_retN ?_) | (with_reducible refine DL.st DL.r_brk ?_) | (with_reducible refine DL.st DL.r_cnt ?_) | (with_reducible refine DL.st DL.r_drop ?_) | (with_reducible refine DL.st DL.r_asg ?_) | (with_reducible refine DL.st DL.r_gname ?_) | (with_reducible refine DL.st DL.r_gnil ?_) | (with_reducible refine DL.st DL.r_gcons ?_) | (with_reducible refine DL.st DL.r_gtup ?_) | (with_reducible refine DL.st DL.r_gsub ?_) | (with_reducible refine DL.st DL.r_and ?_) | (with_reducible refine DL.st DL.r_or ?_) | (with_reducible refine DL.st DL.r_not ?_) | (with_reducible refine DL.st DL.r_ife ?_) | (with_reducible refine DL.st DL.r_tup ?_) | (with_reducible refine DL.st DL.r_lst ?_) | (with_reducible refine DL.st DL.r_lstM ?_) | (with_reducible refine DL.st DL.r_bm ?_) | (with_reducible refine DL.st DL.r_fld ?_) | (with_reducible refine DL.st DL.r_chain ?_) | (with_reducible refine DL.st DL.r_orT ?_) | (with_reducible refine DL.st DL.r_andT ?_) | (with_reducible refine DL.st DL.r_notT ?_) | (with_reducible refine DL.st DL.r_neg ?_) | (with_reducible refine DL.st DL.r_sl ?_) | (with_reducible refine DL.st DL.r_nop ?_) | (with_reducible refine DL.st DL.r_part ?_) | (with_reducible refine DL.st DL.r_slL ?_) | (with_reducible refine DL.st DL.r_slT ?_) | (with_reducible refine DL.st DL.r_slS ?_) | (with_reducible refine DL.st DL.r_lc ?_) | (with_reducible refine DL.st DL.r_lcM ?_) | (with_reducible refine DL.st DL.r_iter ?_) | (with_reducible refine DL.st DL.r_rng1 ?_) | (with_reducible refine DL.st DL.r_rng2 ?_) | (with_reducible refine DL.st DL.z_ch ?_) | (with_reducible refine DL.st DL.z_pt ?_) | (with_reducible refine DL.st DL.z_itL ?_) | (with_reducible refine DL.st DL.z_itT ?_) | (with_reducible refine DL.st DL.z_itS ?_) | (with_reducible refine DL.st DL.z_itR ?_) | (with_reducible refine DL.st DL.z_rg1 ?_) | (with_reducible refine DL.st DL.z_rg2 ?_) | (with_reducible refine DL.st DL.r_disp ?_) | (with_reducible refine DL.st DL.r_pnil ?_) | (with_reducible refine DL.st DL.r_pcons ?_) | (with_reducible refine DL.st DL.o_addI ?_) | (with_reducible refine DL.st DL.o_addS ?_) | (with_reducible refine DL.st DL.o_addL ?_) | (with_reducible refine DL.st DL.o_addT ?_) | (with_reducible refine DL.st DL.o_sub ?_) | (with_reducible refine DL.st DL.o_mulI ?_) | (with_reducible refine DL.st DL.o_mulS ?_) | (with_reducible refine DL.st DL.o_mulL ?_) | (with_reducible refine DL.st DL.o_div ?_) | (with_reducible refine DL.st DL.o_divZ ?_) | (with_reducible refine DL.st DL.o_mod ?_) | (with_reducible refine DL.st DL.o_modZ ?_) | (with_reducible refine DL.st DL.o_pow ?_) | (with_reducible refine DL.st DL.o_lt ?_) | (with_reducible refine DL.st DL.o_le ?_) | (with_reducible refine DL.st DL.o_gt ?_) | (with_reducible refine DL.st DL.o_ge ?_) | (with_reducible refine DL.st DL.o_isN ?_) | (with_reducible refine DL.st DL.o_isB ?_) | (with_reducible refine DL.st DL.o_isnN ?_) | (with_reducible refine DL.st DL.o_isnB ?_) | (with_reducible refine DL.st DL.o_ixL ?_) | (with_reducible refine DL.st DL.o_ixT ?_) | (with_reducible refine DL.st DL.o_ixS ?_) | (with_reducible refine DL.st DL.o_ixR ?_) | (with_reducible refine DL.st DL.c_lenL ?_) | (with_reducible refine DL.st DL.c_lenT ?_) | (with_reducible refine DL.st DL.c_lenS ?_) | (with_reducible refine DL.st DL.c_lenR ?_) | (with_reducible refine DL.st DL.c_intI ?_) | (with_reducible refine DL.st DL.c_intB ?_) | (with_reducible refine DL.st DL.c_intS ?_) | (with_reducible refine DL.st DL.c_int2 ?_) | (with_reducible refine DL.st DL.c_strI ?_) | (with_reducible refine DL.st DL.c_strS ?_) | (with_reducible refine DL.st DL.c_abs ?_) | (with_reducible refine DL.st DL.c_max2 ?_) | (with_reducible refine DL.st DL.c_min2 ?_) | (with_reducible refine DL.st DL.q_non ?_) | (with_reducible refine DL.st DL.q_int ?_) | (with_reducible refine DL.st DL.q_str ?_) | (with_reducible refine DL.st DL.q_lst ?_) | (with_reducible refine DL.st DL.q_tup ?_) | (with_reducible refine DL.st DL.m_up ?_) | (with_reducible refine DL.st DL.m_low ?_) | (with_reducible refine DL.st DL.r_bind1 ?_) | (with_reducible refine DL.st DL.eq_ii ?_) | (with_reducible refine DL.st DL.eq_ss ?_) | (with_reducible refine DL.st DL.eq_bb ?_) | (with_reducible refine DL.st DL.eq_nn ?_) | (with_reducible refine DL.st DL.eq_ni ?_) | (with_reducible refine DL.st DL.eq_in ?_) | (with_reducible refine DL.st DL.ne_ii ?_) | (with_reducible refine DL.st DL.ne_ss ?_) | (with_reducible refine DL.st DL.r_make ?_) | (with_reducible refine DL.st DL.r_meth ?_) | (with_reducible refine DL.st DL.r_fldC ?_) | (with_reducible refine DL.st DL.r_fldS ?_) | (with_reducible refine DL.st DL.c_listL ?_) | (with_reducible refine DL.st DL.c_listT ?_) | (with_reducible refine DL.st DL.c_tupL ?_) | (with_reducible refine DL.st DL.c_tupT ?_) | (with_reducible refine DL.st DL.r_rev ?_) | (with_reducible refine DL.st DL.z_rvL ?_) | ((with_reducible apply DL.m_aug); (· exact rfl)) | (with_reducible refine DL.st DL.q_augI ?_) | (with_reducible refine DL.st DL.q_augS ?_) | (with_reducible refine DL.st DL.r_fmtR ?_) | (with_reducible refine DL.st DL.q_fmrS ?_) | (with_reducible refine DL.st DL.r_enum ?_) | (with_reducible refine DL.st DL.r_enumT ?_) | (with_reducible refine DL.st DL.z_enT ?_) | (with_reducible refine DL.st DL.z_enL ?_) | ((with_reducible apply DL.m_fobj); (· decide +kernel); (· exact rfl)) | ((with_reducible apply DL.m_mobj); (· decide +kernel)) | ((with_reducible apply DL.m_new); (· decide +kernel); (· exact rfl); (· exact rfl)) | (with_reducible refine DL.st DL.r_callN ?_) | (with_reducible refine DL.st DL.r_makeN ?_) | ((with_reducible apply DL.m_pkN); (· exact rfl); (· exact rfl); (· exact rfl)) | (with_reducible refine DL.s_int_int ?_) | (with_reducible refine DL.s_int_bool ?_) | (with_reducible refine DL.s_int_str ?_) | (with_reducible refine DL.s_int_tuple ?_) | (with_reducible refine DL.s_int_list ?_) | (with_reducible refine DL.s_int_dict ?_) | (with_reducible refine DL.s_bl_int ?_) | (with_reducible refine DL.s_bl_bool ?_) | (with_reducible refine DL.s_bl_str ?_) | (with_reducible refine DL.s_bl_tuple ?_) | (with_reducible refine DL.s_bl_list ?_) | (with_reducible refine DL.s_bl_dict ?_) | (with_reducible refine DL.s_str_int ?_) | (with_reducible refine DL.s_str_bool ?_) | (with_reducible refine DL.s_str_str ?_) | (with_reducible refine DL.s_str_tuple ?_) | (with_reducible refine DL.s_str_list ?_) | (with_reducible refine DL.s_str_dict ?_) | (with_reducible refine DL.s_tup_int ?_) | (with_reducible refine DL.s_tup_bool ?_) | (with_reducible refine DL.s_tup_str ?_) | (with_reducible refine DL.s_tup_tuple ?_) | (with_reducible refine DL.s_tup_list ?_) | (with_reducible refine DL.s_tup_dict ?_) | (with_reducible refine DL.s_lst_int ?_) | (with_reducible refine DL.s_lst_bool ?_) | (with_reducible refine DL.s_lst_str ?_) | (with_reducible refine DL.s_lst_tuple ?_) | (with_reducible refine DL.s_lst_list ?_) | (with_reducible refine DL.s_lst_dict ?_) | (with_reducible refine DL.s_non_int ?_) | (with_reducible refine DL.s_non_bool ?_) | (with_reducible refine DL.s_non_str ?_) | (with_reducible refine DL.s_non_tuple ?_) | (with_reducible refine DL.s_non_list ?_) | (with_reducible refine DL.s_non_dict ?_) | (with_reducible refine DL.s_dic_int ?_) | (with_reducible refine DL.s_dic_bool ?_) | (with_reducible refine DL.s_dic_str ?_) | (with_reducible refine DL.s_dic_tuple ?_) | (with_reducible refine DL.s_dic_list ?_) | (with_reducible refine DL.s_dic_dict ?_) | (with_reducible refine DL.s_dit_int ?_) | (with_reducible refine DL.s_dit_bool ?_) | (with_reducible refine DL.s_dit_str ?_) | (with_reducible refine DL.s_dit_tuple ?_) | (with_reducible refine DL.s_dit_list ?_) | (with_reducible refine DL.s_dit_dict ?_) | ((with_reducible refine DL.m_sz ?_ ?_); (· exact rfl)) | ((with_reducible refine DL.m_sz2 ?_ ?_); (· exact rfl)) | ((with_reducible refine DL.m_szs ?_ ?_); (· decide +kernel)) | (with_reducible refine DL.m_ty ?_) | ((with_reducible refine DL.m_ln ?_ ?_); (· exact rfl)) | ((with_reducible refine And.intro ?_ ?_); (· (first | with_reducible assumption | omega)))))
local macro_rules | `(tactic| walk_at "dx") => `(tactic| repeat (first | ((with_reducible apply DL.m_nm); (· exact rfl)) | (with_reducible refine DL.m_nx ?_) | ((with_reducible apply DL.ex_atI); (· (first | with_reducible assumption | exact rfl))) | (with_reducible refine DL.st DL.r_sortM ?_) | (with_reducible refine DL.st DL.r_sortS ?_) | (with_reducible refine DL.st DL.un_cons ?_) | (with_reducible refine DL.st DL.un_nil ?_) | (with_reducible refine DL.un_gh ?_) | (with_reducible refine DL.m_rt ?_) | (with_reducible refine DL.m_bk ?_) | (with_reducible refine DL.m_ct ?_) | (with_reducible refine DL.m_tr ?_) | (with_reducible refine DL.i_t ?_) | (with_reducible refine DL.i_f ?_) | (with_reducible refine DL.i_n ?_) | (with_reducible refine DL.m_tys ?_) | (with_reducible refine DL.m_tyl ?_) | (with_reducible refine DL.st DL.r_c ?_) | (with_reducible refine DL.st DL.r_par ?_) | (with_reducible refine DL.st DL.q_pr2 ?_) | (with_reducible refine DL.st DL.r_thru ?_) | (with_reducible refine DL.st DL.r_dic0 ?_) | (with_reducible refine DL.st DL.r_fmt ?_) | (with_reducible refine DL.st DL.r_join ?_) | (with_reducible refine DL.st DL.r_jnil ?_) | (with_reducible refine DL.st DL.r_jcons ?_) | (with_reducible refine DL.st DL.r_seqG ?_) | (with_reducible refine DL.st DL.r_raiseW ?_) | (with_reducible refine DL.st DX.r_tryMA ?_) | (with_reducible refine DL.st DX.r_raiseF ?_) | (with_reducible refine DL.st DX.r_methN ?_) | (with_reducible refine DL.st DL.r_tryAs ?_) | (with_reducible refine DL.st DL.q_fmtI ?_) | (with_reducible refine DL.st DL.q_fmtB ?_) | (with_reducible refine DL.st DL.q_fmtS ?_) | (with_reducible refine DL.st DL.r_cons ?_) | (with_reducible refine DL.st DL.r_nil ?_) | (with_reducible refine DL.st DL.r_op ?_) | (with_reducible refine DL.st DL.r_call ?_) | (with_reducible refine DL.st DL.r_cb ?_) | (with_reducible refine DL.st DL.r_seq ?_) | (with_reducible refine DL.st DL.r_set ?_) | (with_reducible refine DL.st DL.r_test ?_) | (with_reducible refine DL.st DL.r_tru ?_) | (with_reducible refine DL.st DL.z_ts ?_) | (with_reducible refine DL.st DL.q_bl ?_) | (with_reducible refine DL.st DL.r_if ?_) | (with_reducible refine DL.st DL.r_ret ?_) | (with_reducible refine DL.st DL.r_for ?_) | (with_reducible refine DL.st DL.r_next ?_) | (with_reducible refine DL.st DL.r_retN ?_) | (with_reducible refine DL.st DL.r_brk ?_) | (with_reducible refine DL.st DL.r_cnt ?_) | (with_reducible refine DL.st DL.r_drop ?_) | (with_reducible refine DL.st DL.r_asg ?_) | (with_reducible refine DL.st DL.r_gname ?_) | (with_reducible refine DL.st DL.r_gnil ?_) | (with_reducible refine DL.st DL.r_gcons ?_) | (with_reducible refine DL.st DL.r_gtup ?_) | (with_reducible refine DL.st DL.r_gsub ?_) | (with_reducible refine DL.st DL.r_and ?_) | (with_reducible refine DL.st DL.r_or ?_) | (with_reducible refine DL.st DL.r_not ?_) | (with_reducible refine DL.st DL.r_ife ?_) | (with_reducible refine DL.st DL.r_tup ?_) | (with_reducible refine DL.st DL.r_lst ?_) | (with_reducible refine DL.st DL.r_lstM ?_) | (with_reducible refine DL.st DL.r_bm ?_) | (with_reducible refine DL.st DL.r_fld ?_) | (with_reducible refine DL.st DL.r_chain ?_) | (with_reducible refine DL.st DL.r_orT ?_) | (with_reducible refine DL.st DL.r_andT ?_) | (with_reducible refine DL.st DL.r_notT ?_) | (with_reducible refine DL.st DL.r_neg ?_) | (with_reducible refine DL.st DL.r_sl ?_) | (with_reducible refine DL.st DL.r_nop ?_) | (with_reducible refine DL.st DL.r_part ?_) | (with_reducible refine DL.st DL.r_slL ?_) | (with_reducible refine DL.st DL.r_slT ?_) | (with_reducible refine DL.st DL.r_slS ?_) | (with_reducible refine DL.st DL.r_lc ?_) | (with_reducible refine DL.st DL.r_lcM ?_) | (with_reducible refine DL.st DL.r_iter ?_) | (with_reducible refine DL.st DL.r_rng1 ?_) | (with_reducible refine DL.st DL.r_rng2 ?_) | (with_reducible refine DL.st DL.z_ch ?_) | (with_reducible refine DL.st DL.z_pt ?_) | (with_reducible refine DL.st DL.z_itL ?_) | (with_reducible refine DL.st DL.z_itT ?_) | (with_reducible refine DL.st DL.z_itS ?_) | (with_reducible refine DL.st DL.z_itR ?_) | (with_reducible refine DL.st DL.z_rg1 ?_) | (with_reducible refine DL.st DL.z_rg2 ?_) | (with_reducible refine DL.st DL.r_disp ?_) | (with_reducible refine DL.st DL.r_pnil ?_) | (with_reducible refine DL.st DL.r_pcons ?_) | (with_reducible refine DL.st DL.o_addI ?_) | (with_reducible refine DL.st DL.o_addS ?_) | (with_reducible refine DL.st DL.o_addL ?_) | (with_reducible refine DL.st DL.o_addT ?_) | (with_reducible refine DL.st DL.o_sub ?_) | (with_reducible refine DL.st DL.o_mulI ?_) | (with_reducible refine DL.st DL.o_mulS ?_) | (with_reducible refine DL.st DL.o_mulL ?_) | (with_reducible refine DL.st DL.o_div ?_) | (with_reducible refine DL.st DL.o_divZ ?_) | (with_reducible refine DL.st DL.o_mod ?_) | (with_reducible refine DL.st DL.o_modZ ?_) | (with_reducible refine DL.st DL.o_pow ?_) | (with_reducible refine DL.st DL.o_lt ?_) | (with_reducible refine DL.st DL.o_le ?_) | (with_reducible refine DL.st DL.o_gt ?_) | (with_reducible refine DL.st DL.o_ge ?_) | (with_reducible refine DL.st DL.o_isN ?_) | (with_reducible refine DL.st DL.o_isB ?_) | (with_reducible refine DL.st DL.o_isnN ?_) | (with_reducible refine DL.st DL.o_isnB ?_) | (with_reducible refine DL.st DL.o_ixL ?_) | (with_reducible refine DL.st DL.o_ixT ?_) | (with_reducible refine DL.st DL.o_ixS ?_) | (with_reducible refine DL.st DL.o_ixR ?_) | (with_reducible refine DL.st DL.c_lenL ?_) | (with_reducible refine DL.st DL.c_lenT ?_) | (with_reducible refine DL.st DL.c_lenS ?_) | (with_reducible refine DL.st DL.c_lenR ?_) | (with_reducible refine DL.st DL.c_intI ?_) | (with_reducible refine DL.st DL.c_intB ?_) | (with_reducible refine DL.st DL.c_intS ?_) | (with_reducible refine DL.st DL.c_int2 ?_) | (with_reducible refine DL.st DL.c_strI ?_) | (with_reducible refine DL.st DL.c_strS ?_) | (with_reducible refine DL.st DL.c_abs ?_) | (with_reducible refine DL.st DL.c_max2 ?_) | (with_reducible refine DL.st DL.c_min2 ?_) | (with_reducible refine DL.st DL.q_non ?_) | (with_reducible refine DL.st DL.q_int ?_) | (with_reducible refine DL.st DL.q_str ?_) | (with_reducible refine DL.st DL.q_lst ?_) | (with_reducible refine DL.st DL.q_tup ?_) | (with_reducible refine DL.st DL.m_up ?_) | (with_reducible refine DL.st DL.m_low ?_) | (with_reducible refine DL.st DL.r_bind1 ?_) | (with_reducible refine DL.st DL.eq_ii ?_) | (with_reducible refine DL.st DL.eq_ss ?_) | (with_reducible refine DL.st DL.eq_bb ?_) | (with_reducible refine DL.st DL.eq_nn ?_) | (with_reducible refine DL.st DL.eq_ni ?_) | (with_reducible refine DL.st DL.eq_in ?_) | (with_reducible refine DL.st DL.ne_ii ?_) | (with_reducible refine DL.st DL.ne_ss ?_) | (with_reducible refine DL.st DL.r_make ?_) | (with_reducible refine DL.st DL.r_meth ?_) | (with_reducible refine DL.st DL.r_fldC ?_) | (with_reducible refine DL.st DL.r_fldS ?_) | (with_reducible refine DL.st DL.c_listL ?_) | (with_reducible refine DL.st DL.c_listT ?_) | (with_reducible refine DL.st DL.c_tupL ?_) | (with_reducible refine DL.st DL.c_tupT ?_) | (with_reducible refine DL.st DL.r_rev ?_) | (with_reducible refine DL.st DL.z_rvL ?_) | ((with_reducible apply DL.m_aug); (· exact rfl)) | (with_reducible refine DL.st DL.q_augI ?_) | (with_reducible refine DL.st DL.q_augS ?_) | (with_reducible refine DL.st DL.r_fmtR ?_) | (with_reducible refine DL.st DL.q_fmrS ?_) | (with_reducible refine DL.st DL.r_enum ?_) | (with_reducible refine DL.st DL.r_enumT ?_) | (with_reducible refine DL.st DL.z_enT ?_) | (with_reducible refine DL.st DL.z_enL ?_) | ((with_reducible apply DL.m_fobj); (· decide +kernel); (· exact rfl)) | ((with_reducible apply DL.m_mobj); (· decide +kernel)) | ((with_reducible apply DL.m_new); (· decide +kernel); (· exact rfl); (· exact rfl)) | (with_reducible refine DL.st DL.r_callN ?_) | (with_reducible refine DL.st DL.r_makeN ?_) | ((with_reducible apply DL.m_pkN); (· exact rfl); (· exact rfl); (· exact rfl)) | (with_reducible refine DL.s_int_int ?_) | (with_reducible refine DL.s_int_bool ?_) | (with_reducible refine DL.s_int_str ?_) | (with_reducible refine DL.s_int_tuple ?_) | (with_reducible refine DL.s_int_list ?_) | (with_reducible refine DL.s_int_dict ?_) | (with_reducible refine DL.s_bl_int ?_) | (with_reducible refine DL.s_bl_bool ?_) | (with_reducible refine DL.s_bl_str ?_) | (with_reducible refine DL.s_bl_tuple ?_) | (with_reducible refine DL.s_bl_list ?_) | (with_reducible refine DL.s_bl_dict ?_) | (with_reducible refine DL.s_str_int ?_) | (with_reducible refine DL.s_str_bool ?_) | (with_reducible refine DL.s_str_str ?_) | (with_reducible refine DL.s_str_tuple ?_) | (with_reducible refine DL.s_str_list ?_) | (with_reducible refine DL.s_str_dict ?_) | (with_reducible refine DL.s_tup_int ?_) | (with_reducible refine DL.s_tup_bool ?_) | (with_reducible refine DL.s_tup_str ?_) | (with_reducible refine DL.s_tup_tuple ?_) | (with_reducible refine DL.s_tup_list ?_) | (with_reducible refine DL.s_tup_dict ?_) | (with_reducible refine DL.s_lst_int ?_) | (with_reducible refine DL.s_lst_bool ?_) | (with_reducible refine DL.s_lst_str ?_) | (with_reducible refine DL.s_lst_tuple ?_) | (with_reducible refine DL.s_lst_list ?_) | (with_reducible refine DL.s_lst_dict ?_) | (with_reducible refine DL.s_non_int ?_) | (with_reducible refine DL.s_non_bool ?_) | (with_reducible refine DL.s_non_str ?_) | (with_reducible refine DL.s_non_tuple ?_) | (with_reducible refine DL.s_non_list ?_) | (with_reducible refine DL.s_non_dict ?_) | (with_reducible refine DL.s_dic_int ?_) | (with_reducible refine DL.s_dic_bool ?_) | (with_reducible refine DL.s_dic_str ?_) | (with_reducible refine DL.s_dic_tuple ?_) | (with_reducible refine DL.s_dic_list ?_) | (with_reducible refine DL.s_dic_dict ?_) | (with_reducible refine DL.s_dit_int ?_) | (with_reducible refine DL.s_dit_bool ?_) | (with_reducible refine DL.s_dit_str ?_) | (with_reducible refine DL.s_dit_tuple ?_) | (with_reducible refine DL.s_dit_list ?_) | (with_reducible refine DL.s_dit_dict ?_) | ((with_reducible refine DL.m_sz ?_ ?_); (· exact rfl)) | ((with_reducible refine DL.m_sz2 ?_ ?_); (· exact rfl)) | ((with_reducible refine DL.m_szs ?_ ?_); (· decide +kernel)) | (with_reducible refine DL.m_ty ?_) | ((with_reducible refine DL.m_ln ?_ ?_); (· exact rfl)) | ((with_reducible refine And.intro ?_ ?_); (· (first | with_reducible assumption | omega)))))
/-! ### texts by their signs -/
theorem str_ext {a b : Str} (h : a.cps.toList = b.cps.toList) : a = b := by
  obtain ⟨x⟩ := a
  obtain ⟨y⟩ := b
  have : x = y := by rw [← Array.toList_inj]; exact h
  rw [this]
def strL (l : List Nat) : Str := ⟨l.toArray⟩
theorem tl_strL {l : List Nat} : (strL l).cps.toList = l := by unfold strL; simp
theorem eq_strL {z : Str} {l : List Nat} (h : z.cps.toList = l) : z = strL l := str_ext (h.trans tl_strL.symm)
theorem len_app (a b : Str) : (a ++ b).length = a.length + b.length := by rw [len_cps, cps_app, List.length_append, ← len_cps, ← len_cps]
theorem sz_of {z : Str} {n : Nat} (h : z.length ≤ n) (hn : n ≤ 100000) : z.length ≤ sizeLine := Nat.le_trans (Nat.le_trans h hn) sizeLine_big
theorem len_int {i : Int} (h : i.natAbs.log2 < 1900) : (Str.ofString (toString i)).length ≤ 1921 := int_text_len_1921 (by omega)
theorem log_num {i : Int} (h : i.natAbs < 2 ^ 60) : i.natAbs.log2 < 1900 := by
  by_cases h0 : i.natAbs = 0
  · rw [h0]; decide
  · have := (Nat.log2_lt h0).mpr h
    omega
theorem print_small : ∀ c ∈ List.range' 97 26, Unicode.isPrintable c = true := by decide +kernel
theorem char_small {c : Nat} (h1 : 97 ≤ c) (h2 : c ≤ 122) : Builtin.Str.reprChar 39 c = [c] := by
  have hp := print_small c (List.mem_range'.mpr ⟨c - 97, by omega, by omega⟩)
  unfold Builtin.Str.reprChar
  rw [if_neg (by simp; omega), if_neg (by simp; omega), if_neg (by simp; omega), if_neg (by simp; omega), if_pos hp]
theorem fold_small : ∀ (l : List Nat) (acc : Array Nat), (∀ c ∈ l, 97 ≤ c ∧ c ≤ 122) → (l.foldl (fun out c => out ++ (Builtin.Str.reprChar 39 c).toArray) acc).toList = acc.toList ++ l
  | [], acc, _ => by simp
  | c :: l, acc, h => by
    have hc := h c List.mem_cons_self
    rw [List.foldl_cons, fold_small l _ (fun d hd => h d (List.mem_cons_of_mem _ hd)), char_small hc.1 hc.2]
    simp
theorem rep_small {z : Str} (h : ∀ c ∈ z.cps.toList, 97 ≤ c ∧ c ≤ 122) : (reprText z).cps.toList = 39 :: (z.cps.toList ++ [39]) := by
  have hq : reprQuote z = 39 := by
    unfold reprQuote
    have hn : z.cps.contains 39 = false := by
      rw [← Array.contains_toList]
      cases e : z.cps.toList.contains 39 with
      | false => rfl
      | true =>
        have := h 39 (List.contains_iff_mem.mp e)
        omega
    rw [hn]
    rfl
  unfold reprText
  rw [hq]
  show ((z.cps.foldl _ #[39]).push 39).toList = _
  rw [Array.toList_push, ← Array.foldl_toList, fold_small _ _ h]
  rfl
theorem let_in {c : Nat} (h : c ∈ LET.cps.toList) : 97 ≤ c ∧ c ≤ 122 := by
  have : ∀ d ∈ LET.cps.toList, 97 ≤ d ∧ d ≤ 122 := by decide +kernel
  exact this c h
theorem name_let {z : Str} (h : isName (.str z) = true) : (∀ c ∈ z.cps.toList, 97 ≤ c ∧ c ≤ 122) ∧ z.length ≤ 8 := by
  unfold isName at h
  simp only [Bool.and_eq_true, decide_eq_true_eq, allIn, List.all_eq_true] at h
  exact ⟨fun c hc => let_in (by simpa using h.2 c hc), by omega⟩
theorem rep_len {z : Str} (h : isName (.str z) = true) : (reprText z).length ≤ 10 := by
  obtain ⟨h1, h2⟩ := name_let h
  rw [len_cps, rep_small h1, List.length_cons, List.length_append, ← len_cps]
  simp
  omega
abbrev tl (z : Str) : List Nat := z.cps.toList

end Pr
set_option Elab.async false
set_option linter.all false
set_option maxRecDepth 100000
set_option maxHeartbeats 4000000
namespace Pr
open PySem PyProof.Rows L2 DL DX
local macro_rules | `(tactic| walk_at "dl") => `(tactic| simp (config := {proj := false}) only [DL.n_nx, DL.n_rt, DL.n_bk, DL.n_ct, DL.eq_ii, DL.eq_ss, DL.eq_bb, DL.eq_nn, DL.eq_ni, DL.eq_in, DL.ne_ii, DL.ne_ss, DL.r_seq, DL.r_for, DL.r_if, DL.r_next, DL.r_ret, DL.r_retN, DL.r_brk, DL.r_cnt, DL.r_drop, DL.r_set, DL.r_asg, DL.r_gname, DL.r_gnil, DL.r_gcons, DL.r_gtup, DL.r_gsub, DL.r_name, DL.r_at0, DL.r_atS, DL.r_c, DL.r_op, DL.r_test, DL.r_tru, DL.r_and, DL.r_or, DL.r_not, DL.r_ife, DL.r_nil, DL.r_cons, DL.r_tup, DL.r_lst, DL.r_lstM, DL.r_cb, DL.r_call, DL.r_bm, DL.r_fld, DL.r_chain, DL.r_orT, DL.r_andT, DL.r_notT, DL.r_neg, DL.r_sl, DL.r_nop, DL.r_part, DL.r_slL, DL.r_slT, DL.r_slS, DL.r_lc, DL.r_lcM, DL.r_iter, DL.r_rng1, DL.r_rng2, DL.z_ch, DL.z_ts, DL.z_pt, DL.z_itL, DL.z_itT, DL.z_itS, DL.z_itR, DL.z_rg1, DL.z_rg2, DL.z_iT, DL.z_iF, DL.z_ft, DL.z_tf, DL.z_nt, DL.z_nf, DL.r_disp, DL.r_pnil, DL.r_pcons, DL.o_addI, DL.o_addS, DL.o_addL, DL.o_addT, DL.o_sub, DL.o_mulI, DL.o_mulS, DL.o_mulL, DL.o_div, DL.o_divZ, DL.o_mod, DL.o_modZ, DL.o_pow, DL.o_lt, DL.o_le, DL.o_gt, DL.o_ge, DL.o_isN, DL.o_isB, DL.o_isnN, DL.o_isnB, DL.o_ixL, DL.o_ixT, DL.o_ixS, DL.o_ixR, DL.c_lenL, DL.c_lenT, DL.c_lenS, DL.c_lenR, DL.c_intI, DL.c_intB, DL.c_intS, DL.c_int2, DL.c_strI, DL.c_strS, DL.c_abs, DL.c_max2, DL.c_min2, DL.q_non, DL.q_bl, DL.q_int, DL.q_str, DL.q_lst, DL.q_tup, DL.tym_s, DL.tym_l, DL.m_up, DL.m_low, DL.k_int_int, DL.k_int_bool, DL.k_int_str, DL.k_int_tuple, DL.k_int_list, DL.k_int_dict, DL.k_bl_int, DL.k_bl_bool, DL.k_bl_str, DL.k_bl_tuple, DL.k_bl_list, DL.k_bl_dict, DL.k_str_int, DL.k_str_bool, DL.k_str_str, DL.k_str_tuple, DL.k_str_list, DL.k_str_dict, DL.k_tup_int, DL.k_tup_bool, DL.k_tup_str, DL.k_tup_tuple, DL.k_tup_list, DL.k_tup_dict, DL.k_lst_int, DL.k_lst_bool, DL.k_lst_str, DL.k_lst_tuple, DL.k_lst_list, DL.k_lst_dict, DL.k_non_int, DL.k_non_bool, DL.k_non_str, DL.k_non_tuple, DL.k_non_list, DL.k_non_dict, DL.k_dic_int, DL.k_dic_bool, DL.k_dic_str, DL.k_dic_tuple, DL.k_dic_list, DL.k_dic_dict, DL.k_dit_int, DL.k_dit_bool, DL.k_dit_str, DL.k_dit_tuple, DL.k_dit_list, DL.k_dit_dict, DL.ls0, DL.lsS, DL.la0, DL.laS, DL.r_bind1, DL.r_wipe0, DL.r_wipeS, List.append_nil, true_and])
local macro_rules | `(tactic| walk_at "dw") => `(tactic| repeat (first | ((with_reducible apply DL.m_nm); (· exact rfl)) | (with_reducible refine DL.m_nx ?_) | (with_reducible refine DL.st DL.r_sortM ?_) | (with_reducible refine DL.st DL.r_sortS ?_) | (with_reducible refine DL.st DL.un_cons ?_) | (with_reducible refine DL.st DL.un_nil ?_) | (with_reducible refine DL.un_gh ?_) | (with_reducible refine DL.m_rt ?_) | (with_reducible refine DL.m_bk ?_) | (with_reducible refine DL.m_ct ?_) | (with_reducible refine DL.m_tr ?_) | (with_reducible refine DL.i_t ?_) | (with_reducible refine DL.i_f ?_) | (with_reducible refine DL.i_n ?_) | (with_reducible refine DL.m_tys ?_) | (with_reducible refine DL.m_tyl ?_) | (with_reducible refine DL.st DL.r_c ?_) | (with_reducible refine DL.st DL.r_par ?_) | (with_reducible refine DL.st DL.q_pr2 ?_) | (with_reducible refine DL.st DL.r_thru ?_) | (with_reducible refine DL.st DL.r_dic0 ?_) | (with_reducible refine DL.st DL.r_fmt ?_) | (with_reducible refine DL.st DL.r_join ?_) | (with_reducible refine DL.st DL.r_jnil ?_) | (with_reducible refine DL.st DL.r_jcons ?_) | (with_reducible refine DL.st DL.r_seqG ?_) | (with_reducible refine DL.st DL.r_raiseW ?_) | (with_reducible refine DL.st DX.r_tryMA ?_) | (with_reducible refine DL.st DX.r_raiseF ?_) | (with_reducible refine DL.st DX.r_methN ?_) | (with_reducible refine DL.st DL.r_tryAs ?_) | (with_reducible refine DL.st DL.q_fmtI ?_) | (with_reducible refine DL.st DL.q_fmtB ?_) | (with_reducible refine DL.st DL.q_fmtS ?_) | (with_reducible refine DL.st DL.r_cons ?_) | (with_reducible refine DL.st DL.r_nil ?_) | (with_reducible refine DL.st DL.r_op ?_) | (with_reducible refine DL.st DL.r_call ?_) | (with_reducible refine DL.st DL.r_cb ?_) | (with_reducible refine DL.st DL.r_seq ?_) | (with_reducible refine DL.st DL.r_set ?_) | (with_reducible refine DL.st DL.r_test ?_) | (with_reducible refine DL.st DL.r_tru ?_) | (with_reducible refine DL.st DL.z_ts ?_) | (with_reducible refine DL.st DL.q_bl ?_) | (with_reducible refine DL.st DL.r_if ?_) | (with_reducible refine DL.st DL.r_ret ?_) | (with_reducible refine DL.st DL.r_for ?_) | (with_reducible refine DL.st DL.r_next ?_) | (with_reducible refine DL.st DL.r_retN ?_) | (with_reducible refine DL.st DL.r_brk ?_) | (with_reducible refine DL.st DL.r_cnt ?_) | (with_reducible refine DL.st DL.r_drop ?_) | (with_reducible refine DL.st DL.r_asg ?_) | (with_reducible refine DL.st DL.r_gname ?_) | (with_reducible refine DL.st DL.r_gnil ?_) | (with_reducible refine DL.st DL.r_gcons ?_) | (with_reducible refine DL.st DL.r_gtup ?_) | (with_reducible refine DL.st DL.r_gsub ?_) | (with_reducible refine DL.st DL.r_and ?_) | (with_reducible refine DL.st DL.r_or ?_) | (with_reducible refine DL.st DL.r_not ?_) | (with_reducible refine DL.st DL.r_ife ?_) | (with_reducible refine DL.st DL.r_tup ?_) | (with_reducible refine DL.st DL.r_lst ?_) | (with_reducible refine DL.st DL.r_lstM ?_) | (with_reducible refine DL.st DL.r_bm ?_) | (with_reducible refine DL.st DL.r_fld ?_) | (with_reducible refine DL.st DL.r_chain ?_) | (with_reducible refine DL.st DL.r_orT ?_) | (with_reducible refine DL.st DL.r_andT ?_) | (with_reducible refine DL.st DL.r_notT ?_) | (with_reducible refine DL.st DL.r_neg ?_) | (with_reducible refine DL.st DL.r_sl ?_) | (with_reducible refine DL.st DL.r_nop ?_) | (with_reducible refine DL.st DL.r_part ?_) | (with_reducible refine DL.st DL.r_slL ?_) | (with_reducible refine DL.st DL.r_slT ?_) | (with_reducible refine DL.st DL.r_slS ?_) | (with_reducible refine DL.st DL.r_lc ?_) | (with_reducible refine DL.st DL.r_lcM ?_) | (with_reducible refine DL.st DL.r_iter ?_) | (with_reducible refine DL.st DL.r_rng1 ?_) | (with_reducible refine DL.st DL.r_rng2 ?_) | (with_reducible refine DL.st DL.z_ch ?_) | (with_reducible refine DL.st DL.z_pt ?_) | (with_reducible refine DL.st DL.z_itL ?_) | (with_reducible refine DL.st DL.z_itT ?_) | (with_reducible refine DL.st DL.z_itS ?_) | (with_reducible refine DL.st DL.z_itR ?_) | (with_reducible refine DL.st DL.z_rg1 ?_) | (with_reducible refine DL.st DL.z_rg2 ?_) | (with_reducible refine DL.st DL.r_disp ?_) | (with_reducible refine DL.st DL.r_pnil ?_) | (with_reducible refine DL.st DL.r_pcons ?_) | (with_reducible refine DL.st DL.o_addI ?_) | (with_reducible refine DL.st DL.o_addS ?_) | (with_reducible refine DL.st DL.o_addL ?_) | (with_reducible refine DL.st DL.o_addT ?_) | (with_reducible refine DL.st DL.o_sub ?_) | (with_reducible refine DL.st DL.o_mulI ?_) | (with_reducible refine DL.st DL.o_mulS ?_) | (with_reducible refine DL.st DL.o_mulL ?_) | (with_reducible refine DL.st DL.o_div ?_) | (with_reducible refine DL.st DL.o_divZ ?_) | (with_reducible refine DL.st DL.o_mod ?_) | (with_reducible refine DL.st DL.o_modZ ?_) | (with_reducible refine DL.st DL.o_pow ?_) | (with_reducible refine DL.st DL.o_lt ?_) | (with_reducible refine DL.st DL.o_le ?_) | (with_reducible refine DL.st DL.o_gt ?_) | (with_reducible refine DL.st DL.o_ge ?_) | (with_reducible refine DL.st DL.o_isN ?_) | (with_reducible refine DL.st DL.o_isB ?_) | (with_reducible refine DL.st DL.o_isnN ?_) | (with_reducible refine DL.st DL.o_isnB ?_) | (with_reducible refine DL.st DL.o_ixL ?_) | (with_reducible refine DL.st DL.o_ixT ?_) | (with_reducible refine DL.st DL.o_ixS ?_) | (with_reducible refine DL.st DL.o_ixR ?_) | (with_reducible refine DL.st DL.c_lenL ?_) | (with_reducible refine DL.st DL.c_lenT ?_) | (with_reducible refine DL.st DL.c_lenS ?_) | (with_reducible refine DL.st DL.c_lenR ?_) | (with_reducible refine DL.st DL.c_intI ?_) | (with_reducible refine DL.st DL.c_intB ?_) | (with_reducible refine DL.st DL.c_intS ?_) | (with_reducible refine DL.st DL.c_int2 ?_) | (with_reducible refine DL.st DL.c_strI ?_) | (with_reducible refine DL.st DL.c_strS ?_) | (with_reducible refine DL.st DL.c_abs ?_) | (with_reducible refine DL.st DL.c_max2 ?_) | (with_reducible refine DL.st DL.c_min2 ?_) | (with_reducible refine DL.st DL.q_non ?_) | (with_reducible refine DL.st DL.q_int ?_) | (with_reducible refine DL.st DL.q_str ?_) | (with_reducible refine DL.st DL.q_lst ?_) | (with_reducible refine DL.st DL.q_tup ?_) | (with_reducible refine DL.st DL.m_up ?_) | (with_reducible refine DL.st DL.m_low ?_) | (with_reducible refine DL.st DL.r_bind1 ?_) | (with_reducible refine DL.st DL.eq_ii ?_) | (with_reducible refine DL.st DL.eq_ss ?_) | (with_reducible refine DL.st DL.eq_bb ?_) | (with_reducible refine DL.st DL.eq_nn ?_) | (with_reducible refine DL.st DL.eq_ni ?_) | (with_reducible refine DL.st DL.eq_in ?_) | (with_reducible refine DL.st DL.ne_ii ?_) | (with_reducible refine DL.st DL.ne_ss ?_) | (with_reducible refine DL.st DL.r_make ?_) | (with_reducible refine DL.st DL.r_meth ?_) | (with_reducible refine DL.st DL.r_fldC ?_) | (with_reducible refine DL.st DL.r_fldS ?_) | (with_reducible refine DL.st DL.c_listL ?_) | (with_reducible refine DL.st DL.c_listT ?_) | (with_reducible refine DL.st DL.c_tupL ?_) | (with_reducible refine DL.st DL.c_tupT ?_) | (with_reducible refine DL.st DL.r_rev ?_) | (with_reducible refine DL.st DL.z_rvL ?_) | ((with_reducible apply DL.m_aug); (· exact rfl)) | (with_reducible refine DL.st DL.q_augI ?_) | (with_reducible refine DL.st DL.q_augS ?_) | (with_reducible refine DL.st DL.r_fmtR ?_) | (with_reducible refine DL.st DL.q_fmrS ?_) | (with_reducible refine DL.st DL.r_enum ?_) | (with_reducible refine DL.st DL.r_enumT ?_) | (with_reducible refine DL.st DL.z_enT ?_) | (with_reducible refine DL.st DL.z_enL ?_) | ((with_reducible apply DL.m_fobj); (· decide +kernel); (· exact rfl)) | ((with_reducible apply DL.m_mobj); (· decide +kernel)) | ((with_reducible apply DL.m_new); (· decide +kernel); (· exact rfl); (· exact rfl)) | (with_reducible refine DL.st DL.r_callN ?_) | (with_reducible refine DL.st DL.r_makeN ?_) | ((with_reducible apply DL.m_pkN); (· exact rfl); (· exact rfl); (· exact rfl)) | (with_reducible refine DL.s_int_int ?_) | (with_reducible refine DL.s_int_bool ?_) | (with_reducible refine DL.s_int_str ?_) | (with_reducible refine DL.s_int_tuple ?_) | (with_reducible refine DL.s_int_list ?_) | (with_reducible refine DL.s_int_dict ?_) | (with_reducible refine DL.s_bl_int ?_) | (with_reducible refine DL.s_bl_bool ?_) | (with_reducible refine DL.s_bl_str ?_) | (with_reducible refine DL.s_bl_tuple ?_) | (with_reducible refine DL.s_bl_list ?_) | (with_reducible refine DL.s_bl_dict ?_) | (with_reducible refine DL.s_str_int ?_) | (with_reducible refine DL.s_str_bool ?_) | (with_reducible refine DL.s_str_str ?_) | (with_reducible refine DL.s_str_tuple ?_) | (with_reducible refine DL.s_str_list ?_) | (with_reducible refine DL.s_str_dict ?_) | (with_reducible refine DL.s_tup_int ?_) | (with_reducible refine DL.s_tup_bool ?_) | (with_reducible refine DL.s_tup_str ?_) | (with_reducible refine DL.s_tup_tuple ?_) | (with_reducible refine DL.s_tup_list ?_) | (with_reducible refine DL.s_tup_dict ?_) | (with_reducible refine DL.s_lst_int ?_) | (with_reducible refine DL.s_lst_bool ?_) | (with_reducible refine DL.s_lst_str ?_) | (with_reducible refine DL.s_lst_tuple ?_) | (with_reducible refine DL.s_lst_list ?_) | (with_reducible refine DL.s_lst_dict ?_) | (with_reducible refine DL.s_non_int ?_) | (with_reducible refine DL.s_non_bool ?_) | (with_reducible refine DL.s_non_str ?_) | (with_reducible refine DL.s_non_tuple ?_) | (with_reducible refine DL.s_non_list ?_) | (with_reducible refine DL.s_non_dict ?_) | (with_reducible refine DL.s_dic_int ?_) | (with_reducible refine DL.s_dic_bool ?_) | (with_reducible refine DL.s_dic_str ?_) | (with_reducible refine DL.s_dic_tuple ?_) | (with_reducible refine DL.s_dic_list ?_) | (with_reducible refine DL.s_dic_dict ?_) | (with_reducible refine DL.s_dit_int ?_) | (with_reducible refine DL.s_dit_bool ?_) | (with_reducible refine DL.s_dit_str ?_) | (with_reducible refine DL.s_dit_tuple ?_) | (with_reducible refine DL.s_dit_list ?_) | (with_reducible refine DL.s_dit_dict ?_) | ((with_reducible refine DL.m_sz ?_ ?_); (· exact rfl)) | ((with_reducible refine DL.m_sz2 ?_ ?_); (· exact rfl)) | ((with_reducible refine DL.m_szs ?_ ?_); (· decide +kernel)) | (with_reducible refine DL.m_ty ?_) | ((with_reducible refine DL.m_ln ?_ ?_); (· exact rfl)) | ((with_reducible refine And.intro ?_ ?_); (· (first | with_reducible assumption | omega)))))
local macro_rules | `(tactic| walk_at "dx") => `(tactic| repeat (first | ((with_reducible apply DL.m_nm); (· exact rfl)) | (with_reducible refine DL.m_nx ?_) | ((with_reducible apply DL.ex_atI); (· (first | with_reducible assumption | exact rfl))) | (with_reducible refine DL.st DL.r_sortM ?_) | (with_reducible refine DL.st DL.r_sortS ?_) | (with_reducible refine DL.st DL.un_cons ?_) | (with_reducible refine DL.st DL.un_nil ?_) | (with_reducible refine DL.un_gh ?_) | (with_reducible refine DL.m_rt ?_) | (with_reducible refine DL.m_bk ?_) | (with_reducible refine DL.m_ct ?_) | (with_reducible refine DL.m_tr ?_) | (with_reducible refine DL.i_t ?_) | (with_reducible refine DL.i_f ?_) | (with_reducible refine DL.i_n ?_) | (with_reducible refine DL.m_tys ?_) | (with_reducible refine DL.m_tyl ?_) | (with_reducible refine DL.st DL.r_c ?_) | (with_reducible refine DL.st DL.r_par ?_) | (with_reducible refine DL.st DL.q_pr2 ?_) | (with_reducible refine DL.st DL.r_thru ?_) | (with_reducible refine DL.st DL.r_dic0 ?_) | (with_reducible refine DL.st DL.r_fmt ?_) | (with_reducible refine DL.st DL.r_join ?_) | (with_reducible refine DL.st DL.r_jnil ?_) | (with_reducible refine DL.st DL.r_jcons ?_) | (with_reducible refine DL.st DL.r_seqG ?_) | (with_reducible refine DL.st DL.r_raiseW ?_) | (with_reducible refine DL.st DX.r_tryMA ?_) | (with_reducible refine DL.st DX.r_raiseF ?_) | (with_reducible refine DL.st DX.r_methN ?_) | (with_reducible refine DL.st DL.r_tryAs ?_) | (with_reducible refine DL.st DL.q_fmtI ?_) | (with_reducible refine DL.st DL.q_fmtB ?_) | (with_reducible refine DL.st DL.q_fmtS ?_) | (with_reducible refine DL.st DL.r_cons ?_) | (with_reducible refine DL.st DL.r_nil ?_) | (with_reducible refine DL.st DL.r_op ?_) | (with_reducible refine DL.st DL.r_call ?_) | (with_reducible refine DL.st DL.r_cb ?_) | (with_reducible refine DL.st DL.r_seq ?_) | (with_reducible refine DL.st DL.r_set ?_) | (with_reducible refine DL.st DL.r_test ?_) | (with_reducible refine DL.st DL.r_tru ?_) | (with_reducible refine DL.st DL.z_ts ?_) | (with_reducible refine DL.st DL.q_bl ?_) | (with_reducible refine DL.st DL.r_if ?_) | (with_reducible refine DL.st DL.r_ret ?_) | (with_reducible refine DL.st DL.r_for ?_) | (with_reducible refine DL.st DL.r_next ?_) | (with_reducible refine DL.st DL.r_retN ?_) | (with_reducible refine DL.st DL.r_brk ?_) | (with_reducible refine DL.st DL.r_cnt ?_) | (with_reducible refine DL.st DL.r_drop ?_) | (with_reducible refine DL.st DL.r_asg ?_) | (with_reducible refine DL.st DL.r_gname ?_) | (with_reducible refine DL.st DL.r_gnil ?_) | (with_reducible refine DL.st DL.r_gcons ?_) | (with_reducible refine DL.st DL.r_gtup ?_) | (with_reducible refine DL.st DL.r_gsub ?_) | (with_reducible refine DL.st DL.r_and ?_) | (with_reducible refine DL.st DL.r_or ?_) | (with_reducible refine DL.st DL.r_not ?_) | (with_reducible refine DL.st DL.r_ife ?_) | (with_reducible refine DL.st DL.r_tup ?_) | (with_reducible refine DL.st DL.r_lst ?_) | (with_reducible refine DL.st DL.r_lstM ?_) | (with_reducible refine DL.st DL.r_bm ?_) | (with_reducible refine DL.st DL.r_fld ?_) | (with_reducible refine DL.st DL.r_chain ?_) | (with_reducible refine DL.st DL.r_orT ?_) | (with_reducible refine DL.st DL.r_andT ?_) | (with_reducible refine DL.st DL.r_notT ?_) | (with_reducible refine DL.st DL.r_neg ?_) | (with_reducible refine DL.st DL.r_sl ?_) | (with_reducible refine DL.st DL.r_nop ?_) | (with_reducible refine DL.st DL.r_part ?_) | (with_reducible refine DL.st DL.r_slL ?_) | (with_reducible refine DL.st DL.r_slT ?_) | (with_reducible refine DL.st DL.r_slS ?_) | (with_reducible refine DL.st DL.r_lc ?_) | (with_reducible refine DL.st DL.r_lcM ?_) | (with_reducible refine DL.st DL.r_iter ?_) | (with_reducible refine DL.st DL.r_rng1 ?_) | (with_reducible refine DL.st DL.r_rng2 ?_) | (with_reducible refine DL.st DL.z_ch ?_) | (with_reducible refine DL.st DL.z_pt ?_) | (with_reducible refine DL.st DL.z_itL ?_) | (with_reducible refine DL.st DL.z_itT ?_) | (with_reducible refine DL.st DL.z_itS ?_) | (with_reducible refine DL.st DL.z_itR ?_) | (with_reducible refine DL.st DL.z_rg1 ?_) | (with_reducible refine DL.st DL.z_rg2 ?_) | (with_reducible refine DL.st DL.r_disp ?_) | (with_reducible refine DL.st DL.r_pnil ?_) | (with_reducible refine DL.st DL.r_pcons ?_) | (with_reducible refine DL.st DL.o_addI ?_) | (with_reducible refine DL.st DL.o_addS ?_) | (with_reducible refine DL.st DL.o_addL ?_) | (with_reducible refine DL.st DL.o_addT ?_) | (with_reducible refine DL.st DL.o_sub ?_) | (with_reducible refine DL.st DL.o_mulI ?_) | (with_reducible refine DL.st DL.o_mulS ?_) | (with_reducible refine DL.st DL.o_mulL ?_) | (with_reducible refine DL.st DL.o_div ?_) | (with_reducible refine DL.st DL.o_divZ ?_) | (with_reducible refine DL.st DL.o_mod ?_) | (with_reducible refine DL.st DL.o_modZ ?_) | (with_reducible refine DL.st DL.o_pow ?_) | (with_reducible refine DL.st DL.o_lt ?_) | (with_reducible refine DL.st DL.o_le ?_) | (with_reducible refine DL.st DL.o_gt ?_) | (with_reducible refine DL.st DL.o_ge ?_) | (with_reducible refine DL.st DL.o_isN ?_) | (with_reducible refine DL.st DL.o_isB ?_) | (with_reducible refine DL.st DL.o_isnN ?_) | (with_reducible refine DL.st DL.o_isnB ?_) | (with_reducible refine DL.st DL.o_ixL ?_) | (with_reducible refine DL.st DL.o_ixT ?_) | (with_reducible refine DL.st DL.o_ixS ?_) | (with_reducible refine DL.st DL.o_ixR ?_) | (with_reducible refine DL.st DL.c_lenL ?_) | (with_reducible refine DL.st DL.c_lenT ?_) | (with_reducible refine DL.st DL.c_lenS ?_) | (with_reducible refine DL.st DL.c_lenR ?_) | (with_reducible refine DL.st DL.c_intI ?_) | (with_reducible refine DL.st DL.c_intB ?_) | (with_reducible refine DL.st DL.c_intS ?_) | (with_reducible refine DL.st DL.c_int2 ?_) | (with_reducible refine DL.st DL.c_strI ?_) | (with_reducible refine DL.st DL.c_strS ?_) | (with_reducible refine DL.st DL.c_abs ?_) | (with_reducible refine DL.st DL.c_max2 ?_) | (with_reducible refine DL.st DL.c_min2 ?_) | (with_reducible refine DL.st DL.q_non ?_) | (with_reducible refine DL.st DL.q_int ?_) | (with_reducible refine DL.st DL.q_str ?_) | (with_reducible refine DL.st DL.q_lst ?_) | (with_reducible refine DL.st DL.q_tup ?_) | (with_reducible refine DL.st DL.m_up ?_) | (with_reducible refine DL.st DL.m_low ?_) | (with_reducible refine DL.st DL.r_bind1 ?_) | (with_reducible refine DL.st DL.eq_ii ?_) | (with_reducible refine DL.st DL.eq_ss ?_) | (with_reducible refine DL.st DL.eq_bb ?_) | (with_reducible refine DL.st DL.eq_nn ?_) | (with_reducible refine DL.st DL.eq_ni ?_) | (with_reducible refine DL.st DL.eq_in ?_) | (with_reducible refine DL.st DL.ne_ii ?_) | (with_reducible refine DL.st DL.ne_ss ?_) | (with_reducible refine DL.st DL.r_make ?_) | (with_reducible refine DL.st DL.r_meth ?_) | (with_reducible refine DL.st DL.r_fldC ?_) | (with_reducible refine DL.st DL.r_fldS ?_) | (with_reducible refine DL.st DL.c_listL ?_) | (with_reducible refine DL.st DL.c_listT ?_) | (with_reducible refine DL.st DL.c_tupL ?_) | (with_reducible refine DL.st DL.c_tupT ?_) | (with_reducible refine DL.st DL.r_rev ?_) | (with_reducible refine DL.st DL.z_rvL ?_) | ((with_reducible apply DL.m_aug); (· exact rfl)) | (with_reducible refine DL.st DL.q_augI ?_) | (with_reducible refine DL.st DL.q_augS ?_) | (with_reducible refine DL.st DL.r_fmtR ?_) | (with_reducible refine DL.st DL.q_fmrS ?_) | (with_reducible refine DL.st DL.r_enum ?_) | (with_reducible refine DL.st DL.r_enumT ?_) | (with_reducible refine DL.st DL.z_enT ?_) | (with_reducible refine DL.st DL.z_enL ?_) | ((with_reducible apply DL.m_fobj); (· decide +kernel); (· exact rfl)) | ((with_reducible apply DL.m_mobj); (· decide +kernel)) | ((with_reducible apply DL.m_new); (· decide +kernel); (· exact rfl); (· exact rfl)) | (with_reducible refine DL.st DL.r_callN ?_) | (with_reducible refine DL.st DL.r_makeN ?_) | ((with_reducible apply DL.m_pkN); (· exact rfl); (· exact rfl); (· exact rfl)) | (with_reducible refine DL.s_int_int ?_) | (with_reducible refine DL.s_int_bool ?_) | (with_reducible refine DL.s_int_str ?_) | (with_reducible refine DL.s_int_tuple ?_) | (with_reducible refine DL.s_int_list ?_) | (with_reducible refine DL.s_int_dict ?_) | (with_reducible refine DL.s_bl_int ?_) | (with_reducible refine DL.s_bl_bool ?_) | (with_reducible refine DL.s_bl_str ?_) | (with_reducible refine DL.s_bl_tuple ?_) | (with_reducible refine DL.s_bl_list ?_) | (with_reducible refine DL.s_bl_dict ?_) | (with_reducible refine DL.s_str_int ?_) | (with_reducible refine DL.s_str_bool ?_) | (with_reducible refine DL.s_str_str ?_) | (with_reducible refine DL.s_str_tuple ?_) | (with_reducible refine DL.s_str_list ?_) | (with_reducible refine DL.s_str_dict ?_) | (with_reducible refine DL.s_tup_int ?_) | (with_reducible refine DL.s_tup_bool ?_) | (with_reducible refine DL.s_tup_str ?_) | (with_reducible refine DL.s_tup_tuple ?_) | (with_reducible refine DL.s_tup_list ?_) | (with_reducible refine DL.s_tup_dict ?_) | (with_reducible refine DL.s_lst_int ?_) | (with_reducible refine DL.s_lst_bool ?_) | (with_reducible refine DL.s_lst_str ?_) | (with_reducible refine DL.s_lst_tuple ?_) | (with_reducible refine DL.s_lst_list ?_) | (with_reducible refine DL.s_lst_dict ?_) | (with_reducible refine DL.s_non_int ?_) | (with_reducible refine DL.s_non_bool ?_) | (with_reducible refine DL.s_non_str ?_) | (with_reducible refine DL.s_non_tuple ?_) | (with_reducible refine DL.s_non_list ?_) | (with_reducible refine DL.s_non_dict ?_) | (with_reducible refine DL.s_dic_int ?_) | (with_reducible refine DL.s_dic_bool ?_) | (with_reducible refine DL.s_dic_str ?_) | (with_reducible refine DL.s_dic_tuple ?_) | (with_reducible refine DL.s_dic_list ?_) | (with_reducible refine DL.s_dic_dict ?_) | (with_reducible refine DL.s_dit_int ?_) | (with_reducible refine DL.s_dit_bool ?_) | (with_reducible refine DL.s_dit_str ?_) | (with_reducible refine DL.s_dit_tuple ?_) | (with_reducible refine DL.s_dit_list ?_) | (with_reducible refine DL.s_dit_dict ?_) | ((with_reducible refine DL.m_sz ?_ ?_); (· exact rfl)) | ((with_reducible refine DL.m_sz2 ?_ ?_); (· exact rfl)) | ((with_reducible refine DL.m_szs ?_ ?_); (· decide +kernel)) | (with_reducible refine DL.m_ty ?_) | ((with_reducible refine DL.m_ln ?_ ?_); (· exact rfl)) | ((with_reducible refine And.intro ?_ ?_); (· (first | with_reducible assumption | omega)))))
theorem asc_nm {z : Str} (h : isName (.str z) = true) : Asc 8 z := by
  obtain ⟨h1, h2⟩ := name_let h
  exact ⟨h2, fun c hc => by have := h1 c hc; omega⟩
theorem th_non : Th .non := ⟨⟨_, rfl⟩, fun _ h => by cases h⟩
theorem th_dic : Th (.dic [] []) := ⟨⟨_, rfl⟩, fun _ h => by cases h⟩
theorem th_lst {xs : List D} : Th (.lst xs) := ⟨⟨_, rfl⟩, fun _ h => by cases h⟩
theorem th_tup {xs : List D} : Th (.tup xs) := ⟨⟨_, rfl⟩, fun _ h => by cases h⟩
/-- a good thing, as drawn -/
def Gx (x : D) : Prop := (∃ i : Int, x = .int i ∧ i.natAbs < 2 ^ 60) ∨ (∃ z, x = .str z ∧ isName (.str z) = true) ∨ ∃ b, x = .bl b
/-- what str shows, not too long -/
def Sh (x : D) : Prop := ∃ z : Str, z.length ≤ 1990 ∧ (Gx x → z.length ≤ 1930) ∧ ∀ G, StrD G x z
theorem sh_mk {x : D} {z : Str} (h : z.length ≤ 1930) (q : ∀ G, StrD G x z) : Sh x := ⟨z, by omega, fun _ => h, q⟩
theorem sh_non : Sh .non := sh_mk (z := "None") (by decide +kernel) fun _ => .inl ⟨rfl, rfl⟩
theorem sh_bl {b : Bool} : Sh (.bl b) := sh_mk (z := boolT b) (by cases b <;> decide +kernel) fun _ => .inr (.inl ⟨b, rfl, rfl⟩)
theorem sh_int {i : Int} (h : i.natAbs.log2 < 1900) : Sh (.int i) := sh_mk (z := toString i) (Nat.le_trans (len_int h) (by decide)) fun _ => .inr (.inr (.inl ⟨i, rfl, by omega, rfl⟩))
theorem gx_str {z : Str} (g : Gx (.str z)) : z.length ≤ 1930 := by
  rcases g with ⟨i, e, _⟩ | ⟨y, e, hy⟩ | ⟨b, e⟩
  · cases e
  · cases e
    have := (name_let hy).2
    omega
  · cases e
theorem sh_str {z : Str} (h : z.length ≤ 1990) : Sh (.str z) := ⟨z, h, gx_str, fun _ => .inr (.inr (.inr (.inl rfl)))⟩
theorem sh_dic : Sh (.dic [] []) := sh_mk (z := "{}") (by decide +kernel) fun _ => .inr (.inr (.inr (.inr (.inr ⟨rfl, rfl⟩))))
theorem gx_py {x : D} (h : Gx x) : ∃ p, D.py x = some p ∧ p.showable = true ∧ p.hasDict = false ∧ p.depth ≤ 1 ∧ p.shown.length ≤ 1921 := by
  rcases h with ⟨i, rfl, hi⟩ | ⟨z, rfl, hz⟩ | ⟨b, rfl⟩
  · have hl := log_num hi
    refine ⟨.int i, rfl, by simp only [PyData.showable]; exact decide_eq_true (by omega), rfl, by simp [PyData.depth], ?_⟩
    have := len_int hl
    simp only [PyData.shown]
    exact this
  · refine ⟨.str z, rfl, rfl, rfl, by simp [PyData.depth], ?_⟩
    have := rep_len hz
    simp only [PyData.shown]
    omega
  · refine ⟨.bool b, rfl, rfl, rfl, by simp [PyData.depth], ?_⟩
    cases b <;> decide +kernel
theorem sh_lst {x : D} (h : Gx x) : Sh (.lst [x]) := by
  obtain ⟨p, h1, h2, h3, h4, h5⟩ := gx_py h
  have e : (PyData.list [p]).shown = listText [p.shown] := rfl
  have hl : (listText [p.shown]).length ≤ 1930 := by
    show (("[" : Str) ++ ("" : String) ++ p.shown ++ "]").length ≤ 1930
    simp only [len_app]
    have l1 : ("[" : Str).length = 1 := by decide +kernel
    have l2 : (Str.ofString "").length = 0 := by decide +kernel
    have l3 : ("]" : Str).length = 1 := by decide +kernel
    omega
  exact sh_mk hl (fun G => .inr (.inr (.inr (.inr (.inl ⟨.list [p], rfl, .inl (by simp [D.py, D.pys, h1]), by simp [PyData.showable, PyData.showableAll, h2], by simp [PyData.hasDict, PyData.hasDictAll, h3], by simp only [PyData.depth, PyData.depthAll]; omega, by rw [e]; exact sz2 (by omega), rfl⟩)))))
theorem sh_tup {x : D} (h : Gx x) : Sh (.tup [x]) := by
  obtain ⟨p, h1, h2, h3, h4, h5⟩ := gx_py h
  have e : (PyData.tuple [p]).shown = tupleText [p.shown] := rfl
  have hl : (tupleText [p.shown]).length ≤ 1930 := by
    show ((("(" : Str) ++ Str.join ", " [p.shown]) ++ (",)" : String)).length ≤ 1930
    simp only [len_app]
    have l1 : ("(" : Str).length = 1 := by decide +kernel
    have l2 : (Str.ofString ",)").length = 2 := by decide +kernel
    have l3 : Str.join ", " [p.shown] = p.shown := rfl
    rw [l3]
    omega
  exact sh_mk hl (fun G => .inr (.inr (.inr (.inr (.inl ⟨.tuple [p], rfl, .inl (by simp [D.py, D.pys, h1]), by simp [PyData.showable, PyData.showableAll, h2], by simp [PyData.hasDict, PyData.hasDictAll, h3], by simp only [PyData.depth, PyData.depthAll]; omega, by rw [e]; exact sz2 (by omega), rfl⟩)))))
theorem sh_gx {x : D} (h : Gx x) : Sh x := by
  rcases h with ⟨i, rfl, hi⟩ | ⟨z, rfl, hz⟩ | ⟨b, rfl⟩
  · exact sh_int (log_num hi)
  · exact sh_str (by have := (asc_nm hz).len; omega)
  · exact sh_bl
theorem th_gx {x : D} (h : Gx x) : Th x := by
  rcases h with ⟨i, rfl, hi⟩ | ⟨z, rfl, hz⟩ | ⟨b, rfl⟩
  · exact th_i
  · exact th_s (by have := (asc_nm hz).len; omega)
  · exact th_b
theorem sz10 {n : Nat} (h : n ≤ 1000) : n ≤ sizeLine := Nat.le_trans (show n ≤ 100000 by omega) sizeLine_big
def sp__law_odd : DSp := sp2 fun x y G Q E => ∃ (d : Addr) (k : Nat), x = .ref d ∧ Sh y ∧ DW d k G ∧ k ≤ 2 ^ 30 ∧ ∀ t G', Th t → (Gx y → Sh t) → DW d (k + 2) G' → Q t G'
theorem rd__law_odd (K : PySem.W.Frag) (S : Sps) (e1 : S.f__law_one = sp__law_one) (e2 : S.f__law_of = sp__law_of) : ∀ ds G Q E, sp__law_odd ds G Q E → t__law_odd K S { nx := fun _ G' => GhV Q .non G', rt := GhV Q } (fun cls fs _ G' => E cls fs G') (dstart N__law_odd ds) G := by
  intro ds G Q E h
  obtain ⟨_, y, rfl, d, k, rfl, ⟨z, hz, hg, hs⟩, hd, hk, q⟩ := sp2_of h
  unfold t__law_odd
  rw [e1, e2, show dstart N__law_odd [.ref d, y] = [some (.ref d), some y, none, none] from rfl]
  walk_at "dx"
  refine run_all ⟨d, 8, k, rfl, rfl, by decide, by decide, hd, by omega, fun r G1 a1 b1 h1 => ?_⟩
  obtain ⟨c1, rfl, h1⟩ := h1.one
  walk_at "dx"
  generalize hw : cutS "Abcdefgh" none (some (1 + r)) = wd
  have hwl : wd.length ≤ 8 := by rw [← hw]; exact (Asc.cut (n := 8) (.lit (by decide +kernel)) _ _).len
  clear hw
  refine ⟨⟨by decide, by decide, by decide⟩, ?_⟩
  walk_at "dx"
  refine ⟨_, z, rfl, hs _, ?_⟩
  walk_at "dx"
  have l1 : ("-" : Str).length = 1 := by decide +kernel
  refine ⟨Nat.le_trans (show _ ≤ 100000 by omega) sizeLine_big, ?_⟩
  walk_at "dx"
  refine run_all ⟨d, _, k + 1, c1, [], rfl, .inl rfl, by simp, by simp, rfl, h1, by omega, fun t c2 hm h2 => ?_⟩
  have hzl : (z ++ "-").length ≤ 1991 := by
    rw [len_app]
    have : ("-" : Str).length = 1 := by decide +kernel
    omega
  refine .done ?_
  simp only [List.mem_append, List.mem_cons, List.not_mem_nil, or_false] at hm
  rcases hm with (rfl | rfl | rfl | rfl | rfl | rfl | rfl | rfl | rfl | rfl | rfl) | rfl | rfl | rfl | rfl | rfl | rfl | rfl | rfl
  · exact q _ _ th_non (fun _ => sh_non) h2
  · exact q _ _ th_i (fun _ => sh_int (by decide)) h2
  · exact q _ _ th_i (fun _ => sh_int (by decide)) h2
  · exact q _ _ th_b (fun _ => sh_bl) h2
  · exact q _ _ th_b (fun _ => sh_bl) h2
  · exact q _ _ th_i (fun _ => sh_int (by decide +kernel)) h2
  · exact q _ _ th_i (fun _ => sh_int (by decide +kernel)) h2
  · exact q _ _ (th_s (by decide +kernel)) (fun _ => sh_str (by decide +kernel)) h2
  · exact q _ _ (th_s (by decide +kernel)) (fun _ => sh_str (by decide +kernel)) h2
  · exact q _ _ (th_s (by decide +kernel)) (fun _ => sh_str (by decide +kernel)) h2
  · exact q _ _ (th_s (by omega)) (fun _ => sh_str (by omega)) h2
  · exact q _ _ th_lst (fun h => sh_lst h) h2
  · exact q _ _ th_tup (fun h => sh_tup h) h2
  · exact q _ _ th_dic (fun _ => sh_dic) h2
  · exact q _ _ th_i (fun _ => sh_int (by decide +kernel)) h2
  · exact q _ _ (th_s (by decide +kernel)) (fun _ => sh_str (by decide +kernel)) h2
  · refine q _ _ (th_s (by omega)) (fun h => sh_str ?_) h2
    have := hg h
    rw [len_app]
    have : ("-" : Str).length = 1 := by decide +kernel
    omega
  · exact q _ _ (th_s (by decide +kernel)) (fun _ => sh_str (by decide +kernel)) h2
  · exact q _ _ th_i (fun _ => sh_int (by decide)) h2

end Pr
set_option Elab.async false
set_option linter.all false
set_option maxRecDepth 100000
set_option maxHeartbeats 4000000
namespace Pr
open PySem PyProof.Rows L2 DL DX
local macro_rules | `(tactic| walk_at "dl") => `(tactic| simp (config := {proj := false}) only [DL.n_nx, DL.n_rt, DL.n_bk, DL.n_ct, DL.eq_ii, DL.eq_ss, DL.eq_bb, DL.eq_nn, DL.eq_ni, DL.eq_in, DL.ne_ii, DL.ne_ss, DL.r_seq, DL.r_for, DL.r_if, DL.r_next, DL.r_ret, DL.r_retN, DL.r_brk, DL.r_cnt, DL.r_drop, DL.r_set, DL.r_asg, DL.r_gname, DL.r_gnil, DL.r_gcons, DL.r_gtup, DL.r_gsub, DL.r_name, DL.r_at0, DL.r_atS, DL.r_c, DL.r_op, DL.r_test, DL.r_tru, DL.r_and, DL.r_or, DL.r_not, DL.r_ife, DL.r_nil, DL.r_cons, DL.r_tup, DL.r_lst, DL.r_lstM, DL.r_cb, DL.r_call, DL.r_bm, DL.r_fld, DL.r_chain, DL.r_orT, DL.r_andT, DL.r_notT, DL.r_neg, DL.r_sl, DL.r_nop, DL.r_part, DL.r_slL, DL.r_slT, DL.r_slS, DL.r_lc, DL.r_lcM, DL.r_iter, DL.r_rng1, DL.r_rng2, DL.z_ch, DL.z_ts, DL.z_pt, DL.z_itL, DL.z_itT, DL.z_itS, DL.z_itR, DL.z_rg1, DL.z_rg2, DL.z_iT, DL.z_iF, DL.z_ft, DL.z_tf, DL.z_nt, DL.z_nf, DL.r_disp, DL.r_pnil, DL.r_pcons, DL.o_addI, DL.o_addS, DL.o_addL, DL.o_addT, DL.o_sub, DL.o_mulI, DL.o_mulS, DL.o_mulL, DL.o_div, DL.o_divZ, DL.o_mod, DL.o_modZ, DL.o_pow, DL.o_lt, DL.o_le, DL.o_gt, DL.o_ge, DL.o_isN, DL.o_isB, DL.o_isnN, DL.o_isnB, DL.o_ixL, DL.o_ixT, DL.o_ixS, DL.o_ixR, DL.c_lenL, DL.c_lenT, DL.c_lenS, DL.c_lenR, DL.c_intI, DL.c_intB, DL.c_intS, DL.c_int2, DL.c_strI, DL.c_strS, DL.c_abs, DL.c_max2, DL.c_min2, DL.q_non, DL.q_bl, DL.q_int, DL.q_str, DL.q_lst, DL.q_tup, DL.tym_s, DL.tym_l, DL.m_up, DL.m_low, DL.k_int_int, DL.k_int_bool, DL.k_int_str, DL.k_int_tuple, DL.k_int_list, DL.k_int_dict, DL.k_bl_int, DL.k_bl_bool, DL.k_bl_str, DL.k_bl_tuple, DL.k_bl_list, DL.k_bl_dict, DL.k_str_int, DL.k_str_bool, DL.k_str_str, DL.k_str_tuple, DL.k_str_list, DL.k_str_dict, DL.k_tup_int, DL.k_tup_bool, DL.k_tup_str, DL.k_tup_tuple, DL.k_tup_list, DL.k_tup_dict, DL.k_lst_int, DL.k_lst_bool, DL.k_lst_str, DL.k_lst_tuple, DL.k_lst_list, DL.k_lst_dict, DL.k_non_int, DL.k_non_bool, DL.k_non_str, DL.k_non_tuple, DL.k_non_list, DL.k_non_dict, DL.k_dic_int, DL.k_dic_bool, DL.k_dic_str, DL.k_dic_tuple, DL.k_dic_list, DL.k_dic_dict, DL.k_dit_int, DL.k_dit_bool, DL.k_dit_str, DL.k_dit_tuple, DL.k_dit_list, DL.k_dit_dict, DL.ls0, DL.lsS, DL.la0, DL.laS, DL.r_bind1, DL.r_wipe0, DL.r_wipeS, List.append_nil, true_and])
local macro_rules | `(tactic| walk_at "dw") => `(tactic| repeat (first | ((with_reducible apply DL.m_nm); (· exact rfl)) | (with_reducible refine DL.m_nx ?_) | (with_reducible refine DL.st DL.r_sortM ?_) | (with_reducible refine DL.st DL.r_sortS ?_) | (with_reducible refine DL.st DL.un_cons ?_) | (with_reducible refine DL.st DL.un_nil ?_) | (with_reducible refine DL.un_gh ?_) | (with_reducible refine DL.m_rt ?_) | (with_reducible refine DL.m_bk ?_) | (with_reducible refine DL.m_ct ?_) | (with_reducible refine DL.m_tr ?_) | (with_reducible refine DL.i_t ?_) | (with_reducible refine DL.i_f ?_) | (with_reducible refine DL.i_n ?_) | (with_reducible refine DL.m_tys ?_) | (with_reducible refine DL.m_tyl ?_) | (with_reducible refine DL.st DL.r_c ?_) | (with_reducible refine DL.st DL.r_par ?_) | (with_reducible refine DL.st DL.q_pr2 ?_) | (with_reducible refine DL.st DL.r_thru ?_) | (with_reducible refine DL.st DL.r_dic0 ?_) | (with_reducible refine DL.st DL.r_fmt ?_) | (with_reducible refine DL.st DL.r_join ?_) | (with_reducible refine DL.st DL.r_jnil ?_) | (with_reducible refine DL.st DL.r_jcons ?_) | (with_reducible refine DL.st DL.r_seqG ?_) | (with_reducible refine DL.st DL.r_raiseW ?_) | (with_reducible refine DL.st DX.r_tryMA ?_) | (with_reducible refine DL.st DX.r_raiseF ?_) | (with_reducible refine DL.st DX.r_methN ?_) | (with_reducible refine DL.st DL.r_tryAs ?_) | (with_reducible refine DL.st DL.q_fmtI ?_) | (with_reducible refine DL.st DL.q_fmtB ?_) | (with_reducible refine DL.st DL.q_fmtS ?_) | (with_reducible refine DL.st DL.r_cons ?_) | (with_reducible refine DL.st DL.r_nil ?_) | (with_reducible refine DL.st DL.r_op ?_) | (with_reducible refine DL.st DL.r_call ?_) | (with_reducible refine DL.st DL.r_cb ?_) | (with_reducible refine DL.st DL.r_seq ?_) | (with_reducible refine DL.st DL.r_set ?_) | (with_reducible refine DL.st DL.r_test ?_) | (with_reducible refine DL.st DL.r_tru ?_) | (with_reducible refine DL.st DL.z_ts ?_) | (with_reducible refine DL.st DL.q_bl ?_) | (with_reducible refine DL.st DL.r_if ?_) | (with_reducible refine DL.st DL.r_ret ?_) | (with_reducible refine DL.st DL.r_for ?_) | (with_reducible refine DL.st DL.r_next ?_) | (with_reducible refine DL.st DL.r_retN ?_) | (with_reducible refine DL.st DL.r_brk ?_) | (with_reducible refine DL.st DL.r_cnt ?_) | (with_reducible refine DL.st DL.r_drop ?_) | (with_reducible refine DL.st DL.r_asg ?_) | (with_reducible refine DL.st DL.r_gname ?_) | (with_reducible refine DL.st DL.r_gnil ?_) | (with_reducible refine DL.st DL.r_gcons ?_) | (with_reducible refine DL.st DL.r_gtup ?_) | (with_reducible refine DL.st DL.r_gsub ?_) | (with_reducible refine DL.st DL.r_and ?_) | (with_reducible refine DL.st DL.r_or ?_) | (with_reducible refine DL.st DL.r_not ?_) | (with_reducible refine DL.st DL.r_ife ?_) | (with_reducible refine DL.st DL.r_tup ?_) | (with_reducible refine DL.st DL.r_lst ?_) | (with_reducible refine DL.st DL.r_lstM ?_) | (with_reducible refine DL.st DL.r_bm ?_) | (with_reducible refine DL.st DL.r_fld ?_) | (with_reducible refine DL.st DL.r_chain ?_) | (with_reducible refine DL.st DL.r_orT ?_) | (with_reducible refine DL.st DL.r_andT ?_) | (with_reducible refine DL.st DL.r_notT ?_) | (with_reducible refine DL.st DL.r_neg ?_) | (with_reducible refine DL.st DL.r_sl ?_) | (with_reducible refine DL.st DL.r_nop ?_) | (with_reducible refine DL.st DL.r_part ?_) | (with_reducible refine DL.st DL.r_slL ?_) | (with_reducible refine DL.st DL.r_slT ?_) | (with_reducible refine DL.st DL.r_slS ?_) | (with_reducible refine DL.st DL.r_lc ?_) | (with_reducible refine DL.st DL.r_lcM ?_) | (with_reducible refine DL.st DL.r_iter ?_) | (with_reducible refine DL.st DL.r_rng1 ?_) | (with_reducible refine DL.st DL.r_rng2 ?_) | (with_reducible refine DL.st DL.z_ch ?_) | (with_reducible refine DL.st DL.z_pt ?_) | (with_reducible refine DL.st DL.z_itL ?_) | (with_reducible refine DL.st DL.z_itT ?_) | (with_reducible refine DL.st DL.z_itS ?_) | (with_reducible refine DL.st DL.z_itR ?_) | (with_reducible refine DL.st DL.z_rg1 ?_) | (with_reducible refine DL.st DL.z_rg2 ?_) | (with_reducible refine DL.st DL.r_disp ?_) | (with_reducible refine DL.st DL.r_pnil ?_) | (with_reducible refine DL.st DL.r_pcons ?_) | (with_reducible refine DL.st DL.o_addI ?_) | (with_reducible refine DL.st DL.o_addS ?_) | (with_reducible refine DL.st DL.o_addL ?_) | (with_reducible refine DL.st DL.o_addT ?_) | (with_reducible refine DL.st DL.o_sub ?_) | (with_reducible refine DL.st DL.o_mulI ?_) | (with_reducible refine DL.st DL.o_mulS ?_) | (with_reducible refine DL.st DL.o_mulL ?_) | (with_reducible refine DL.st DL.o_div ?_) | (with_reducible refine DL.st DL.o_divZ ?_) | (with_reducible refine DL.st DL.o_mod ?_) | (with_reducible refine DL.st DL.o_modZ ?_) | (with_reducible refine DL.st DL.o_pow ?_) | (with_reducible refine DL.st DL.o_lt ?_) | (with_reducible refine DL.st DL.o_le ?_) | (with_reducible refine DL.st DL.o_gt ?_) | (with_reducible refine DL.st DL.o_ge ?_) | (with_reducible refine DL.st DL.o_isN ?_) | (with_reducible refine DL.st DL.o_isB ?_) | (with_reducible refine DL.st DL.o_isnN ?_) | (with_reducible refine DL.st DL.o_isnB ?_) | (with_reducible refine DL.st DL.o_ixL ?_) | (with_reducible refine DL.st DL.o_ixT ?_) | (with_reducible refine DL.st DL.o_ixS ?_) | (with_reducible refine DL.st DL.o_ixR ?_) | (with_reducible refine DL.st DL.c_lenL ?_) | (with_reducible refine DL.st DL.c_lenT ?_) | (with_reducible refine DL.st DL.c_lenS ?_) | (with_reducible refine DL.st DL.c_lenR ?_) | (with_reducible refine DL.st DL.c_intI ?_) | (with_reducible refine DL.st DL.c_intB ?_) | (with_reducible refine DL.st DL.c_intS ?_) | (with_reducible refine DL.st DL.c_int2 ?_) | (with_reducible refine DL.st DL.c_strI ?_) | (with_reducible refine DL.st DL.c_strS ?_) | (with_reducible refine DL.st DL.c_abs ?_) | (with_reducible refine DL.st DL.c_max2 ?_) | (with_reducible refine DL.st DL.c_min2 ?_) | (with_reducible refine DL.st DL.q_non ?_) | (with_reducible refine DL.st DL.q_int ?_) | (with_reducible refine DL.st DL.q_str ?_) | (with_reducible refine DL.st DL.q_lst ?_) | (with_reducible refine DL.st DL.q_tup ?_) | (with_reducible refine DL.st DL.m_up ?_) | (with_reducible refine DL.st DL.m_low ?_) | (with_reducible refine DL.st DL.r_bind1 ?_) | (with_reducible refine DL.st DL.eq_ii ?_) | (with_reducible refine DL.st DL.eq_ss ?_) | (with_reducible refine DL.st DL.eq_bb ?_) | (with_reducible refine DL.st DL.eq_nn ?_) | (with_reducible refine DL.st DL.eq_ni ?_) | (with_reducible refine DL.st DL.eq_in ?_) | (with_reducible refine DL.st DL.ne_ii ?_) | (with_reducible refine DL.st DL.ne_ss ?_) | (with_reducible refine DL.st DL.r_make ?_) | (with_reducible refine DL.st DL.r_meth ?_) | (with_reducible refine DL.st DL.r_fldC ?_) | (with_reducible refine DL.st DL.r_fldS ?_) | (with_reducible refine DL.st DL.c_listL ?_) | (with_reducible refine DL.st DL.c_listT ?_) | (with_reducible refine DL.st DL.c_tupL ?_) | (with_reducible refine DL.st DL.c_tupT ?_) | (with_reducible refine DL.st DL.r_rev ?_) | (with_reducible refine DL.st DL.z_rvL ?_) | ((with_reducible apply DL.m_aug); (· exact rfl)) | (with_reducible refine DL.st DL.q_augI ?_) | (with_reducible refine DL.st DL.q_augS ?_) | (with_reducible refine DL.st DL.r_fmtR ?_) | (with_reducible refine DL.st DL.q_fmrS ?_) | (with_reducible refine DL.st DL.r_enum ?_) | (with_reducible refine DL.st DL.r_enumT ?_) | (with_reducible refine DL.st DL.z_enT ?_) | (with_reducible refine DL.st DL.z_enL ?_) | ((with_reducible apply DL.m_fobj); (· decide +kernel); (· exact rfl)) | ((with_reducible apply DL.m_mobj); (· decide +kernel)) | ((with_reducible apply DL.m_new); (· decide +kernel); (· exact rfl); (· exact rfl)) | (with_reducible refine DL.st DL.r_callN ?_) | (with_reducible refine DL.st DL.r_makeN ?_) | ((with_reducible apply DL.m_pkN); (· exact rfl); (· exact rfl); (· exact rfl)) | (with_reducible refine DL.s_int_int ?_) | (with_reducible refine DL.s_int_bool ?_) | (with_reducible refine DL.s_int_str ?_) | (with_reducible refine DL.s_int_tuple ?_) | (with_reducible refine DL.s_int_list ?_) | (with_reducible refine DL.s_int_dict ?_) | (with_reducible refine DL.s_bl_int ?_) | (with_reducible refine DL.s_bl_bool ?_) | (with_reducible refine DL.s_bl_str ?_) | (with_reducible refine DL.s_bl_tuple ?_) | (with_reducible refine DL.s_bl_list ?_) | (with_reducible refine DL.s_bl_dict ?_) | (with_reducible refine DL.s_str_int ?_) | (with_reducible refine DL.s_str_bool ?_) | (with_reducible refine DL.s_str_str ?_) | (with_reducible refine DL.s_str_tuple ?_) | (with_reducible refine DL.s_str_list ?_) | (with_reducible refine DL.s_str_dict ?_) | (with_reducible refine DL.s_tup_int ?_) | (with_reducible refine DL.s_tup_bool ?_) | (with_reducible refine DL.s_tup_str ?_) | (with_reducible refine DL.s_tup_tuple ?_) | (with_reducible refine DL.s_tup_list ?_) | (with_reducible refine DL.s_tup_dict ?_) | (with_reducible refine DL.s_lst_int ?_) | (with_reducible refine DL.s_lst_bool ?_) | (with_reducible refine DL.s_lst_str ?_) | (with_reducible refine DL.s_lst_tuple ?_) | (with_reducible refine DL.s_lst_list ?_) | (with_reducible refine DL.s_lst_dict ?_) | (with_reducible refine DL.s_non_int ?_) | (with_reducible refine DL.s_non_bool ?_) | (with_reducible refine DL.s_non_str ?_) | (with_reducible refine DL.s_non_tuple ?_) | (with_reducible refine DL.s_non_list ?_) | (with_reducible refine DL.s_non_dict ?_) | (with_reducible refine DL.s_dic_int ?_) | (with_reducible refine DL.s_dic_bool ?_) | (with_reducible refine DL.s_dic_str ?_) | (with_reducible refine DL.s_dic_tuple ?_) | (with_reducible refine DL.s_dic_list ?_) | (with_reducible refine DL.s_dic_dict ?_) | (with_reducible refine DL.s_dit_int ?_) | (with_reducible refine DL.s_dit_bool ?_) | (with_reducible refine DL.s_dit_str ?_) | (with_reducible refine DL.s_dit_tuple ?_) | (with_reducible refine DL.s_dit_list ?_) | (with_reducible refine DL.s_dit_dict ?_) | ((with_reducible refine DL.m_sz ?_ ?_); (· exact rfl)) | ((with_reducible refine DL.m_sz2 ?_ ?_); (· exact rfl)) | ((with_reducible refine DL.m_szs ?_ ?_); (· decide +kernel)) | (with_reducible refine DL.m_ty ?_) | ((with_reducible refine DL.m_ln ?_ ?_); (· exact rfl)) | ((with_reducible refine And.intro ?_ ?_); (· (first | with_reducible assumption | omega)))))
local macro_rules | `(tactic| walk_at "dx") => `(tactic| repeat (first | ((with_reducible apply DL.m_nm); (· exact rfl)) | (with_reducible refine DL.m_nx ?_) | ((with_reducible apply DL.ex_atI); (· (first | with_reducible assumption | exact rfl))) | (with_reducible refine DL.st DL.r_sortM ?_) | (with_reducible refine DL.st DL.r_sortS ?_) | (with_reducible refine DL.st DL.un_cons ?_) | (with_reducible refine DL.st DL.un_nil ?_) | (with_reducible refine DL.un_gh ?_) | (with_reducible refine DL.m_rt ?_) | (with_reducible refine DL.m_bk ?_) | (with_reducible refine DL.m_ct ?_) | (with_reducible refine DL.m_tr ?_) | (with_reducible refine DL.i_t ?_) | (with_reducible refine DL.i_f ?_) | (with_reducible refine DL.i_n ?_) | (with_reducible refine DL.m_tys ?_) | (with_reducible refine DL.m_tyl ?_) | (with_reducible refine DL.st DL.r_c ?_) | (with_reducible refine DL.st DL.r_par ?_) | (with_reducible refine DL.st DL.q_pr2 ?_) | (with_reducible refine DL.st DL.r_thru ?_) | (with_reducible refine DL.st DL.r_dic0 ?_) | (with_reducible refine DL.st DL.r_fmt ?_) | (with_reducible refine DL.st DL.r_join ?_) | (with_reducible refine DL.st DL.r_jnil ?_) | (with_reducible refine DL.st DL.r_jcons ?_) | (with_reducible refine DL.st DL.r_seqG ?_) | (with_reducible refine DL.st DL.r_raiseW ?_) | (with_reducible refine DL.st DX.r_tryMA ?_) | (with_reducible refine DL.st DX.r_raiseF ?_) | (with_reducible refine DL.st DX.r_methN ?_) | (with_reducible refine DL.st DL.r_tryAs ?_) | (with_reducible refine DL.st DL.q_fmtI ?_) | (with_reducible refine DL.st DL.q_fmtB ?_) | (with_reducible refine DL.st DL.q_fmtS ?_) | (with_reducible refine DL.st DL.r_cons ?_) | (with_reducible refine DL.st DL.r_nil ?_) | (with_reducible refine DL.st DL.r_op ?_) | (with_reducible refine DL.st DL.r_call ?_) | (with_reducible refine DL.st DL.r_cb ?_) | (with_reducible refine DL.st DL.r_seq ?_) | (with_reducible refine DL.st DL.r_set ?_) | (with_reducible refine DL.st DL.r_test ?_) | (with_reducible refine DL.st DL.r_tru ?_) | (with_reducible refine DL.st DL.z_ts ?_) | (with_reducible refine DL.st DL.q_bl ?_) | (with_reducible refine DL.st DL.r_if ?_) | (with_reducible refine DL.st DL.r_ret ?_) | (with_reducible refine DL.st DL.r_for ?_) | (with_reducible refine DL.st DL.r_next ?_) | (with_reducible refine DL.st DL.r_retN ?_) | (with_reducible refine DL.st DL.r_brk ?_) | (with_reducible refine DL.st DL.r_cnt ?_) | (with_reducible refine DL.st DL.r_drop ?_) | (with_reducible refine DL.st DL.r_asg ?_) | (with_reducible refine DL.st DL.r_gname ?_) | (with_reducible refine DL.st DL.r_gnil ?_) | (with_reducible refine DL.st DL.r_gcons ?_) | (with_reducible refine DL.st DL.r_gtup ?_) | (with_reducible refine DL.st DL.r_gsub ?_) | (with_reducible refine DL.st DL.r_and ?_) | (with_reducible refine DL.st DL.r_or ?_) | (with_reducible refine DL.st DL.r_not ?_) | (with_reducible refine DL.st DL.r_ife ?_) | (with_reducible refine DL.st DL.r_tup ?_) | (with_reducible refine DL.st DL.r_lst ?_) | (with_reducible refine DL.st DL.r_lstM ?_) | (with_reducible refine DL.st DL.r_bm ?_) | (with_reducible refine DL.st DL.r_fld ?_) | (with_reducible refine DL.st DL.r_chain ?_) | (with_reducible refine DL.st DL.r_orT ?_) | (with_reducible refine DL.st DL.r_andT ?_) | (with_reducible refine DL.st DL.r_notT ?_) | (with_reducible refine DL.st DL.r_neg ?_) | (with_reducible refine DL.st DL.r_sl ?_) | (with_reducible refine DL.st DL.r_nop ?_) | (with_reducible refine DL.st DL.r_part ?_) | (with_reducible refine DL.st DL.r_slL ?_) | (with_reducible refine DL.st DL.r_slT ?_) | (with_reducible refine DL.st DL.r_slS ?_) | (with_reducible refine DL.st DL.r_lc ?_) | (with_reducible refine DL.st DL.r_lcM ?_) | (with_reducible refine DL.st DL.r_iter ?_) | (with_reducible refine DL.st DL.r_rng1 ?_) | (with_reducible refine DL.st DL.r_rng2 ?_) | (with_reducible refine DL.st DL.z_ch ?_) | (with_reducible refine DL.st DL.z_pt ?_) | (with_reducible refine DL.st DL.z_itL ?_) | (with_reducible refine DL.st DL.z_itT ?_) | (with_reducible refine DL.st DL.z_itS ?_) | (with_reducible refine DL.st DL.z_itR ?_) | (with_reducible refine DL.st DL.z_rg1 ?_) | (with_reducible refine DL.st DL.z_rg2 ?_) | (with_reducible refine DL.st DL.r_disp ?_) | (with_reducible refine DL.st DL.r_pnil ?_) | (with_reducible refine DL.st DL.r_pcons ?_) | (with_reducible refine DL.st DL.o_addI ?_) | (with_reducible refine DL.st DL.o_addS ?_) | (with_reducible refine DL.st DL.o_addL ?_) | (with_reducible refine DL.st DL.o_addT ?_) | (with_reducible refine DL.st DL.o_sub ?_) | (with_reducible refine DL.st DL.o_mulI ?_) | (with_reducible refine DL.st DL.o_mulS ?_) | (with_reducible refine DL.st DL.o_mulL ?_) | (with_reducible refine DL.st DL.o_div ?_) | (with_reducible refine DL.st DL.o_divZ ?_) | (with_reducible refine DL.st DL.o_mod ?_) | (with_reducible refine DL.st DL.o_modZ ?_) | (with_reducible refine DL.st DL.o_pow ?_) | (with_reducible refine DL.st DL.o_lt ?_) | (with_reducible refine DL.st DL.o_le ?_) | (with_reducible refine DL.st DL.o_gt ?_) | (with_reducible refine DL.st DL.o_ge ?_) | (with_reducible refine DL.st DL.o_isN ?_) | (with_reducible refine DL.st DL.o_isB ?_) | (with_reducible refine DL.st DL.o_isnN ?_) | (with_reducible refine DL.st DL.o_isnB ?_) | (with_reducible refine DL.st DL.o_ixL ?_) | (with_reducible refine DL.st DL.o_ixT ?_) | (with_reducible refine DL.st DL.o_ixS ?_) | (with_reducible refine DL.st DL.o_ixR ?_) | (with_reducible refine DL.st DL.c_lenL ?_) | (with_reducible refine DL.st DL.c_lenT ?_) | (with_reducible refine DL.st DL.c_lenS ?_) | (with_reducible refine DL.st DL.c_lenR ?_) | (with_reducible refine DL.st DL.c_intI ?_) | (with_reducible refine DL.st DL.c_intB ?_) | (with_reducible refine DL.st DL.c_intS ?_) | (with_reducible refine DL.st DL.c_int2 ?_) | (with_reducible refine DL.st DL.c_strI ?_) | (with_reducible refine DL.st DL.c_strS ?_) | (with_reducible refine DL.st DL.c_abs ?_) | (with_reducible refine DL.st DL.c_max2 ?_) | (with_reducible refine DL.st DL.c_min2 ?_) | (with_reducible refine DL.st DL.q_non ?_) | (with_reducible refine DL.st DL.q_int ?_) | (with_reducible refine DL.st DL.q_str ?_) | (with_reducible refine DL.st DL.q_lst ?_) | (with_reducible refine DL.st DL.q_tup ?_) | (with_reducible refine DL.st DL.m_up ?_) | (with_reducible refine DL.st DL.m_low ?_) | (with_reducible refine DL.st DL.r_bind1 ?_) | (with_reducible refine DL.st DL.eq_ii ?_) | (with_reducible refine DL.st DL.eq_ss ?_) | (with_reducible refine DL.st DL.eq_bb ?_) | (with_reducible refine DL.st DL.eq_nn ?_) | (with_reducible refine DL.st DL.eq_ni ?_) | (with_reducible refine DL.st DL.eq_in ?_) | (with_reducible refine DL.st DL.ne_ii ?_) | (with_reducible refine DL.st DL.ne_ss ?_) | (with_reducible refine DL.st DL.r_make ?_) | (with_reducible refine DL.st DL.r_meth ?_) | (with_reducible refine DL.st DL.r_fldC ?_) | (with_reducible refine DL.st DL.r_fldS ?_) | (with_reducible refine DL.st DL.c_listL ?_) | (with_reducible refine DL.st DL.c_listT ?_) | (with_reducible refine DL.st DL.c_tupL ?_) | (with_reducible refine DL.st DL.c_tupT ?_) | (with_reducible refine DL.st DL.r_rev ?_) | (with_reducible refine DL.st DL.z_rvL ?_) | ((with_reducible apply DL.m_aug); (· exact rfl)) | (with_reducible refine DL.st DL.q_augI ?_) | (with_reducible refine DL.st DL.q_augS ?_) | (with_reducible refine DL.st DL.r_fmtR ?_) | (with_reducible refine DL.st DL.q_fmrS ?_) | (with_reducible refine DL.st DL.r_enum ?_) | (with_reducible refine DL.st DL.r_enumT ?_) | (with_reducible refine DL.st DL.z_enT ?_) | (with_reducible refine DL.st DL.z_enL ?_) | ((with_reducible apply DL.m_fobj); (· decide +kernel); (· exact rfl)) | ((with_reducible apply DL.m_mobj); (· decide +kernel)) | ((with_reducible apply DL.m_new); (· decide +kernel); (· exact rfl); (· exact rfl)) | (with_reducible refine DL.st DL.r_callN ?_) | (with_reducible refine DL.st DL.r_makeN ?_) | ((with_reducible apply DL.m_pkN); (· exact rfl); (· exact rfl); (· exact rfl)) | (with_reducible refine DL.s_int_int ?_) | (with_reducible refine DL.s_int_bool ?_) | (with_reducible refine DL.s_int_str ?_) | (with_reducible refine DL.s_int_tuple ?_) | (with_reducible refine DL.s_int_list ?_) | (with_reducible refine DL.s_int_dict ?_) | (with_reducible refine DL.s_bl_int ?_) | (with_reducible refine DL.s_bl_bool ?_) | (with_reducible refine DL.s_bl_str ?_) | (with_reducible refine DL.s_bl_tuple ?_) | (with_reducible refine DL.s_bl_list ?_) | (with_reducible refine DL.s_bl_dict ?_) | (with_reducible refine DL.s_str_int ?_) | (with_reducible refine DL.s_str_bool ?_) | (with_reducible refine DL.s_str_str ?_) | (with_reducible refine DL.s_str_tuple ?_) | (with_reducible refine DL.s_str_list ?_) | (with_reducible refine DL.s_str_dict ?_) | (with_reducible refine DL.s_tup_int ?_) | (with_reducible refine DL.s_tup_bool ?_) | (with_reducible refine DL.s_tup_str ?_) | (with_reducible refine DL.s_tup_tuple ?_) | (with_reducible refine DL.s_tup_list ?_) | (with_reducible refine DL.s_tup_dict ?_) | (with_reducible refine DL.s_lst_int ?_) | (with_reducible refine DL.s_lst_bool ?_) | (with_reducible refine DL.s_lst_str ?_) | (with_reducible refine DL.s_lst_tuple ?_) | (with_reducible refine DL.s_lst_list ?_) | (with_reducible refine DL.s_lst_dict ?_) | (with_reducible refine DL.s_non_int ?_) | (with_reducible refine DL.s_non_bool ?_) | (with_reducible refine DL.s_non_str ?_) | (with_reducible refine DL.s_non_tuple ?_) | (with_reducible refine DL.s_non_list ?_) | (with_reducible refine DL.s_non_dict ?_) | (with_reducible refine DL.s_dic_int ?_) | (with_reducible refine DL.s_dic_bool ?_) | (with_reducible refine DL.s_dic_str ?_) | (with_reducible refine DL.s_dic_tuple ?_) | (with_reducible refine DL.s_dic_list ?_) | (with_reducible refine DL.s_dic_dict ?_) | (with_reducible refine DL.s_dit_int ?_) | (with_reducible refine DL.s_dit_bool ?_) | (with_reducible refine DL.s_dit_str ?_) | (with_reducible refine DL.s_dit_tuple ?_) | (with_reducible refine DL.s_dit_list ?_) | (with_reducible refine DL.s_dit_dict ?_) | ((with_reducible refine DL.m_sz ?_ ?_); (· exact rfl)) | ((with_reducible refine DL.m_sz2 ?_ ?_); (· exact rfl)) | ((with_reducible refine DL.m_szs ?_ ?_); (· decide +kernel)) | (with_reducible refine DL.m_ty ?_) | ((with_reducible refine DL.m_ln ?_ ?_); (· exact rfl)) | ((with_reducible refine And.intro ?_ ?_); (· (first | with_reducible assumption | omega)))))
theorem b6_pls {n a w s f d : D} (h : b6 n a w s f d = true) : ∀ x ∈ [n, a, w, s, f, d], PLn 1 x := fun x hx => by
  unfold b6 at h
  simp only [Bool.and_eq_true] at h
  obtain ⟨h1, h2, h3, h4, h5, h6⟩ := h
  have hw : ∀ {x : D} {i j : Int}, isWhole x i j = true → PLn 1 x := fun {x i j} h => by
    cases x <;> first | (cases h; done) | exact pn_int
  have hn : ∀ {x : D}, isName x = true → PLn 1 x := fun {x} h => by
    cases x <;> first | (cases h; done) | exact pn_str (asc_nm h).ok
  simp only [List.mem_cons, List.not_mem_nil, or_false] at hx
  rcases hx with rfl | rfl | rfl | rfl | rfl | rfl
  · exact hw h1
  · exact hw h2
  · exact hw h3
  · exact hn h4
  · exact hn h5
  · cases x <;> first | (cases h6; done) | exact pn_bl
theorem b6_d {n a w s f d : D} (h : b6 n a w s f d = true) : ∃ b, d = .bl b := by
  unfold b6 at h
  simp only [Bool.and_eq_true] at h
  obtain ⟨_, _, _, _, _, h6⟩ := h
  cases d <;> first | (cases h6; done) | exact ⟨_, rfl⟩
def sp__law_right : DSp := sp1 fun x G Q E => ∃ n a w s f d, x = .tup [n, a, w, s, f, d] ∧ Th n ∧ Th a ∧ Th w ∧ Th s ∧ Th f ∧ Th d ∧ Q (.bl true) G
theorem rd__law_right (K : PySem.W.Frag) (S : Sps) (e1 : S.f__law_are_right = sp__law_are_right) (e2 : S.f__law_told = sp__law_told K) : ∀ ds G Q E, sp__law_right ds G Q E → t__law_right K S { nx := fun _ G' => GhV Q .non G', rt := GhV Q } (fun cls fs _ G' => E cls fs G') (dstart N__law_right ds) G := by
  intro ds G Q E h
  obtain ⟨_, rfl, n, a, w, s, f, d, rfl, hn, ha, hw, hs, hf, hd, q⟩ := sp1_of h
  unfold t__law_right
  rw [e1, e2, show dstart N__law_right [.tup [n, a, w, s, f, d]] = [some (.tup [n, a, w, s, f, d]), none, none, none] from rfl]
  walk_at "dx"
  refine run_all ⟨n, a, w, s, f, d, rfl, hn, ha, hw, hs, hf, hd, ?_⟩
  cases hb : b6 n a w s f d with
  | true =>
    have hp := b6_pls hb
    obtain ⟨b, rfl⟩ := b6_d hb
    walk_at "dx"
    refine ⟨fun i σ G' => (∃ o2 o3, σ = [some (.tup [n, a, w, s, f, .bl b]), some (.lst [n, a, w, s, f, .bl b]), o2, o3]) ∧ G = G', ⟨⟨_, _, rfl⟩, rfl⟩, fun _ _ _ _ _ => trivial, fun i v σ G' hv hI => ?_, fun σ G' hI => ?_⟩
    · obtain ⟨⟨o2, o3, rfl⟩, rfl⟩ := hI
      obtain ⟨_, rfl⟩ := rng_get hv
      walk_at "dx"
      refine run_all ⟨n, a, w, s, f, .bl b, _, rfl, rfl, hn, ha, hw, hs, hf, hd, fun _ => ?_, fun h => by rw [hb] at h; cases h⟩
      walk_at "dx"
      refine ne_self (pn_lst hp) (by decide) ?_
      walk_at "dx"
      rw [show (D.lst [n, a, w, s, f, D.bl b]).isNon = false from rfl]
      walk_at "dx"
      exact .done ⟨⟨_, _, rfl⟩, rfl⟩
    · obtain ⟨⟨o2, o3, rfl⟩, rfl⟩ := hI
      walk_at "dx"
      exact .done q
  | false =>
    walk_at "dx"
    refine ⟨fun i σ G' => (∃ o2 o3, σ = [some (.tup [n, a, w, s, f, d]), some .non, o2, o3]) ∧ G = G', ⟨⟨_, _, rfl⟩, rfl⟩, fun _ _ _ _ _ => trivial, fun i v σ G' hv hI => ?_, fun σ G' hI => ?_⟩
    · obtain ⟨⟨o2, o3, rfl⟩, rfl⟩ := hI
      obtain ⟨_, rfl⟩ := rng_get hv
      walk_at "dx"
      refine run_all ⟨n, a, w, s, f, d, _, rfl, rfl, hn, ha, hw, hs, hf, hd, (fun h => by rw [hb] at h; cases h), fun _ => ?_⟩
      walk_at "dx"
      refine ne_self pn_non (by decide) ?_
      walk_at "dx"
      exact .done ⟨⟨_, _, rfl⟩, rfl⟩
    · obtain ⟨⟨o2, o3, rfl⟩, rfl⟩ := hI
      walk_at "dx"
      exact .done q
abbrev RND : Str := "round"
theorem rnd_nm : isName (.str RND) = true := by decide +kernel
theorem b6_g {r : Rw} {f : Str} {b : Bool} (h : r.Ok) (hf : isName (.str f) = true) : b6 (.int r.n) (.int r.a) (.int r.w) (.str r.s) (.str f) (.bl b) = true := by
  unfold b6
  rw [isWhole_t h.n1 h.n2, isWhole_t h.a1 h.a2, isWhole_t h.w1 h.w2, h.s1, hf]
  rfl
def sp__law_left_out : DSp := sp1 fun x G Q E => ∃ r : Rw, x = rowD r ∧ r.Ok ∧ Q (.bl true) G
theorem rd__law_left_out (K : PySem.W.Frag) (S : Sps) (e1 : S.f_Bead___init__ = sp_Bead___init__ K) (e2 : S.f__law_fields = sp__law_fields K) : ∀ ds G Q E, sp__law_left_out ds G Q E → t__law_left_out K S { nx := fun _ G' => GhV Q .non G', rt := GhV Q } (fun cls fs _ G' => E cls fs G') (dstart N__law_left_out ds) G := by
  intro ds G Q E h
  obtain ⟨_, rfl, r, rfl, hr, q⟩ := sp1_of h
  have ts : Th (.str r.s) := th_s (by have := hr.s2.len; omega)
  have tf : Th (.str r.f) := th_s (by have := hr.f2.len; omega)
  have tr : Th (.str RND) := th_s (by decide +kernel)
  unfold t__law_left_out
  rw [e1, e2, show dstart N__law_left_out [rowD r] = [some (rowD r), none, none, none, none, none, none, none, none] from rfl]
  walk_at "dx"
  refine fun p hp => ⟨p, rfl, th_i, th_i, th_i, ts, tr, th_b, rfl, fun _ => ⟨BNs, _, rfl, rfl, ?_⟩, fun hb => by rw [b6_g hr rnd_nm] at hb; cases hb⟩
  walk_at "dx"
  refine run_all ⟨_, _, _, _, _, _, rfl, ?_⟩
  walk_at "dx"
  refine ne_self (n := 2) (pn_lst (b6_pls (b6_g hr rnd_nm))) (by decide) ?_
  walk_at "dx"
  refine ⟨rfl, rfl, fun p hp => ⟨p, rfl, th_i, th_i, th_i, ts, tr, th_b, rfl, fun _ => ⟨BNs, _, rfl, rfl, ?_⟩, fun hb => by rw [b6_g hr rnd_nm] at hb; cases hb⟩⟩
  walk_at "dx"
  refine run_all ⟨_, _, _, _, _, _, rfl, ?_⟩
  walk_at "dx"
  refine ne_self (n := 2) (pn_lst (b6_pls (b6_g hr rnd_nm))) (by decide) ?_
  walk_at "dx"
  refine fun p hp => ⟨p, rfl, th_i, th_i, th_i, ts, tf, th_b, rfl, fun _ => ⟨BNs, _, rfl, rfl, ?_⟩, fun hb => by rw [b6_g hr hr.f1] at hb; cases hb⟩
  walk_at "dx"
  refine run_all ⟨_, _, _, _, _, _, rfl, ?_⟩
  walk_at "dx"
  refine eq_self (n := 2) (pn_lst (b6_pls (b6_g hr hr.f1))) (by decide) ?_
  walk_at "dx"
  exact .done q

end Pr
set_option Elab.async false
set_option linter.all false
set_option maxRecDepth 100000
set_option maxHeartbeats 4000000
namespace Pr
open PySem PyProof.Rows L2 DL DX
local macro_rules | `(tactic| walk_at "dl") => `(tactic| simp (config := {proj := false}) only [DL.n_nx, DL.n_rt, DL.n_bk, DL.n_ct, DL.eq_ii, DL.eq_ss, DL.eq_bb, DL.eq_nn, DL.eq_ni, DL.eq_in, DL.ne_ii, DL.ne_ss, DL.r_seq, DL.r_for, DL.r_if, DL.r_next, DL.r_ret, DL.r_retN, DL.r_brk, DL.r_cnt, DL.r_drop, DL.r_set, DL.r_asg, DL.r_gname, DL.r_gnil, DL.r_gcons, DL.r_gtup, DL.r_gsub, DL.r_name, DL.r_at0, DL.r_atS, DL.r_c, DL.r_op, DL.r_test, DL.r_tru, DL.r_and, DL.r_or, DL.r_not, DL.r_ife, DL.r_nil, DL.r_cons, DL.r_tup, DL.r_lst, DL.r_lstM, DL.r_cb, DL.r_call, DL.r_bm, DL.r_fld, DL.r_chain, DL.r_orT, DL.r_andT, DL.r_notT, DL.r_neg, DL.r_sl, DL.r_nop, DL.r_part, DL.r_slL, DL.r_slT, DL.r_slS, DL.r_lc, DL.r_lcM, DL.r_iter, DL.r_rng1, DL.r_rng2, DL.z_ch, DL.z_ts, DL.z_pt, DL.z_itL, DL.z_itT, DL.z_itS, DL.z_itR, DL.z_rg1, DL.z_rg2, DL.z_iT, DL.z_iF, DL.z_ft, DL.z_tf, DL.z_nt, DL.z_nf, DL.r_disp, DL.r_pnil, DL.r_pcons, DL.o_addI, DL.o_addS, DL.o_addL, DL.o_addT, DL.o_sub, DL.o_mulI, DL.o_mulS, DL.o_mulL, DL.o_div, DL.o_divZ, DL.o_mod, DL.o_modZ, DL.o_pow, DL.o_lt, DL.o_le, DL.o_gt, DL.o_ge, DL.o_isN, DL.o_isB, DL.o_isnN, DL.o_isnB, DL.o_ixL, DL.o_ixT, DL.o_ixS, DL.o_ixR, DL.c_lenL, DL.c_lenT, DL.c_lenS, DL.c_lenR, DL.c_intI, DL.c_intB, DL.c_intS, DL.c_int2, DL.c_strI, DL.c_strS, DL.c_abs, DL.c_max2, DL.c_min2, DL.q_non, DL.q_bl, DL.q_int, DL.q_str, DL.q_lst, DL.q_tup, DL.tym_s, DL.tym_l, DL.m_up, DL.m_low, DL.k_int_int, DL.k_int_bool, DL.k_int_str, DL.k_int_tuple, DL.k_int_list, DL.k_int_dict, DL.k_bl_int, DL.k_bl_bool, DL.k_bl_str, DL.k_bl_tuple, DL.k_bl_list, DL.k_bl_dict, DL.k_str_int, DL.k_str_bool, DL.k_str_str, DL.k_str_tuple, DL.k_str_list, DL.k_str_dict, DL.k_tup_int, DL.k_tup_bool, DL.k_tup_str, DL.k_tup_tuple, DL.k_tup_list, DL.k_tup_dict, DL.k_lst_int, DL.k_lst_bool, DL.k_lst_str, DL.k_lst_tuple, DL.k_lst_list, DL.k_lst_dict, DL.k_non_int, DL.k_non_bool, DL.k_non_str, DL.k_non_tuple, DL.k_non_list, DL.k_non_dict, DL.k_dic_int, DL.k_dic_bool, DL.k_dic_str, DL.k_dic_tuple, DL.k_dic_list, DL.k_dic_dict, DL.k_dit_int, DL.k_dit_bool, DL.k_dit_str, DL.k_dit_tuple, DL.k_dit_list, DL.k_dit_dict, DL.ls0, DL.lsS, DL.la0, DL.laS, DL.r_bind1, DL.r_wipe0, DL.r_wipeS, List.append_nil, true_and])
local macro_rules | `(tactic| walk_at "dw") => `(tactic| repeat (first | ((with_reducible apply DL.m_nm); (· exact rfl)) | (with_reducible refine DL.m_nx ?_) | (with_reducible refine DL.st DL.r_sortM ?_) | (with_reducible refine DL.st DL.r_sortS ?_) | (with_reducible refine DL.st DL.un_cons ?_) | (with_reducible refine DL.st DL.un_nil ?_) | (with_reducible refine DL.un_gh ?_) | (with_reducible refine DL.m_rt ?_) | (with_reducible refine DL.m_bk ?_) | (with_reducible refine DL.m_ct ?_) | (with_reducible refine DL.m_tr ?_) | (with_reducible refine DL.i_t ?_) | (with_reducible refine DL.i_f ?_) | (with_reducible refine DL.i_n ?_) | (with_reducible refine DL.m_tys ?_) | (with_reducible refine DL.m_tyl ?_) | (with_reducible refine DL.st DL.r_c ?_) | (with_reducible refine DL.st DL.r_par ?_) | (with_reducible refine DL.st DL.q_pr2 ?_) | (with_reducible refine DL.st DL.r_thru ?_) | (with_reducible refine DL.st DL.r_dic0 ?_) | (with_reducible refine DL.st DL.r_fmt ?_) | (with_reducible refine DL.st DL.r_join ?_) | (with_reducible refine DL.st DL.r_jnil ?_) | (with_reducible refine DL.st DL.r_jcons ?_) | (with_reducible refine DL.st DL.r_seqG ?_) | (with_reducible refine DL.st DL.r_raiseW ?_) | (with_reducible refine DL.st DX.r_tryMA ?_) | (with_reducible refine DL.st DX.r_raiseF ?_) | (with_reducible refine DL.st DX.r_methN ?_) | (with_reducible refine DL.st DL.r_tryAs ?_) | (with_reducible refine DL.st DL.q_fmtI ?_) | (with_reducible refine DL.st DL.q_fmtB ?_) | (with_reducible refine DL.st DL.q_fmtS ?_) | (with_reducible refine DL.st DL.r_cons ?_) | (with_reducible refine DL.st DL.r_nil ?_) | (with_reducible refine DL.st DL.r_op ?_) | (with_reducible refine DL.st DL.r_call ?_) | (with_reducible refine DL.st DL.r_cb ?_) | (with_reducible refine DL.st DL.r_seq ?_) | (with_reducible refine DL.st DL.r_set ?_) | (with_reducible refine DL.st DL.r_test ?_) | (with_reducible refine DL.st DL.r_tru ?_) | (with_reducible refine DL.st DL.z_ts ?_) | (with_reducible refine DL.st DL.q_bl ?_) | (with_reducible refine DL.st DL.r_if ?_) | (with_reducible refine DL.st DL.r_ret ?_) | (with_reducible refine DL.st DL.r_for ?_) | (with_reducible refine DL.st DL.r_next ?_) | (with_reducible refine DL.st DL.r_retN ?_) | (with_reducible refine DL.st DL.r_brk ?_) | (with_reducible refine DL.st DL.r_cnt ?_) | (with_reducible refine DL.st DL.r_drop ?_) | (with_reducible refine DL.st DL.r_asg ?_) | (with_reducible refine DL.st DL.r_gname ?_) | (with_reducible refine DL.st DL.r_gnil ?_) | (with_reducible refine DL.st DL.r_gcons ?_) | (with_reducible refine DL.st DL.r_gtup ?_) | (with_reducible refine DL.st DL.r_gsub ?_) | (with_reducible refine DL.st DL.r_and ?_) | (with_reducible refine DL.st DL.r_or ?_) | (with_reducible refine DL.st DL.r_not ?_) | (with_reducible refine DL.st DL.r_ife ?_) | (with_reducible refine DL.st DL.r_tup ?_) | (with_reducible refine DL.st DL.r_lst ?_) | (with_reducible refine DL.st DL.r_lstM ?_) | (with_reducible refine DL.st DL.r_bm ?_) | (with_reducible refine DL.st DL.r_fld ?_) | (with_reducible refine DL.st DL.r_chain ?_) | (with_reducible refine DL.st DL.r_orT ?_) | (with_reducible refine DL.st DL.r_andT ?_) | (with_reducible refine DL.st DL.r_notT ?_) | (with_reducible refine DL.st DL.r_neg ?_) | (with_reducible refine DL.st DL.r_sl ?_) | (with_reducible refine DL.st DL.r_nop ?_) | (with_reducible refine DL.st DL.r_part ?_) | (with_reducible refine DL.st DL.r_slL ?_) | (with_reducible refine DL.st DL.r_slT ?_) | (with_reducible refine DL.st DL.r_slS ?_) | (with_reducible refine DL.st DL.r_lc ?_) | (with_reducible refine DL.st DL.r_lcM ?_) | (with_reducible refine DL.st DL.r_iter ?_) | (with_reducible refine DL.st DL.r_rng1 ?_) | (with_reducible refine DL.st DL.r_rng2 ?_) | (with_reducible refine DL.st DL.z_ch ?_) | (with_reducible refine DL.st DL.z_pt ?_) | (with_reducible refine DL.st DL.z_itL ?_) | (with_reducible refine DL.st DL.z_itT ?_) | (with_reducible refine DL.st DL.z_itS ?_) | (with_reducible refine DL.st DL.z_itR ?_) | (with_reducible refine DL.st DL.z_rg1 ?_) | (with_reducible refine DL.st DL.z_rg2 ?_) | (with_reducible refine DL.st DL.r_disp ?_) | (with_reducible refine DL.st DL.r_pnil ?_) | (with_reducible refine DL.st DL.r_pcons ?_) | (with_reducible refine DL.st DL.o_addI ?_) | (with_reducible refine DL.st DL.o_addS ?_) | (with_reducible refine DL.st DL.o_addL ?_) | (with_reducible refine DL.st DL.o_addT ?_) | (with_reducible refine DL.st DL.o_sub ?_) | (with_reducible refine DL.st DL.o_mulI ?_) | (with_reducible refine DL.st DL.o_mulS ?_) | (with_reducible refine DL.st DL.o_mulL ?_) | (with_reducible refine DL.st DL.o_div ?_) | (with_reducible refine DL.st DL.o_divZ ?_) | (with_reducible refine DL.st DL.o_mod ?_) | (with_reducible refine DL.st DL.o_modZ ?_) | (with_reducible refine DL.st DL.o_pow ?_) | (with_reducible refine DL.st DL.o_lt ?_) | (with_reducible refine DL.st DL.o_le ?_) | (with_reducible refine DL.st DL.o_gt ?_) | (with_reducible refine DL.st DL.o_ge ?_) | (with_reducible refine DL.st DL.o_isN ?_) | (with_reducible refine DL.st DL.o_isB ?_) | (with_reducible refine DL.st DL.o_isnN ?_) | (with_reducible refine DL.st DL.o_isnB ?_) | (with_reducible refine DL.st DL.o_ixL ?_) | (with_reducible refine DL.st DL.o_ixT ?_) | (with_reducible refine DL.st DL.o_ixS ?_) | (with_reducible refine DL.st DL.o_ixR ?_) | (with_reducible refine DL.st DL.c_lenL ?_) | (with_reducible refine DL.st DL.c_lenT ?_) | (with_reducible refine DL.st DL.c_lenS ?_) | (with_reducible refine DL.st DL.c_lenR ?_) | (with_reducible refine DL.st DL.c_intI ?_) | (with_reducible refine DL.st DL.c_intB ?_) | (with_reducible refine DL.st DL.c_intS ?_) | (with_reducible refine DL.st DL.c_int2 ?_) | (with_reducible refine DL.st DL.c_strI ?_) | (with_reducible refine DL.st DL.c_strS ?_) | (with_reducible refine DL.st DL.c_abs ?_) | (with_reducible refine DL.st DL.c_max2 ?_) | (with_reducible refine DL.st DL.c_min2 ?_) | (with_reducible refine DL.st DL.q_non ?_) | (with_reducible refine DL.st DL.q_int ?_) | (with_reducible refine DL.st DL.q_str ?_) | (with_reducible refine DL.st DL.q_lst ?_) | (with_reducible refine DL.st DL.q_tup ?_) | (with_reducible refine DL.st DL.m_up ?_) | (with_reducible refine DL.st DL.m_low ?_) | (with_reducible refine DL.st DL.r_bind1 ?_) | (with_reducible refine DL.st DL.eq_ii ?_) | (with_reducible refine DL.st DL.eq_ss ?_) | (with_reducible refine DL.st DL.eq_bb ?_) | (with_reducible refine DL.st DL.eq_nn ?_) | (with_reducible refine DL.st DL.eq_ni ?_) | (with_reducible refine DL.st DL.eq_in ?_) | (with_reducible refine DL.st DL.ne_ii ?_) | (with_reducible refine DL.st DL.ne_ss ?_) | (with_reducible refine DL.st DL.r_make ?_) | (with_reducible refine DL.st DL.r_meth ?_) | (with_reducible refine DL.st DL.r_fldC ?_) | (with_reducible refine DL.st DL.r_fldS ?_) | (with_reducible refine DL.st DL.c_listL ?_) | (with_reducible refine DL.st DL.c_listT ?_) | (with_reducible refine DL.st DL.c_tupL ?_) | (with_reducible refine DL.st DL.c_tupT ?_) | (with_reducible refine DL.st DL.r_rev ?_) | (with_reducible refine DL.st DL.z_rvL ?_) | ((with_reducible apply DL.m_aug); (· exact rfl)) | (with_reducible refine DL.st DL.q_augI ?_) | (with_reducible refine DL.st DL.q_augS ?_) | (with_reducible refine DL.st DL.r_fmtR ?_) | (with_reducible refine DL.st DL.q_fmrS ?_) | (with_reducible refine DL.st DL.r_enum ?_) | (with_reducible refine DL.st DL.r_enumT ?_) | (with_reducible refine DL.st DL.z_enT ?_) | (with_reducible refine DL.st DL.z_enL ?_) | ((with_reducible apply DL.m_fobj); (· decide +kernel); (· exact rfl)) | ((with_reducible apply DL.m_mobj); (· decide +kernel)) | ((with_reducible apply DL.m_new); (· decide +kernel); (· exact rfl); (· exact rfl)) | (with_reducible refine DL.st DL.r_callN ?_) | (with_reducible refine DL.st DL.r_makeN ?_) | ((with_reducible apply DL.m_pkN); (· exact rfl); (· exact rfl); (· exact rfl)) | (with_reducible refine DL.s_int_int ?_) | (with_reducible refine DL.s_int_bool ?_) | (with_reducible refine DL.s_int_str ?_) | (with_reducible refine DL.s_int_tuple ?_) | (with_reducible refine DL.s_int_list ?_) | (with_reducible refine DL.s_int_dict ?_) | (with_reducible refine DL.s_bl_int ?_) | (with_reducible refine DL.s_bl_bool ?_) | (with_reducible refine DL.s_bl_str ?_) | (with_reducible refine DL.s_bl_tuple ?_) | (with_reducible refine DL.s_bl_list ?_) | (with_reducible refine DL.s_bl_dict ?_) | (with_reducible refine DL.s_str_int ?_) | (with_reducible refine DL.s_str_bool ?_) | (with_reducible refine DL.s_str_str ?_) | (with_reducible refine DL.s_str_tuple ?_) | (with_reducible refine DL.s_str_list ?_) | (with_reducible refine DL.s_str_dict ?_) | (with_reducible refine DL.s_tup_int ?_) | (with_reducible refine DL.s_tup_bool ?_) | (with_reducible refine DL.s_tup_str ?_) | (with_reducible refine DL.s_tup_tuple ?_) | (with_reducible refine DL.s_tup_list ?_) | (with_reducible refine DL.s_tup_dict ?_) | (with_reducible refine DL.s_lst_int ?_) | (with_reducible refine DL.s_lst_bool ?_) | (with_reducible refine DL.s_lst_str ?_) | (with_reducible refine DL.s_lst_tuple ?_) | (with_reducible refine DL.s_lst_list ?_) | (with_reducible refine DL.s_lst_dict ?_) | (with_reducible refine DL.s_non_int ?_) | (with_reducible refine DL.s_non_bool ?_) | (with_reducible refine DL.s_non_str ?_) | (with_reducible refine DL.s_non_tuple ?_) | (with_reducible refine DL.s_non_list ?_) | (with_reducible refine DL.s_non_dict ?_) | (with_reducible refine DL.s_dic_int ?_) | (with_reducible refine DL.s_dic_bool ?_) | (with_reducible refine DL.s_dic_str ?_) | (with_reducible refine DL.s_dic_tuple ?_) | (with_reducible refine DL.s_dic_list ?_) | (with_reducible refine DL.s_dic_dict ?_) | (with_reducible refine DL.s_dit_int ?_) | (with_reducible refine DL.s_dit_bool ?_) | (with_reducible refine DL.s_dit_str ?_) | (with_reducible refine DL.s_dit_tuple ?_) | (with_reducible refine DL.s_dit_list ?_) | (with_reducible refine DL.s_dit_dict ?_) | ((with_reducible refine DL.m_sz ?_ ?_); (· exact rfl)) | ((with_reducible refine DL.m_sz2 ?_ ?_); (· exact rfl)) | ((with_reducible refine DL.m_szs ?_ ?_); (· decide +kernel)) | (with_reducible refine DL.m_ty ?_) | ((with_reducible refine DL.m_ln ?_ ?_); (· exact rfl)) | ((with_reducible refine And.intro ?_ ?_); (· (first | with_reducible assumption | omega)))))
local macro_rules | `(tactic| walk_at "dx") => `(tactic| repeat (first | ((with_reducible apply DL.m_nm); (· exact rfl)) | (with_reducible refine DL.m_nx ?_) | ((with_reducible apply DL.ex_atI); (· (first | with_reducible assumption | exact rfl))) | (with_reducible refine DL.st DL.r_sortM ?_) | (with_reducible refine DL.st DL.r_sortS ?_) | (with_reducible refine DL.st DL.un_cons ?_) | (with_reducible refine DL.st DL.un_nil ?_) | (with_reducible refine DL.un_gh ?_) | (with_reducible refine DL.m_rt ?_) | (with_reducible refine DL.m_bk ?_) | (with_reducible refine DL.m_ct ?_) | (with_reducible refine DL.m_tr ?_) | (with_reducible refine DL.i_t ?_) | (with_reducible refine DL.i_f ?_) | (with_reducible refine DL.i_n ?_) | (with_reducible refine DL.m_tys ?_) | (with_reducible refine DL.m_tyl ?_) | (with_reducible refine DL.st DL.r_c ?_) | (with_reducible refine DL.st DL.r_par ?_) | (with_reducible refine DL.st DL.q_pr2 ?_) | (with_reducible refine DL.st DL.r_thru ?_) | (with_reducible refine DL.st DL.r_dic0 ?_) | (with_reducible refine DL.st DL.r_fmt ?_) | (with_reducible refine DL.st DL.r_join ?_) | (with_reducible refine DL.st DL.r_jnil ?_) | (with_reducible refine DL.st DL.r_jcons ?_) | (with_reducible refine DL.st DL.r_seqG ?_) | (with_reducible refine DL.st DL.r_raiseW ?_) | (with_reducible refine DL.st DX.r_tryMA ?_) | (with_reducible refine DL.st DX.r_raiseF ?_) | (with_reducible refine DL.st DX.r_methN ?_) | (with_reducible refine DL.st DL.r_tryAs ?_) | (with_reducible refine DL.st DL.q_fmtI ?_) | (with_reducible refine DL.st DL.q_fmtB ?_) | (with_reducible refine DL.st DL.q_fmtS ?_) | (with_reducible refine DL.st DL.r_cons ?_) | (with_reducible refine DL.st DL.r_nil ?_) | (with_reducible refine DL.st DL.r_op ?_) | (with_reducible refine DL.st DL.r_call ?_) | (with_reducible refine DL.st DL.r_cb ?_) | (with_reducible refine DL.st DL.r_seq ?_) | (with_reducible refine DL.st DL.r_set ?_) | (with_reducible refine DL.st DL.r_test ?_) | (with_reducible refine DL.st DL.r_tru ?_) | (with_reducible refine DL.st DL.z_ts ?_) | (with_reducible refine DL.st DL.q_bl ?_) | (with_reducible refine DL.st DL.r_if ?_) | (with_reducible refine DL.st DL.r_ret ?_) | (with_reducible refine DL.st DL.r_for ?_) | (with_reducible refine DL.st DL.r_next ?_) | (with_reducible refine DL.st DL.r_retN ?_) | (with_reducible refine DL.st DL.r_brk ?_) | (with_reducible refine DL.st DL.r_cnt ?_) | (with_reducible refine DL.st DL.r_drop ?_) | (with_reducible refine DL.st DL.r_asg ?_) | (with_reducible refine DL.st DL.r_gname ?_) | (with_reducible refine DL.st DL.r_gnil ?_) | (with_reducible refine DL.st DL.r_gcons ?_) | (with_reducible refine DL.st DL.r_gtup ?_) | (with_reducible refine DL.st DL.r_gsub ?_) | (with_reducible refine DL.st DL.r_and ?_) | (with_reducible refine DL.st DL.r_or ?_) | (with_reducible refine DL.st DL.r_not ?_) | (with_reducible refine DL.st DL.r_ife ?_) | (with_reducible refine DL.st DL.r_tup ?_) | (with_reducible refine DL.st DL.r_lst ?_) | (with_reducible refine DL.st DL.r_lstM ?_) | (with_reducible refine DL.st DL.r_bm ?_) | (with_reducible refine DL.st DL.r_fld ?_) | (with_reducible refine DL.st DL.r_chain ?_) | (with_reducible refine DL.st DL.r_orT ?_) | (with_reducible refine DL.st DL.r_andT ?_) | (with_reducible refine DL.st DL.r_notT ?_) | (with_reducible refine DL.st DL.r_neg ?_) | (with_reducible refine DL.st DL.r_sl ?_) | (with_reducible refine DL.st DL.r_nop ?_) | (with_reducible refine DL.st DL.r_part ?_) | (with_reducible refine DL.st DL.r_slL ?_) | (with_reducible refine DL.st DL.r_slT ?_) | (with_reducible refine DL.st DL.r_slS ?_) | (with_reducible refine DL.st DL.r_lc ?_) | (with_reducible refine DL.st DL.r_lcM ?_) | (with_reducible refine DL.st DL.r_iter ?_) | (with_reducible refine DL.st DL.r_rng1 ?_) | (with_reducible refine DL.st DL.r_rng2 ?_) | (with_reducible refine DL.st DL.z_ch ?_) | (with_reducible refine DL.st DL.z_pt ?_) | (with_reducible refine DL.st DL.z_itL ?_) | (with_reducible refine DL.st DL.z_itT ?_) | (with_reducible refine DL.st DL.z_itS ?_) | (with_reducible refine DL.st DL.z_itR ?_) | (with_reducible refine DL.st DL.z_rg1 ?_) | (with_reducible refine DL.st DL.z_rg2 ?_) | (with_reducible refine DL.st DL.r_disp ?_) | (with_reducible refine DL.st DL.r_pnil ?_) | (with_reducible refine DL.st DL.r_pcons ?_) | (with_reducible refine DL.st DL.o_addI ?_) | (with_reducible refine DL.st DL.o_addS ?_) | (with_reducible refine DL.st DL.o_addL ?_) | (with_reducible refine DL.st DL.o_addT ?_) | (with_reducible refine DL.st DL.o_sub ?_) | (with_reducible refine DL.st DL.o_mulI ?_) | (with_reducible refine DL.st DL.o_mulS ?_) | (with_reducible refine DL.st DL.o_mulL ?_) | (with_reducible refine DL.st DL.o_div ?_) | (with_reducible refine DL.st DL.o_divZ ?_) | (with_reducible refine DL.st DL.o_mod ?_) | (with_reducible refine DL.st DL.o_modZ ?_) | (with_reducible refine DL.st DL.o_pow ?_) | (with_reducible refine DL.st DL.o_lt ?_) | (with_reducible refine DL.st DL.o_le ?_) | (with_reducible refine DL.st DL.o_gt ?_) | (with_reducible refine DL.st DL.o_ge ?_) | (with_reducible refine DL.st DL.o_isN ?_) | (with_reducible refine DL.st DL.o_isB ?_) | (with_reducible refine DL.st DL.o_isnN ?_) | (with_reducible refine DL.st DL.o_isnB ?_) | (with_reducible refine DL.st DL.o_ixL ?_) | (with_reducible refine DL.st DL.o_ixT ?_) | (with_reducible refine DL.st DL.o_ixS ?_) | (with_reducible refine DL.st DL.o_ixR ?_) | (with_reducible refine DL.st DL.c_lenL ?_) | (with_reducible refine DL.st DL.c_lenT ?_) | (with_reducible refine DL.st DL.c_lenS ?_) | (with_reducible refine DL.st DL.c_lenR ?_) | (with_reducible refine DL.st DL.c_intI ?_) | (with_reducible refine DL.st DL.c_intB ?_) | (with_reducible refine DL.st DL.c_intS ?_) | (with_reducible refine DL.st DL.c_int2 ?_) | (with_reducible refine DL.st DL.c_strI ?_) | (with_reducible refine DL.st DL.c_strS ?_) | (with_reducible refine DL.st DL.c_abs ?_) | (with_reducible refine DL.st DL.c_max2 ?_) | (with_reducible refine DL.st DL.c_min2 ?_) | (with_reducible refine DL.st DL.q_non ?_) | (with_reducible refine DL.st DL.q_int ?_) | (with_reducible refine DL.st DL.q_str ?_) | (with_reducible refine DL.st DL.q_lst ?_) | (with_reducible refine DL.st DL.q_tup ?_) | (with_reducible refine DL.st DL.m_up ?_) | (with_reducible refine DL.st DL.m_low ?_) | (with_reducible refine DL.st DL.r_bind1 ?_) | (with_reducible refine DL.st DL.eq_ii ?_) | (with_reducible refine DL.st DL.eq_ss ?_) | (with_reducible refine DL.st DL.eq_bb ?_) | (with_reducible refine DL.st DL.eq_nn ?_) | (with_reducible refine DL.st DL.eq_ni ?_) | (with_reducible refine DL.st DL.eq_in ?_) | (with_reducible refine DL.st DL.ne_ii ?_) | (with_reducible refine DL.st DL.ne_ss ?_) | (with_reducible refine DL.st DL.r_make ?_) | (with_reducible refine DL.st DL.r_meth ?_) | (with_reducible refine DL.st DL.r_fldC ?_) | (with_reducible refine DL.st DL.r_fldS ?_) | (with_reducible refine DL.st DL.c_listL ?_) | (with_reducible refine DL.st DL.c_listT ?_) | (with_reducible refine DL.st DL.c_tupL ?_) | (with_reducible refine DL.st DL.c_tupT ?_) | (with_reducible refine DL.st DL.r_rev ?_) | (with_reducible refine DL.st DL.z_rvL ?_) | ((with_reducible apply DL.m_aug); (· exact rfl)) | (with_reducible refine DL.st DL.q_augI ?_) | (with_reducible refine DL.st DL.q_augS ?_) | (with_reducible refine DL.st DL.r_fmtR ?_) | (with_reducible refine DL.st DL.q_fmrS ?_) | (with_reducible refine DL.st DL.r_enum ?_) | (with_reducible refine DL.st DL.r_enumT ?_) | (with_reducible refine DL.st DL.z_enT ?_) | (with_reducible refine DL.st DL.z_enL ?_) | ((with_reducible apply DL.m_fobj); (· decide +kernel); (· exact rfl)) | ((with_reducible apply DL.m_mobj); (· decide +kernel)) | ((with_reducible apply DL.m_new); (· decide +kernel); (· exact rfl); (· exact rfl)) | (with_reducible refine DL.st DL.r_callN ?_) | (with_reducible refine DL.st DL.r_makeN ?_) | ((with_reducible apply DL.m_pkN); (· exact rfl); (· exact rfl); (· exact rfl)) | (with_reducible refine DL.s_int_int ?_) | (with_reducible refine DL.s_int_bool ?_) | (with_reducible refine DL.s_int_str ?_) | (with_reducible refine DL.s_int_tuple ?_) | (with_reducible refine DL.s_int_list ?_) | (with_reducible refine DL.s_int_dict ?_) | (with_reducible refine DL.s_bl_int ?_) | (with_reducible refine DL.s_bl_bool ?_) | (with_reducible refine DL.s_bl_str ?_) | (with_reducible refine DL.s_bl_tuple ?_) | (with_reducible refine DL.s_bl_list ?_) | (with_reducible refine DL.s_bl_dict ?_) | (with_reducible refine DL.s_str_int ?_) | (with_reducible refine DL.s_str_bool ?_) | (with_reducible refine DL.s_str_str ?_) | (with_reducible refine DL.s_str_tuple ?_) | (with_reducible refine DL.s_str_list ?_) | (with_reducible refine DL.s_str_dict ?_) | (with_reducible refine DL.s_tup_int ?_) | (with_reducible refine DL.s_tup_bool ?_) | (with_reducible refine DL.s_tup_str ?_) | (with_reducible refine DL.s_tup_tuple ?_) | (with_reducible refine DL.s_tup_list ?_) | (with_reducible refine DL.s_tup_dict ?_) | (with_reducible refine DL.s_lst_int ?_) | (with_reducible refine DL.s_lst_bool ?_) | (with_reducible refine DL.s_lst_str ?_) | (with_reducible refine DL.s_lst_tuple ?_) | (with_reducible refine DL.s_lst_list ?_) | (with_reducible refine DL.s_lst_dict ?_) | (with_reducible refine DL.s_non_int ?_) | (with_reducible refine DL.s_non_bool ?_) | (with_reducible refine DL.s_non_str ?_) | (with_reducible refine DL.s_non_tuple ?_) | (with_reducible refine DL.s_non_list ?_) | (with_reducible refine DL.s_non_dict ?_) | (with_reducible refine DL.s_dic_int ?_) | (with_reducible refine DL.s_dic_bool ?_) | (with_reducible refine DL.s_dic_str ?_) | (with_reducible refine DL.s_dic_tuple ?_) | (with_reducible refine DL.s_dic_list ?_) | (with_reducible refine DL.s_dic_dict ?_) | (with_reducible refine DL.s_dit_int ?_) | (with_reducible refine DL.s_dit_bool ?_) | (with_reducible refine DL.s_dit_str ?_) | (with_reducible refine DL.s_dit_tuple ?_) | (with_reducible refine DL.s_dit_list ?_) | (with_reducible refine DL.s_dit_dict ?_) | ((with_reducible refine DL.m_sz ?_ ?_); (· exact rfl)) | ((with_reducible refine DL.m_sz2 ?_ ?_); (· exact rfl)) | ((with_reducible refine DL.m_szs ?_ ?_); (· decide +kernel)) | (with_reducible refine DL.m_ty ?_) | ((with_reducible refine DL.m_ln ?_ ?_); (· exact rfl)) | ((with_reducible refine And.intro ?_ ?_); (· (first | with_reducible assumption | omega)))))
theorem six_of {xs : List D} (h : xs.length = 6) : ∃ n a w s f d, xs = [n, a, w, s, f, d] := by
  match xs, h with
  | [n, a, w, s, f, d], _ => exact ⟨_, _, _, _, _, _, rfl⟩
theorem cut_mem {xs : List D} {l u : Option Int} {v : D} (h : v ∈ DL.cutD xs l u) : v ∈ xs := List.mem_of_mem_drop (List.mem_of_mem_take h)
theorem cut_len {xs : List D} {l u : Option Int} : (DL.cutD xs l u).length ≤ xs.length := by
  unfold DL.cutD
  rw [List.length_take, List.length_drop]
  omega
theorem gx_vs {r : Rw} (h : r.Ok) : ∀ x ∈ r.vs, Gx x := fun x hx => by
  have n1 := h.n1
  have n2 := h.n2
  have a1 := h.a1
  have a2 := h.a2
  have w1 := h.w1
  have w2 := h.w2
  simp only [List.mem_cons, List.not_mem_nil, or_false] at hx
  rcases hx with rfl | rfl | rfl | rfl | rfl | rfl
  · exact .inl ⟨_, rfl, by omega⟩
  · exact .inl ⟨_, rfl, by omega⟩
  · exact .inl ⟨_, rfl, by omega⟩
  · exact .inr (.inl ⟨_, rfl, h.s1⟩)
  · exact .inr (.inl ⟨_, rfl, h.f1⟩)
  · exact .inr (.inr ⟨_, rfl⟩)
theorem mem_set {xs : List D} {j : Nat} {t x : D} (h : x ∈ xs.set j t) : x = t ∨ x ∈ xs := (List.mem_or_eq_of_mem_set h).symm
def sp_law (K : PySem.W.Frag) : DSp := sp1 fun x G Q E => ∃ ns : List Int, x = .lst (ns.map D.int) ∧ ns.length ≤ 63 ∧ G = [] ∧ ∀ G', Q (.bl true) G'
theorem rd_law (K : PySem.W.Frag) (S : Sps) (e1 : S.f__law_cell_at = sp__law_cell_at) (e2 : S.f__law_draws = sp__law_draws) (e3 : S.f__law_things = sp__law_things) (e4 : S.f__law_one = sp__law_one) (e5 : S.f__law_right = sp__law_right) (e6 : S.f__law_left_out = sp__law_left_out) (e7 : S.f__law_odd = sp__law_odd) :
    ∀ ds G Q E, sp_law K ds G Q E → t_law K S { nx := fun _ G' => GhV Q .non G', rt := GhV Q } (fun cls fs _ G' => E cls fs G') (dstart N_law ds) G := by
  intro ds G Q E h
  obtain ⟨_, rfl, ns, rfl, hns, rfl, q⟩ := sp1_of h
  unfold t_law
  rw [e1, e2, e3, e4, e5, e6, e7, show dstart N_law [.lst (ns.map D.int)] = [some (.lst (ns.map D.int)), none, none, none, none, none, none, none] from rfl]
  walk_at "dx"
  refine run_all ⟨ns, 0, rfl, rfl, fun c0 => ?_⟩
  walk_at "dx"
  refine ⟨sz10 (by have := cut_len (xs := ns.map D.int) (l := some 1) (u := some 20); rw [List.length_map] at this; simp; omega), ?_⟩
  walk_at "dx"
  refine ⟨fun i σ G => (∃ o1 o2 o3 o4 o5 o6 o7, σ = [some (.lst (ns.map D.int)), o1, o2, o3, o4, o5, o6, o7]) ∧ G = [], ⟨⟨_, _, _, _, _, _, _, rfl⟩, rfl⟩, fun _ _ _ _ _ => trivial, fun i v σ G hv hI => ?_, fun σ G hI => ?_⟩
  · obtain ⟨⟨o1, o2, o3, o4, o5, o6, o7, rfl⟩, rfl⟩ := hI
    obtain ⟨z, rfl⟩ : ∃ z : Int, v = .int z := by
      rcases List.mem_append.mp (List.mem_of_getElem? hv) with h1 | h1
      · exact ⟨c0, List.mem_singleton.mp h1⟩
      · obtain ⟨z, _, rfl⟩ := List.mem_map.mp (cut_mem h1)
        exact ⟨z, rfl⟩
    clear hv
    walk_at "dx"
    refine run_all ⟨z, rfl, rfl, fun d G1 h1 => ?_⟩
    walk_at "dx"
    refine run_all ⟨d, 0, rfl, h1, by decide, fun r G2 hr h2 => ?_⟩
    obtain ⟨c, rfl, h2⟩ := h2.one
    have t4 : Th (.str r.s) := th_s (by have := hr.s2.len; omega)
    have t5 : Th (.str r.f) := th_s (by have := hr.f2.len; omega)
    walk_at "dx"
    refine run_all ⟨_, _, _, _, _, _, rfl, th_i, th_i, th_i, t4, t5, th_b, ?_⟩
    walk_at "dx"
    refine run_all ⟨r, rfl, hr, ?_⟩
    walk_at "dx"
    refine ⟨fun i σ G => (∃ o4 o5 o6 o7, σ = [some (.lst (ns.map D.int)), some (.int z), some (.ref d), some (rowD r), o4, o5, o6, o7]) ∧ i ≤ 10 ∧ ∃ c, DW d (1000 + 100 * i) [c] ∧ [c] = G, ⟨⟨_, _, _, _, rfl⟩, by omega, c, h2.le (by omega), rfl⟩, fun _ _ _ _ _ => trivial, fun k v σ G hv hI => ?_, fun σ G hI => ?_⟩
    · obtain ⟨⟨p4, p5, p6, p7, rfl⟩, hk10, c, hc, rfl⟩ := hI
      obtain ⟨hlt, rfl⟩ := rng_get hv
      have hk : k < 10 := hlt
      clear hv hlt
      walk_at "dx"
      intro p hp
      walk_at "dx"
      refine run_1 ⟨d, 2, _, rfl, rfl, by decide, by decide, hc, by omega, fun m G3 a3 b3 h3 => ?_⟩
      obtain ⟨c3, rfl, h3⟩ := h3.one
      walk_at "dx"
      refine ⟨fun j σ G => (∃ o6 o7, σ = [some (.lst (ns.map D.int)), some (.int z), some (.ref d), some (rowD r), some (.int (0 + (k : Nat))), some (.ref p), o6, o7]) ∧ j ≤ 2 ∧ ∃ c xs, DW d (1000 + 100 * k + 1 + 10 * j) [c] ∧ [c, (p, Cell.lst xs)] = G ∧ xs.length = 6 ∧ ∀ x ∈ xs, Th x ∧ (j = 0 → Gx x) ∧ (j ≤ 1 → Sh x),
        ⟨⟨_, _, rfl⟩, by omega, c3, r.vs, h3, rfl, rfl, fun x hx => ⟨th_gx (gx_vs hr x hx), fun _ => gx_vs hr x hx, fun _ => sh_gx (gx_vs hr x hx)⟩⟩, fun _ _ _ _ _ => trivial, fun j v σ G hv hI => ?_, fun σ G hI => ?_⟩
      · obtain ⟨⟨o6, o7, rfl⟩, hj2, c4, xs, hc4, rfl, hl6, hx⟩ := hI
        obtain ⟨hlt, rfl⟩ := rng_get hv
        have hj : j ≤ 1 := by omega
        clear hv hlt
        walk_at "dx"
        refine run_1 ⟨d, 6, _, rfl, rfl, by decide, by decide, hc4, by omega, fun at' G5 a5 b5 h5 => ?_⟩
        obtain ⟨c5, rfl, h5⟩ := h5.one
        obtain ⟨q1, rfl⟩ := Int.eq_ofNat_of_zero_le a5
        obtain ⟨y, hy⟩ : ∃ y, xs[q1]? = some y := ⟨_, List.getElem?_eq_getElem (by omega)⟩
        have hym := List.mem_of_getElem? hy
        walk_at "dx"
        refine ⟨xs, y, List.mem_cons_of_mem _ List.mem_cons_self, atI_nat hy rfl, ?_⟩
        walk_at "dx"
        refine run_1 ⟨d, _, rfl, (hx y hym).2.2 hj, h5, by omega, fun t G6 ht hs h6 => ?_⟩
        obtain ⟨c6, rfl, h6⟩ := h6.one
        walk_at "dx"
        refine ⟨p, 1, q1, xs, q1, rfl, rfl, rfl, ?_, ?_⟩
        · show (if 0 ≤ (q1 : Int) then (if (q1 : Int) < (xs.length : Nat) then some (q1 : Int).toNat else none) else _) = some q1
          rw [if_pos (by omega), if_pos (by omega)]
          simp
        walk_at "dx"
        refine .done ⟨⟨_, _, rfl⟩, by omega, c6, xs.set q1 t, h6.le (by omega), rfl, by rw [List.length_set]; exact hl6, fun x hxm => ?_⟩
        rcases mem_set hxm with rfl | hxm
        · exact ⟨ht, fun h => by omega, fun h => hs ((hx y hym).2.1 (by omega))⟩
        · exact ⟨(hx x hxm).1, fun h => by omega, fun _ => (hx x hxm).2.2 hj⟩
      · obtain ⟨⟨o6, o7, rfl⟩, hj2, c4, xs, hc4, rfl, hl6, hx⟩ := hI
        obtain ⟨x1, x2, x3, x4, x5, x6, rfl⟩ := six_of hl6
        have hx' := fun x hm => (hx x hm).1
        simp only [List.mem_cons, List.not_mem_nil, or_false, forall_eq_or_imp, forall_eq] at hx'
        obtain ⟨g1, g2, g3, g4, g5, g6⟩ := hx'
        walk_at "dx"
        refine ⟨_, List.mem_cons_of_mem _ List.mem_cons_self, ?_⟩
        walk_at "dx"
        refine run_all ⟨x1, x2, x3, x4, x5, x6, rfl, g1, g2, g3, g4, g5, g6, ?_⟩
        walk_at "dx"
        exact .fgt (G' := [c4]) (by simp) (.done ⟨⟨_, _, _, _, rfl⟩, by omega, c4, hc4.le (by rw [rng_len] at *; omega), rfl⟩)
    · obtain ⟨⟨p4, p5, p6, p7, rfl⟩, hk10, c, hc, rfl⟩ := hI
      walk_at "dx"
      exact .fgt (G' := []) (List.nil_sublist _) (.done ⟨⟨_, _, _, _, _, _, _, rfl⟩, rfl⟩)
  · obtain ⟨⟨o1, o2, o3, o4, o5, o6, o7, rfl⟩, rfl⟩ := hI
    walk_at "dx"
    exact .done (q _)

end Pr
set_option Elab.async false
set_option linter.all false
set_option maxRecDepth 100000
set_option maxHeartbeats 0
namespace Pr
open PySem PyProof.Rows L2 DL DX
def SS (K : PySem.W.Frag) : Sps where
  f_is_whole := sp_is_whole
  f_is_name := sp_is_name
  f_is_number := sp_is_number
  f_Bead___init__ := sp_Bead___init__ K
  f__law_cell_at := sp__law_cell_at
  f__law_draws := sp__law_draws
  f__law_one := sp__law_one
  f__law_of := sp__law_of
  f__law_word := sp__law_word
  f__law_size := sp__law_size
  f__law_things := sp__law_things
  f__law_odd := sp__law_odd
  f__law_is_size := sp__law_is_size
  f__law_is_word := sp__law_is_word
  f__law_are_right := sp__law_are_right
  f__law_fields := sp__law_fields K
  f__law_made := sp__law_made K
  f__law_told := sp__law_told K
  f__law_right := sp__law_right
  f__law_left_out := sp__law_left_out
  f_law := sp_law K
section
variable {P : Program} {w : World} {K : PySem.W.Frag} {mg : Str → Option Value} {base : Heap}
theorem law_ok (T : Tx K mg) {f : Addr} {fd : FuncData} (F : FunD K "law" "law" (defArgs s_law) (defBody s_law) (defScope s_law) [] [] f fd) : FnD P w K mg base 9 f fd ["_law_script"] (sp_law K) := by
  have pw_PearlError___init__ := okw_PearlError___init__ (P := P) (w := w) (base := base) T
  have p_is_whole := ok_is_whole (P := P) (w := w) (base := base) T (SS K)  (fun ds G Q E h => sp3_len (show sp_is_whole ds G Q E from h)) (rd_is_whole K (SS K))
  have p_is_name := ok_is_name (P := P) (w := w) (base := base) T (SS K)  (fun ds G Q E h => sp1_len (show sp_is_name ds G Q E from h)) (rd_is_name K (SS K))
  have p__law_cell_at := ok__law_cell_at (P := P) (w := w) (base := base) T (SS K)  (fun ds G Q E h => sp2_len (show sp__law_cell_at ds G Q E from h)) (rd__law_cell_at K (SS K))
  have p__law_draws := ok__law_draws (P := P) (w := w) (base := base) T (SS K)  (fun ds G Q E h => sp1_len (show sp__law_draws ds G Q E from h)) (rd__law_draws K (SS K))
  have p__law_one := ok__law_one (P := P) (w := w) (base := base) T (SS K)  (fun ds G Q E h => sp2_len (show sp__law_one ds G Q E from h)) (rd__law_one K (SS K))
  have p__law_is_size := ok__law_is_size (P := P) (w := w) (base := base) T (SS K)  (fun ds G Q E h => sp2_len (show sp__law_is_size ds G Q E from h)) (rd__law_is_size K (SS K))
  have p__law_is_word := ok__law_is_word (P := P) (w := w) (base := base) T (SS K)  (fun ds G Q E h => sp1_len (show sp__law_is_word ds G Q E from h)) (rd__law_is_word K (SS K))
  have p__law_fields := ok__law_fields (P := P) (w := w) (base := base) T (SS K)  (fun ds G Q E h => sp1_len (show sp__law_fields K ds G Q E from h)) (rd__law_fields K (SS K))
  have p_is_number := ok_is_number (P := P) (w := w) (base := base) T (SS K) p_is_whole (fun ds G Q E h => sp1_len (show sp_is_number ds G Q E from h)) (rd_is_number K (SS K) rfl)
  have p__law_of := ok__law_of (P := P) (w := w) (base := base) T (SS K) p__law_one (fun ds G Q E h => sp2_len (show sp__law_of ds G Q E from h)) (rd__law_of K (SS K) rfl)
  have p__law_word := ok__law_word (P := P) (w := w) (base := base) T (SS K) p__law_one (fun ds G Q E h => sp1_len (show sp__law_word ds G Q E from h)) (rd__law_word K (SS K) rfl)
  have p__law_are_right := ok__law_are_right (P := P) (w := w) (base := base) T (SS K) p__law_is_size p__law_is_word (fun ds G Q E h => sp1_len (show sp__law_are_right ds G Q E from h)) (rd__law_are_right K (SS K) rfl rfl)
  have pN_Bead___init___0 := okpN_Bead___init___0 (P := P) (w := w) (base := base) T (SS K) pw_PearlError___init__ p_is_name p_is_number p_is_whole (fun ds G Q E h => sp7_len (show sp_Bead___init__ K ds G Q E from h)) (rd_Bead___init__ K (SS K) rfl rfl rfl)
  have pN_Bead___init___1 := okpN_Bead___init___1 (P := P) (w := w) (base := base) T (SS K) pw_PearlError___init__ p_is_name p_is_number p_is_whole (fun ds G Q E h => sp7_len (show sp_Bead___init__ K ds G Q E from h)) (rd_Bead___init__ K (SS K) rfl rfl rfl)
  have pN_Bead___init___2 := okpN_Bead___init___2 (P := P) (w := w) (base := base) T (SS K) pw_PearlError___init__ p_is_name p_is_number p_is_whole (fun ds G Q E h => sp7_len (show sp_Bead___init__ K ds G Q E from h)) (rd_Bead___init__ K (SS K) rfl rfl rfl)
  have p_Bead___init__ := ok_Bead___init__ (P := P) (w := w) (base := base) T (SS K) pw_PearlError___init__ p_is_name p_is_number p_is_whole (fun ds G Q E h => sp7_len (show sp_Bead___init__ K ds G Q E from h)) (rd_Bead___init__ K (SS K) rfl rfl rfl)
  have p__law_size := ok__law_size (P := P) (w := w) (base := base) T (SS K) p__law_of p__law_one (fun ds G Q E h => sp1_len (show sp__law_size ds G Q E from h)) (rd__law_size K (SS K) rfl rfl)
  have p__law_odd := ok__law_odd (P := P) (w := w) (base := base) T (SS K) p__law_of p__law_one (fun ds G Q E h => sp2_len (show sp__law_odd ds G Q E from h)) (rd__law_odd K (SS K) rfl rfl)
  have p__law_things := ok__law_things (P := P) (w := w) (base := base) T (SS K) p__law_of p__law_one p__law_size p__law_word (fun ds G Q E h => sp1_len (show sp__law_things ds G Q E from h)) (rd__law_things K (SS K) rfl rfl rfl rfl)
  have p__law_made := ok__law_made (P := P) (w := w) (base := base) T (SS K) p_Bead___init__ pN_Bead___init___0 pN_Bead___init___1 (fun ds G Q E h => sp2_len (show sp__law_made K ds G Q E from h)) (rd__law_made K (SS K) rfl)
  have p__law_left_out := ok__law_left_out (P := P) (w := w) (base := base) T (SS K) p_Bead___init__ p__law_fields pN_Bead___init___2 (fun ds G Q E h => sp1_len (show sp__law_left_out ds G Q E from h)) (rd__law_left_out K (SS K) rfl rfl)
  have p__law_told := ok__law_told (P := P) (w := w) (base := base) T (SS K) p__law_fields p__law_made (fun ds G Q E h => sp2_len (show sp__law_told K ds G Q E from h)) (rd__law_told K (SS K) T.xk rfl rfl)
  have p__law_right := ok__law_right (P := P) (w := w) (base := base) T (SS K) p__law_are_right p__law_told (fun ds G Q E h => sp1_len (show sp__law_right ds G Q E from h)) (rd__law_right K (SS K) rfl rfl)
  exact ok_law (P := P) (w := w) (base := base) T (SS K) F p__law_cell_at p__law_draws p__law_left_out p__law_odd p__law_one p__law_right p__law_things (fun ds G Q E h => sp1_len (show sp_law K ds G Q E from h)) (rd_law K (SS K) rfl rfl rfl rfl rfl rfl rfl)
theorem facts {h : Heap} {f : Addr} (X : K.In h) (G : h.Ns mainGlobals mg) (hfa : mg ("law" : Str) = some (.ref f)) (c : He.SaysD fa fn K) (ce : (exs K).all id = true) :
    ∃ fd : FuncData, (∀ (s : Shared) (v : Value), BindsTo s fd ⟨[v], []⟩ [("_law_script", v)]) ∧ ∀ base : Heap, K.In base → base.Ns mainGlobals mg → FnD P w K mg base 9 f fd ["_law_script"] (sp_law K) := by
  have T := tx_of X G c ce
  obtain ⟨fd, F⟩ := T.d_law
  cases hfa.symm.trans T.m_law
  have b := FunD.bindsA (ps := ["_law_script"]) F fun _ _ _ _ _ _ us hl => match us, hl with | [_], _ => rfl
  exact ⟨fd, fun s v => b s [v] rfl, fun base _ _ => law_ok T F⟩
end
end Pr
open PySem PySem.W PySem.Calls PyProof.Rows
theorem PySem.Challenge.cw_pearlrise_k05_beads_made_holds : PySem.Challenge.rw_pearlrise_k05_beads_made.Holds := by
  w_on; o_law
  refine HandSHeadRun.head_any (r := OpenLaw.row PySem.Challenge.rw_pearlrise_k05_beads_made) (q := view (OpenLaw.row PySem.Challenge.rw_pearlrise_k05_beads_made).prog [39]) (H := Pr.hk) (ob := Pr.ob) (M := 8000) (loose := (Pr.names0 ++ Pr.names1)) (d := HandSHeadRun.topDef (OpenLaw.row PySem.Challenge.rw_pearlrise_k05_beads_made).prog 39) (kwd := []) Pr.ob_eq
    (by kernel_rfl) (fun s => by kernel_rfl) Pr.run (by kernel_rfl) (by kernel_rfl) (by kernel_rfl) (by rfl) (by first | assumption | decide +kernel) (by decide +kernel) ⟨rfl, rfl, rfl, rfl, rfl, by decide +kernel⟩ ?hw ?hc
  case hw => w_witness2
  case hc =>
    refine DL.walk_ofW (l := PySem.Challenge.rw_pearlrise_k05_beads_made) (n := 63) (k := 9) (x := "_law_script") rfl (by decide) (by kernel_rfl) ⟨⟨rfl, by decide, by decide⟩, rfl⟩ ?F
    intro w mg fa h Y G hmg0
    obtain ⟨K, KX, c, ce⟩ := Y
    have hmg : mg ("law" : PySem.Str) = some (.ref fa) := by
      have e : (HandSHeadRun.topDef (OpenLaw.row PySem.Challenge.rw_pearlrise_k05_beads_made).prog 39).name = ("law" : PySem.Str) := by kernel_rfl
      rw [← e]
      exact hmg0
    obtain ⟨fd, hb, hF⟩ := Pr.facts (P := (PySem.Challenge.rw_pearlrise_k05_beads_made).prog) (w := w) KX G hmg c ce
    exact ⟨K, fd, Pr.sp_law K, KX, hb, fun ns hl => ⟨ns, rfl, hl, rfl, fun _ => rfl⟩, hF⟩
