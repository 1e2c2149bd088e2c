import PyProof.Rows.All
import Wide.All
import OpenK.AllK
import Wide.FinOn
import HandS.ForMost
import HandS.ForExc
import HandS.Words
import HandS.WordsExc
import HandS.ExcOwn
import HandS.IsInst
import HandS.Style
import HandS.Codes
import HandS.Flow
import HandS.TupAny
import PyProof.ReprRoads
import HandS.Star
import HandS.CallSlots
import HandS.TryOnly
import HandS.ClsMeth
import HandS.Property
import KE.KExcSuper
import HandS.ExcInit
import HandS.ExcSuper
import HandS.ExcField
import PyProof.SeqIndex
import HandS.Deep
import HandS.SortInts
import KE.GoesMore
import HandS.Nested
import KE.DataFind
import PyProof.InstNe
import PyProof.FactsAll.object_2
import PySem.Challenge.RW_pulledout_k12_runs_as_values
set_option Elab.async false
set_option linter.all false
set_option maxRecDepth 100000
set_option maxHeartbeats 4000000
/-! A promise of a def for callers under whom no repr is under way. -/
namespace DL
open PySem PySem.Spec PyProof.Rows L2

/-- nothing that shows a list or a tuple is under way -/
abbrev Quiet (A : Around) : Prop := A.guards = some []
theorem Quiet.deeper {A : Around} (q : Quiet A) (env : Env) : Quiet (A.deeper env) := q
structure FnG (P : Program) (w : World) (K : PySem.W.Frag) (mg : Str → Option Value) (base : Heap) (CX : CXT) (k : Nat) (f : Addr) (fd : FuncData) (ps : List Str) (sp : Sp) : Prop where
  ln : ∀ vs H Q E, sp vs H Q E → vs.length = ps.length
  go : ∀ (A : Around) (os : List Env) (s : Shared) (H : Hp) (as : Args) (us : List Value) (vs : List V) (Q : VK) (E : XK), Room k A → Quiet A → Env0 P w K mg base A os s H → BindsTo s fd as (ps.zip us) → Vals vs us → sp vs H Q E →
    codeAny (model P w) A (.call (.ref f) as) (CR CX os P w H s Q E) s
theorem FnG.up {P : Program} {w : World} {K : PySem.W.Frag} {mg : Str → Option Value} {base : Heap} {CX : CXT} {j k : Nat} {f : Addr} {fd : FuncData} {ps : List Str} {sp : Sp} (F : FnG P w K mg base CX j f fd ps sp) (h : j ≤ k) : FnG P w K mg base CX k f fd ps sp :=
  ⟨F.ln, fun A os s H as us vs Q E r => F.go A os s H as us vs Q E (r.mono h)⟩
/-- from a body's term -/
theorem fnG_of {CX : CXT} {P : Program} {w : World} {K : PySem.W.Frag} {mg : Str → Option Value} {base : Heap} {k : Nat} {f : Addr} {nm qn : Str} {pm : Arguments} {bd : List Stmt} {sc : Scope} {v1 v2 v3 v4 cdv v5 v6 : Value} {a1 a2 : Option Addr} {sl : Array (Option Value)} {N ps : List Str} {sp : Sp}
    (lk : K.lookup f = some ⟨v6, a2, .func (PySem.W.fnOf nm qn pm bd sc v1 v2 v3 v4 a1 cdv v5), sl⟩) (hcd : PySem.W.codeIn K cdv qn = true) (S : FnScope N ps sc) (ln : ∀ vs H Q E, sp vs H Q E → vs.length = ps.length)
    (hb : ∀ (A : Around) (os : List Env) (s : Shared) (H : Hp) (vs : List V) (Q : VK) (E : XK), Room k (A.deeper (envOfC qn sc s.heap.objs.size f cdv)) → Quiet (A.deeper (envOfC qn sc s.heap.objs.size f cdv)) → sp vs H Q E →
      ∃ t, PSs (cxOf CX P w K mg base N qn sc f cdv A os s H E) bd t ∧ t { nx := fun _ H' => Q .non H', rt := Q } (start N vs) H) :
    FnG P w K mg base CX (k + 1) f (PySem.W.fnOf nm qn pm bd sc v1 v2 v3 v4 a1 cdv v5) ps sp := by
  refine ⟨ln, fun A os s H as us vs Q E hr hq e0 hbd rv hsp => ?_⟩
  have up : ∀ b o, base.get? b = some o → s.heap.get? b = some o := fun b o z => (e0.bs b o z).1
  have hK := e0.mod.kin.keeps up
  have knd : ∀ y ∈ ps.zip us, sc.names.lookup y.1 = some .local ∨ (sc.names.lookup y.1 = some .cell ∧ ((cellsFrom (s.heap.objs.size + 1) sc.names []).lookup y.1).isSome = true) := by
    rintro ⟨n, v⟩ hy
    rcases S.par n (List.of_mem_zip hy).1 with z | z
    · exact Or.inl z
    · exact Or.inr ⟨z, PySem.W.cellsFrom_some _ _ _ (Or.inl z)⟩
  refine codeAny_call_function hr.depth (hK _ _ lk) rfl S.co S.gen rfl (PySem.W.codeRec_of hK hcd) (hbd _ _ _ _ ?_)
  refine wpAny_newFunctionEnv_cells S.kind knd fun env z s1 x => ?_
  subst z
  refine ⟨(e0.mod.nolimit.keeps up).keeps x.toInCall.keep, codeAny_func ?_⟩
  obtain ⟨t, ht, hQ⟩ := hb A os s H vs Q E (hr.deeper _) (hq.deeper _) hsp
  have I0 := inv_start (CX := CX) (E := E) S hr.hd e0 (ln _ _ _ _ hsp) rv x
  refine wpAny_mono (ht.run [] s1 (start N vs) H _ I0 hQ) (fun fl s' z => ?_) fun e s' z => z
  cases fl with
  | ret u => obtain ⟨v, σ', H', J, r1, r2⟩ := z; exact ⟨v, H', J.os, J.bare, J.base, J.hok, r1, r2⟩
  | next => obtain ⟨σ', H', J, r2⟩ := z; exact ⟨V.non, H', J.os, J.bare, J.base, J.hok, rfl, r2⟩
  | brk => obtain ⟨_, _, _, z⟩ := z; exact z.elim
  | cont => obtain ⟨_, _, _, z⟩ := z; exact z.elim
section
variable {X : Cx} {CX : CXT} {k : Nat} {f : Addr} {fd : FuncData} {ps : List Str} {sp : Sp} {ds : List Value} {dvs : List V} {E : XK}
theorem runG {pins : List (Addr × Obj)} {σ : L2.St} {H : Hp} {s : Shared} {Q : VK} {us : List Value} {vs : List V} (F : FnG X.prog X.w X.K X.mg X.base CX k f fd ps sp) (hr : Room k X.A) (hG : Quiet X.A) (hb : Binds X.K fd ps ds) (hd : Vals dvs ds) (hx : Passes CX X E) (I : Inv X pins σ H s) (r : Vals vs us)
    (h : sp (vs ++ dvs) H Q E) : wpAny (model X.prog X.w) X.A (call (.ref f) us) (EP X pins σ Q) X.xe s := by
  have rr := r.append hd
  have hl : (us ++ ds).length = ps.length := rr.length.symm.trans (F.ln _ _ _ _ h)
  refine wpAny_call (codeAny_mono (F.go X.A X.stack s H ⟨us, []⟩ (us ++ ds) (vs ++ dvs) Q E hr hG I.env0 (hb s us I.kIn hl) rr h) fun z s' hq => ?_)
  match z, hq with
  | .error e, hq => exact hx pins σ H s e s' I hq
  | .ok (.ret u), hq => exact I.after hq
  | .ok .next, hq | .ok .brk, hq | .ok .cont, hq => exact False.elim hq
theorem pe_callG {x : Str} {e : Expr} {es : List Expr} {t : TA} {p pos : Pos} (F : FnG X.prog X.w X.K X.mg X.base CX k f fd ps sp) (hr : Room k X.A) (hG : Quiet X.A) (hg : Gl X x) (hm : X.mg x = some (.ref f)) (hk : PySem.W.keepIn X.K (.ref f) = true) (hb : Binds X.K fd ps ds) (hd : Vals dvs ds) (hx : Passes CX X E) (ha : PA X (e :: es) t)
    (hdb : (x == ("__debug__" : Str)) = false) (he : starEach (e :: es) X.env = (false, eval e X.env) :: starEach es X.env) (hpl : (backTo pos (starEach es X.env)).any (·.1) = false) : PE X (.Call (.Name x p) (e :: es) [] pos) (tCall sp dvs E t) :=
  ⟨fun pins s σ H Q I h => wpAny_Call_Name_kw (ld_glob I hg hm (PySem.W.callWith_K (h₀ := X.base) I.ok.mod.kin hk (thn (ha.run pos pins s σ H _ I h) fun us s1 ⟨vs, H1, I1, r, q⟩ => ⟨I1.kIn, runG F hr hG hb hd hx I1 r q⟩) he hpl) hdb)⟩
end

/-! ### the law's own head -/
/-- the script alone is tracked, as it stands -/
def scrH (a : Addr) (o : Obj) (ns : List Int) : Hp := fun b => if b = a then some (.frz o (.lst (ns.map V.int))) else none
theorem scrH_at (a : Addr) (o : Obj) (ns : List Int) : scrH a o ns a = some (.frz o (.lst (ns.map V.int))) := if_pos rfl
theorem scrH_off {a b : Addr} (o : Obj) (ns : List Int) (h : b ≠ a) : scrH a o ns b = none := if_neg h
theorem headG {P : Program} {w : World} {K : PySem.W.Frag} {mg mb : Str → Option Value} {CX : CXT} {k : Nat} {fa a : Addr} {fd : FuncData} {x : Str} {sp : Sp} {s1 : Shared} {vs : List Value} {ns : List Int}
    (KX : K.In s1.heap) (h1 : s1.heap.Ns mainGlobals mg) (h2 : s1.heap.Ns builtinsNs mb) (h3 : ∀ x : Str, x ≠ "__name__" → mb x = bootBuiltins x) (h4 : s1.heap.NoLimit) (h5 : s1.gens = #[])
    (ha : s1.heap.get? a = some { cls := .type "list", data := .seq vs.toArray }) (hi : IntsAre vs ns) (hl : ns.length ≤ sizeLine) (hr : Room k callerA) (hKa : K.lookup a = none)
    (F : ∀ base : Heap, K.In base → base.Ns mainGlobals mg → FnG P w K mg base CX k fa fd [x] sp) (hbind : ∀ (s : Shared) (u : Value), BindsTo s fd ⟨[u], []⟩ [(x, u)])
    (hsp : ∀ o : Obj, sp [.ref a] (scrH a o ns) (fun v _ => v = .bl true) fun _ _ _ => False) (hCX : ∀ H e s', CX [] H s1 (fun _ _ _ => False) e s' → False) :
    codeAny (model P w) callerA (.call (.ref fa) ⟨[.ref a], []⟩) (fun r s' => r = .ok (.ret (.bool true)) ∧ OldK s1.heap s'.heap ∧ s'.os = s1.os ∧ AllBare s'.gens) s1 := by
  generalize ho : ({ cls := .type "list", data := .seq vs.toArray } : Obj) = o0 at ha
  have rv := vals_ints hi
  have hok : HOk P w (scrH a o0 ns) s1.heap := fun b u z => by
    by_cases e : b = a
    · subst e
      rw [scrH_at] at z
      cases z
      subst ho
      exact ⟨ha, by rw [List.length_map]; exact hl, vs, _, rv, ha⟩
    · rw [scrH_off o0 ns e] at z
      cases z
  have off : ∀ {b : Addr} {o : Obj}, s1.heap.get? b = some o → b ≠ a → (hidT s1.heap (scrH a o0 ns)).get? b = some o := fun z e => hidT_get z (scrH_off o0 ns e)
  have nsB : ∀ {b : Addr} {m : Str → Option Value}, s1.heap.Ns b m → (hidT s1.heap (scrH a o0 ns)).Ns b m := fun {b m} z => by
    obtain ⟨o, es, ep, g1, g2, g3⟩ := z
    refine ⟨o, es, ep, off g1 fun e => ?_, g2, g3⟩
    subst e
    rw [ha] at g1
    cases g1
    subst ho
    cases g2
  have kB : K.In (hidT s1.heap (scrH a o0 ns)) := fun b o z => off (KX b o z) fun e => by
    rw [e, hKa] at z
    cases z
  have mB : Mod K mg (hidT s1.heap (scrH a o0 ns)) := ⟨kB, nsB h1, ⟨mb, nsB h2, h3⟩, by obtain ⟨mc, g1, g2⟩ := h4; exact ⟨mc, nsB g1, g2⟩⟩
  have e0 : Env0 P w K mg (hidT s1.heap (scrH a o0 ns)) callerA [] s1 (scrH a o0 ns) := ⟨rfl, mB, fun b o z => of_hidT z, Nat.le_of_eq (hidT_size _ _), trivial, fun b z => absurd (show b ∈ ([] : List Addr) from z) (by simp), hok, .of_eq h5⟩
  refine codeAny_mono ((F _ kB (nsB h1)).go callerA [] s1 (scrH a o0 ns) ⟨[.ref a], []⟩ [.ref a] [.ref a] _ _ hr rfl e0 (hbind s1 (.ref a)) (.cons rfl .nil) (hsp o0)) fun r s' z => ?_
  match r, z with
  | .error e, z => exact (hCX _ e s' z).elim
  | .ok .next, z | .ok .brk, z | .ok .cont, z => exact False.elim z
  | .ok (.ret u), z =>
    obtain ⟨v, H', g1, g2, un, hok', g3, g4⟩ := z
    have g4 : v = .bl true := g4
    subst g4
    obtain rfl : u = Value.bool true := g3
    refine ⟨rfl, OldK.of_keep fun b o q => ?_, g1, g2⟩
    by_cases e : b = a
    · subst e
      have q2 := un.frzs b o0 _ (scrH_at b o0 ns)
      obtain ⟨q3, _⟩ := hok' b _ q2
      rw [ha] at q
      cases q
      exact q3
    · exact un.keep b o q (scrH_off o0 ns e) (by intro z; exact absurd (show b ∈ ([] : List Addr) from z) (by simp)) (by simp)

/-- the rule for a def, over its body's term: nothing is let out -/
theorem okG {P : Program} {w : World} {K : PySem.W.Frag} {mg : Str → Option Value} {base : Heap} {x qn : Str} {st : Stmt} {f : Addr} {fd : FuncData} {N ps : List Str} {k : Nat} {sp : Sp} (F : Fun K x qn st f fd) (S : FnScope N ps (defScope st)) (ln : ∀ vs H Q E, sp vs H Q E → vs.length = ps.length)
    (hb : ∀ (cdv : Value) (A : Around) (os : List Env) (s : Shared) (H : Hp) (vs : List V) (Q : VK) (E : XK), Room k (A.deeper (envOfC qn (defScope st) s.heap.objs.size f cdv)) → Quiet (A.deeper (envOfC qn (defScope st) s.heap.objs.size f cdv)) → sp vs H Q E →
      ∃ t, PSs (cxOf CX0 P w K mg base N qn (defScope st) f cdv A os s H E).nox (defBody st) t ∧ t { nx := fun _ H' => Q .non H', rt := Q } (start N vs) H) : FnG P w K mg base CX0 (k + 1) f fd ps sp := by
  obtain ⟨v1, a1, v2, v3, v4, a2, cdv, v5, sl, rfl, lk, hcd⟩ := F.ex
  refine fnG_of lk hcd S ln fun A os s H vs Q E hr hq hsp => ?_
  obtain ⟨t, z1, z2⟩ := hb cdv A os s H vs Q E hr hq hsp
  exact ⟨t, z1.nox, z2⟩
/-- .. for a def that may raise -/
theorem okGX {P : Program} {w : World} {K : PySem.W.Frag} {mg : Str → Option Value} {base : Heap} {x qn : Str} {st : Stmt} {f : Addr} {fd : FuncData} {N ps : List Str} {k : Nat} {sp : Sp} (F : Fun K x qn st f fd) (S : FnScope N ps (defScope st)) (ln : ∀ vs H Q E, sp vs H Q E → vs.length = ps.length)
    (hb : ∀ (cdv : Value) (A : Around) (os : List Env) (s : Shared) (H : Hp) (vs : List V) (Q : VK) (E : XK), Room k (A.deeper (envOfC qn (defScope st) s.heap.objs.size f cdv)) → Quiet (A.deeper (envOfC qn (defScope st) s.heap.objs.size f cdv)) → sp vs H Q E →
      ∃ t, PSs (cxOf (L2.CX P w) P w K mg base N qn (defScope st) f cdv A os s H E) (defBody st) t ∧ t { nx := fun _ H' => Q .non H', rt := Q } (start N vs) H) : FnG P w K mg base (L2.CX P w) (k + 1) f fd ps sp := by
  obtain ⟨v1, a1, v2, v3, v4, a2, cdv, v5, sl, rfl, lk, hcd⟩ := F.ex
  exact fnG_of lk hcd S ln fun A os s H vs Q E hr hq hsp => hb cdv A os s H vs Q E hr hq hsp
theorem pe_call0G {X : Cx} {CX : CXT} {k : Nat} {f : Addr} {fd : FuncData} {ps : List Str} {sp : Sp} {ds : List Value} {dvs : List V} {E : XK} {x : Str} {p pos : Pos} (F : FnG X.prog X.w X.K X.mg X.base CX k f fd ps sp) (hr : Room k X.A) (hG : Quiet X.A) (hg : Gl X x) (hm : X.mg x = some (.ref f)) (hk : PySem.W.keepIn X.K (.ref f) = true)
    (hb : Binds X.K fd ps ds) (hd : Vals dvs ds) (hx : Passes CX X E) (hdb : (x == ("__debug__" : Str)) = false) : PE X (.Call (.Name x p) [] [] pos) (tCall sp dvs E tNil) :=
  ⟨fun pins s σ H Q I h => wpAny_Call_Name_kw (ld_glob I hg hm (PySem.W.callWith_K0 I.kIn hk (runG (us := []) F hr hG hb hd hx I .nil h)) hdb)⟩
end DL

/-! Data by value; frames; what of the heap a frame holds. -/
namespace DM
open PySem L2 DL

/-- data by value -/
inductive D where
  | non | bl (b : Bool) | int (i : Int) | str (s : Str)
  | lst (ds : List D) | tup (ds : List D) | dct (kvs : List (Key × D)) | obj (C : Str) (fs : List (Str × D)) | ty (T : String) | exc (C : Str) (fs : List (Str × D))

def D.isObj : D → Bool
  | .obj _ _ => true
  | _ => false
def Ex (H H' : Hp) : Prop := ∀ a o, H a = some o → H' a = some o
theorem Ex.refl (H : Hp) : Ex H H := fun _ _ h => h
theorem Ex.trans {H H1 H2 : Hp} (a : Ex H H1) (b : Ex H1 H2) : Ex H H2 := fun x o h => b x o (a x o h)
theorem Ex.new {H : Hp} {p : Addr} {o : HO} (h : H p = none) : Ex H (upd H p o) := fun a u e => by
  rw [upd_ne (ne_of_none e h)]; exact e
theorem Ex.none {H H' : Hp} (e : Ex H H') {p : Addr} (h : H' p = none) : H p = none := by
  cases q : H p with
  | none => rfl
  | some o => rw [e p o q] at h; cases h
theorem Ex.rd {H H' : Hp} {a : Addr} {u : HO} (e : Ex H H') (h : Rd H a u) : Rd H' a u := by
  rcases h with h | ⟨o, h⟩
  · exact Or.inl (e a _ h)
  · exact Or.inr ⟨o, e a _ h⟩
theorem Ex.sl {K : PySem.W.Frag} {H H' : Hp} {a : Addr} {xs : List V} (e : Ex H H') (h : SqL K H a xs) : SqL K H' a xs := by
  rcases h with h | h
  · exact Or.inl (e.rd h)
  · exact Or.inr h
theorem Ex.st {K : PySem.W.Frag} {H H' : Hp} {a : Addr} {xs : List V} (e : Ex H H') (h : SqT K H a xs) : SqT K H' a xs := by
  rcases h with h | h
  · exact Or.inl (e.rd h)
  · exact Or.inr h
/-- a tuple of which it is known that it has no dict -/
def TqT (K : PySem.W.Frag) (H : Hp) (a : Addr) (xs : List V) : Prop := (∃ o, H a = some (.frz o (.tup xs)) ∧ o.dict = none) ∨
  ∃ (o : Obj) (its : Array Value) (n : Nat), K.lookup a = some o ∧ o.cls = .type "tuple" ∧ o.dict = none ∧ o.data = .seq its n ∧ its.size ≤ sizeLine ∧ Vals xs its.toList
theorem TqT.sq {K : PySem.W.Frag} {H : Hp} {a : Addr} {xs : List V} (h : TqT K H a xs) : SqT K H a xs := by
  rcases h with ⟨o, h, _⟩ | ⟨o, its, n, h1, h2, _, h3, h4, h5⟩
  · exact Or.inl (Or.inr ⟨o, h⟩)
  · exact Or.inr ⟨o, its, n, h1, h2, h3, h4, h5⟩
theorem Ex.tq {K : PySem.W.Frag} {H H' : Hp} {a : Addr} {xs : List V} (e : Ex H H') (h : TqT K H a xs) : TqT K H' a xs := by
  rcases h with ⟨o, h, h'⟩ | h
  · exact Or.inl ⟨o, e _ _ h, h'⟩
  · exact Or.inr h
/-- the class of a name -/
abbrev Cl (K : PySem.W.Frag) (C : Str) (c : Addr) : Prop := PySem.W.nsIn K mainGlobals C = some (some (.ref c))

/-- an exception's object: its class, its dict -/
def ExO (a c d : Addr) : HO := .ext fun h => ∃ oe vs, h.get? a = some oe ∧ oe.cls = .ref c ∧ oe.dict = some d ∧ oe.data = .fields vs

/-! ### how data lie in the heap; F: what is never changed any more -/
mutual
inductive Dr (K : PySem.W.Frag) (F : Hp) : V → D → Prop
  | non : Dr K F .non .non
  | bl (b : Bool) : Dr K F (.bl b) (.bl b)
  | int (i : Int) : Dr K F (.int i) (.int i)
  | str (x : Str) : Dr K F (.str x) (.str x)
  | lst {a : Addr} {xs : List V} {ds : List D} : Rd F a (.lst xs) → DrA K F xs ds → Dr K F (.ref a) (.lst ds)
  | tup {a : Addr} {xs : List V} {ds : List D} : TqT K F a xs → DrA K F xs ds → Dr K F (.ref a) (.tup ds)
  | dct {a : Addr} {kvs : List (Key × V)} {kds : List (Key × D)} : F a = some (.dK kvs) → kvs.map (·.1) = kds.map (·.1) → DrA K F (kvs.map (·.2)) (kds.map (·.2)) → Dr K F (.ref a) (.dct kds)
  | obj {a c dx : Addr} {C : Str} {fs : List (Str × V)} {gs : List (Str × D)} : F a = some (.ins c dx fs) → Cl K C c → fs.map (·.1) = gs.map (·.1) → DrA K F (fs.map (·.2)) (gs.map (·.2)) → Dr K F (.ref a) (.obj C gs)
  | ty (T : String) : Dr K F (.ty T) (.ty T)
  | exc {a d c : Addr} {C : Str} {fs : List (Str × V)} {gs : List (Str × D)} : F a = some (ExO a c d) → F d = some (.xd fs) → Cl K C c → fs.map (·.1) = gs.map (·.1) → DrA K F (fs.map (·.2)) (gs.map (·.2)) → Dr K F (.ref a) (.exc C gs)
inductive DrA (K : PySem.W.Frag) (F : Hp) : List V → List D → Prop
  | nil : DrA K F [] []
  | cons {v : V} {vs : List V} {d : D} {ds : List D} : Dr K F v d → DrA K F vs ds → DrA K F (v :: vs) (d :: ds)
end

section
variable {K : PySem.W.Frag} {F F' : Hp}
theorem Dr.mono (e : Ex F F') {v : V} {d : D} (h : Dr K F v d) : Dr K F' v d :=
  Dr.rec (motive_1 := fun v d _ => Dr K F' v d) (motive_2 := fun vs ds _ => DrA K F' vs ds)
    .non .bl .int .str (fun h _ ih => .lst (e.rd h) ih) (fun h _ ih => .tup (e.tq h) ih) (fun h k _ ih => .dct (e _ _ h) k ih) (fun h c k _ ih => .obj (e _ _ h) c k ih) .ty (fun h1 h c k _ ih => .exc (e _ _ h1) (e _ _ h) c k ih)
    .nil (fun _ _ ih ih2 => .cons ih ih2) h
theorem DrA.mono (e : Ex F F') : ∀ {vs : List V} {ds : List D}, DrA K F vs ds → DrA K F' vs ds
  | _, _, .nil => .nil
  | _, _, .cons h t => .cons (h.mono e) (DrA.mono e t)
theorem DrA.length : ∀ {vs : List V} {ds : List D}, DrA K F vs ds → vs.length = ds.length
  | _, _, .nil => rfl
  | _, _, .cons _ t => by rw [List.length_cons, List.length_cons, DrA.length t]
theorem DrA.get : ∀ {vs : List V} {ds : List D} {i : Nat} {d : D}, DrA K F vs ds → ds[i]? = some d → ∃ v, vs[i]? = some v ∧ Dr K F v d
  | _, _, _, _, .nil, e => by simp at e
  | _, _, 0, _, .cons h _, e => by simp at e; subst e; exact ⟨_, rfl, h⟩
  | _, _, i + 1, d, .cons _ t, e => by
    obtain ⟨v, h1, h2⟩ := DrA.get (i := i) (d := d) t (by simpa using e)
    exact ⟨v, by simpa using h1, h2⟩
theorem DrA.append : ∀ {vs ws : List V} {ds es : List D}, DrA K F vs ds → DrA K F ws es → DrA K F (vs ++ ws) (ds ++ es)
  | _, _, _, _, .nil, s => s
  | _, _, _, _, .cons h t, s => .cons h (DrA.append t s)
theorem DrA.take : ∀ {vs : List V} {ds : List D} (n : Nat), DrA K F vs ds → DrA K F (vs.take n) (ds.take n)
  | _, _, 0, _ => by rw [List.take_zero, List.take_zero]; exact .nil
  | _, _, _ + 1, .nil => by rw [List.take_nil, List.take_nil]; exact .nil
  | _, _, n + 1, .cons h t => .cons h (DrA.take n t)
theorem DrA.drop : ∀ {vs : List V} {ds : List D} (n : Nat), DrA K F vs ds → DrA K F (vs.drop n) (ds.drop n)
  | _, _, 0, r => r
  | _, _, _ + 1, .nil => by rw [List.drop_nil, List.drop_nil]; exact .nil
  | _, _, n + 1, .cons _ t => DrA.drop n t
theorem DrA.set : ∀ {vs : List V} {ds : List D} (i : Nat) {v : V} {d : D}, Dr K F v d → DrA K F vs ds → DrA K F (vs.set i v) (ds.set i d)
  | _, _, _, _, _, _, .nil => .nil
  | _, _, 0, _, _, r, .cons _ t => .cons r t
  | _, _, i + 1, _, _, r, .cons q t => .cons q (DrA.set i r t)
theorem DrA.one {v : V} {d : D} (h : Dr K F v d) : DrA K F [v] [d] := .cons h .nil
theorem DrA.rev : ∀ {vs : List V} {ds : List D}, DrA K F vs ds → DrA K F vs.reverse ds.reverse
  | _, _, .nil => .nil
  | _, _, .cons h t => by rw [List.reverse_cons, List.reverse_cons]; exact (DrA.rev t).append (.one h)
end

/-- the object o is d, its parts stand still -/
inductive Do (K : PySem.W.Frag) (F : Hp) : HO → D → Prop
  | lst {xs : List V} {ds : List D} : DrA K F xs ds → Do K F (.lst xs) (.lst ds)
  | dct {kvs : List (Key × V)} {kds : List (Key × D)} : kvs.map (·.1) = kds.map (·.1) → DrA K F (kvs.map (·.2)) (kds.map (·.2)) → Do K F (.dK kvs) (.dct kds)
  | obj {c dx : Addr} {C : Str} {fs : List (Str × V)} {gs : List (Str × D)} : Cl K C c → fs.map (·.1) = gs.map (·.1) → DrA K F (fs.map (·.2)) (gs.map (·.2)) → Do K F (.ins c dx fs) (.obj C gs)
theorem Do.mono {K : PySem.W.Frag} {F F' : Hp} (e : Ex F F') {o : HO} {d : D} (h : Do K F o d) : Do K F' o d := by
  cases h with
  | lst h => exact .lst (h.mono e)
  | dct k h => exact .dct k (h.mono e)
  | obj c k h => exact .obj c k (h.mono e)
theorem Do.dr {K : PySem.W.Frag} {F : Hp} {p : Addr} {o : HO} {d : D} (hp : F p = some o) (h : Do K F o d) : Dr K F (.ref p) d := by
  cases h with
  | lst h => exact .lst (Or.inl hp) h
  | dct k h => exact .dct hp k h
  | obj c k h => exact .obj hp c k h
/-- fields: those of fs are the object's own lists and dicts (at S), the others stand still -/
inductive OwF (K : PySem.W.Frag) (F H : Hp) (fs : List Str) : List (Str × V) → List (Str × D) → List Addr → Prop
  | nil : OwF K F H fs [] [] []
  | fz {n : Str} {v : V} {d : D} {ws : List (Str × V)} {gs : List (Str × D)} {S : List Addr} : n ∉ fs → Dr K F v d → OwF K F H fs ws gs S → OwF K F H fs ((n, v) :: ws) ((n, d) :: gs) S
  | ow {n : Str} {q : Addr} {o : HO} {d : D} {ws : List (Str × V)} {gs : List (Str × D)} {S : List Addr} : n ∈ fs → H q = some o → Do K F o d → q ∉ S → OwF K F H fs ws gs S → OwF K F H fs ((n, .ref q) :: ws) ((n, d) :: gs) (q :: S)
/-- a thing at p that is d; S: what of the heap is its own -/
inductive Own (K : PySem.W.Frag) (F H : Hp) : Addr → D → List Str → List Addr → Prop
  | ce {p : Addr} {o : HO} {d : D} : H p = some o → Do K F o d → Own K F H p d [] [p]
  | ob {p c dx : Addr} {C : Str} {ws : List (Str × V)} {gs : List (Str × D)} {fs : List Str} {S : List Addr} : H p = some (.ins c dx ws) → Cl K C c → OwF K F H fs ws gs S → Own K F H p (.obj C gs) fs (p :: S)
section
variable {K : PySem.W.Frag} {F F' H H' : Hp} {fs : List Str} {ws : List (Str × V)} {gs : List (Str × D)} {S : List Addr} {p : Addr} {d : D}
theorem OwF.congr (e : Ex F F') (h : OwF K F H fs ws gs S) (hS : ∀ a ∈ S, H' a = H a) : OwF K F' H' fs ws gs S := by
  induction h with
  | nil => exact .nil
  | fz h1 h2 _ ih => exact .fz h1 (h2.mono e) (ih hS)
  | ow h1 h2 h3 h4 _ ih => exact .ow h1 (by rw [hS _ List.mem_cons_self]; exact h2) (h3.mono e) h4 (ih fun a ha => hS a (List.mem_cons_of_mem _ ha))
theorem Own.congr (e : Ex F F') (h : Own K F H p d fs S) (hS : ∀ a ∈ S, H' a = H a) : Own K F' H' p d fs S := by
  cases h with
  | ce h1 h2 => exact .ce (by rw [hS _ List.mem_cons_self]; exact h1) (h2.mono e)
  | ob h1 h2 h3 => exact .ob (by rw [hS _ List.mem_cons_self]; exact h1) h2 (h3.congr e fun a ha => hS a (List.mem_cons_of_mem _ ha))
theorem OwF.some (h : OwF K F H fs ws gs S) : ∀ a ∈ S, ∃ o, H a = .some o := by
  induction h with
  | nil => exact fun a ha => nomatch ha
  | fz _ _ _ ih => exact ih
  | ow _ h2 _ _ _ ih =>
    intro a ha
    rcases List.mem_cons.mp ha with z | z
    · subst z; exact ⟨_, h2⟩
    · exact ih a z
theorem Own.some (h : Own K F H p d fs S) : ∀ a ∈ S, ∃ o, H a = .some o := by
  cases h with
  | ce h1 _ => exact fun a ha => by rw [List.mem_singleton.mp ha]; exact ⟨_, h1⟩
  | ob h1 _ h3 =>
    intro a ha
    rcases List.mem_cons.mp ha with z | z
    · subst z; exact ⟨_, h1⟩
    · exact h3.some a z
theorem Own.root (h : Own K F H p d fs S) : p ∈ S := by
  cases h with
  | ce => exact List.mem_cons_self
  | ob => exact List.mem_cons_self
theorem OwF.names (h : OwF K F H fs ws gs S) : ws.map (·.1) = gs.map (·.1) := by
  induction h with
  | nil => rfl
  | fz _ _ _ ih => simp only [List.map_cons, ih]
  | ow _ _ _ _ _ ih => simp only [List.map_cons, ih]
theorem OwF.plain (h : OwF K F H [] ws gs S) : S = [] ∧ ws.map (·.1) = gs.map (·.1) ∧ DrA K F (ws.map (·.2)) (gs.map (·.2)) := by
  generalize hz : ([] : List Str) = z at h
  induction h with
  | nil => exact ⟨rfl, rfl, .nil⟩
  | fz _ h2 _ ih =>
    obtain ⟨a, b, c⟩ := ih
    exact ⟨a, by simp only [List.map_cons, b], .cons h2 c⟩
  | ow h1 => subst hz; cases h1
/-- a thing without own fields: one cell -/
theorem Own.plain (h : Own K F H p d [] S) : S = [p] ∧ ∃ o, H p = .some o ∧ Do K F o d := by
  generalize hz : ([] : List Str) = z at h
  cases h with
  | ce h1 h2 => exact ⟨rfl, _, h1, h2⟩
  | ob h1 h2 h3 =>
    subst hz
    obtain ⟨rfl, a, b⟩ := h3.plain
    exact ⟨rfl, _, h1, .obj h2 a b⟩
/-- H restricted to S on top of F -/
def lay (F H : Hp) (S : List Addr) : Hp := fun a => if a ∈ S then H a else F a
theorem lay_in {a : Addr} (h : a ∈ S) : lay F H S a = H a := if_pos h
theorem lay_out {a : Addr} (h : a ∉ S) : lay F H S a = F a := if_neg h
theorem lay_ex (hS : ∀ a ∈ S, F a = none) : Ex F (lay F H S) := fun a o h => by
  rw [lay_out fun z => by rw [hS a z] at h; cases h]; exact h
theorem lay_le (e : Ex F H) : Ex (lay F H S) H := fun a o h => by
  by_cases z : a ∈ S
  · rw [lay_in z] at h; exact h
  · rw [lay_out z] at h; exact e a o h
theorem OwF.still (h : OwF K F H fs ws gs S) (e : Ex F F') (hS : ∀ a ∈ S, F' a = H a) : DrA K F' (ws.map (·.2)) (gs.map (·.2)) := by
  induction h with
  | nil => exact .nil
  | fz _ h2 _ ih => exact .cons (h2.mono e) (ih hS)
  | ow _ h2 h3 _ _ ih => exact .cons ((h3.mono e).dr (by rw [hS _ List.mem_cons_self]; exact h2)) (ih fun a ha => hS a (List.mem_cons_of_mem _ ha))
theorem Own.still (h : Own K F H p d fs S) (e : Ex F F') (hS : ∀ a ∈ S, F' a = H a) : Dr K F' (.ref p) d := by
  cases h with
  | ce h1 h2 => exact (h2.mono e).dr (by rw [hS _ List.mem_cons_self]; exact h1)
  | ob h1 h2 h3 => exact .obj (by rw [hS _ List.mem_cons_self]; exact h1) h2 h3.names (h3.still e fun a ha => hS a (List.mem_cons_of_mem _ ha))
end

/-! ### the frame: what each slot holds -/
/-- un: nothing known; fz: data that stand still; ow: a mutable thing that this slot alone holds (t: the parameter that handed it in; fs: its own fields); xc: a caught exception at a with its dict at d -/
inductive Sl where
  | un | fz (d : D) | ow (t : Option Nat) (d : D) (fs : List Str) | xc (a d : Addr) (fs : List (Str × D))
abbrev Fm := List Sl
def fget : Fm → Nat → Sl
  | [], _ => .un
  | x :: _, 0 => x
  | _ :: xs, i + 1 => fget xs i
def fput : Fm → Nat → Sl → Fm
  | [], _, _ => []
  | _ :: xs, 0, y => y :: xs
  | x :: xs, i + 1, y => x :: fput xs i y
theorem fput_length : ∀ (env : Fm) (i : Nat) (y : Sl), (fput env i y).length = env.length
  | [], _, _ => rfl
  | _ :: _, 0, _ => rfl
  | _ :: xs, i + 1, y => by rw [fput, List.length_cons, List.length_cons, fput_length xs i y]
theorem fget_ne : ∀ (env : Fm) {i j : Nat} (y : Sl), i ≠ j → fget (fput env i y) j = fget env j
  | [], _, _, _, _ => rfl
  | _ :: _, 0, 0, _, h => absurd rfl h
  | _ :: _, 0, _ + 1, _, _ => rfl
  | _ :: _, _ + 1, 0, _, _ => rfl
  | _ :: xs, i + 1, j + 1, y, h => fget_ne xs y fun z => h (by rw [z])
theorem fget_eq : ∀ (env : Fm) {i : Nat} (y : Sl), fget (fput env i y) i = y ∨ fget (fput env i y) i = .un
  | [], _, _ => .inr rfl
  | _ :: _, 0, _ => .inl rfl
  | _ :: xs, i + 1, y => fget_eq xs y
theorem fget_lt : ∀ {env : Fm} {i : Nat} {x : Sl}, fget env i = x → x ≠ .un → i < env.length
  | [], _, _, h, n => absurd h.symm n
  | _ :: _, 0, _, _, _ => by simp
  | _ :: xs, i + 1, x, h, n => by have := fget_lt (env := xs) h n; simp; omega
theorem fget_self : ∀ {env : Fm} {i : Nat} {y : Sl}, i < env.length → fget (fput env i y) i = y
  | [], _, _, h => by simp at h
  | _ :: _, 0, _, _ => rfl
  | _ :: xs, i + 1, y, h => fget_self (env := xs) (by simp at h; omega)

/-- the entry of the def (or of a part of it) -/
structure Bs where
  F0 : Hp
  H0 : Hp
  ps : Addr → Prop
  par : Nat → Option Addr
/-- the slots' own things -/
structure Hs (K : PySem.W.Frag) (B : Bs) (F H : Hp) (σ : L2.St) (env : Fm) (ft : Nat → List Addr) : Prop where
  ow : ∀ (i : Nat) (t : Option Nat) (d : D) (fs : List Str), fget env i = .ow t d fs → ∃ p, σ[i]? = some (some (.ref p)) ∧ Own K F H p d fs (ft i) ∧ (∀ a ∈ ft i, F a = none ∧ (B.H0 a = none ∨ B.ps a)) ∧ ∀ k, t = some k → B.par k = some p
  dis : ∀ (i j : Nat) (t u : Option Nat) (d e : D) (fs gs : List Str), i ≠ j → fget env i = .ow t d fs → fget env j = .ow u e gs → ∀ a, a ∈ ft i → a ∈ ft j → False
structure SR (K : PySem.W.Frag) (B : Bs) (F H : Hp) (σ : L2.St) (env : Fm) : Prop where
  ex : Ex F H
  ex0 : Ex B.F0 F
  keep : ∀ a o, B.H0 a = some o → ¬ B.ps a → H a = some o
  newF : ∀ a o, F a = some o → B.F0 a ≠ none ∨ B.H0 a = none ∨ B.ps a
  len : σ.length = env.length
  fz : ∀ (i : Nat) (d : D), fget env i = .fz d → ∃ v, σ[i]? = some (some v) ∧ Dr K F v d
  xc : ∀ (i : Nat) (a d : Addr) (gs : List (Str × D)), fget env i = .xc a d gs → σ[i]? = some (some (.ref a)) ∧ ∃ fs, F d = some (.xd fs) ∧ fs.map (·.1) = gs.map (·.1) ∧ DrA K F (fs.map (·.2)) (gs.map (·.2))
  own : ∃ ft, Hs K B F H σ env ft

section
variable {K : PySem.W.Frag} {B : Bs} {F H F' H' : Hp} {σ σ' : L2.St} {env env' : Fm} {ft : Nat → List Addr}
/-- the addresses that the frame alone holds -/
def owned (env : Fm) (ft : Nat → List Addr) (p : Addr) : Prop := ∃ (i : Nat) (t : Option Nat) (d : D) (fs : List Str), fget env i = .ow t d fs ∧ p ∈ ft i
theorem Hs.owned_b (h : Hs K B F H σ env ft) {p : Addr} (o : owned env ft p) : F p = none ∧ (∃ o, H p = some o) ∧ (B.H0 p = none ∨ B.ps p) := by
  obtain ⟨i, t, d, fs, e1, e2⟩ := o
  obtain ⟨q, h1, h2, h3, _⟩ := h.ow i t d fs e1
  exact ⟨(h3 p e2).1, h2.some p e2, (h3 p e2).2⟩
/-- the own things after a change of the heap elsewhere -/
theorem Hs.congr (h : Hs K B F H σ env ft) (e : Ex F F') (hS : ∀ a, owned env ft a → H' a = H a ∧ F' a = none) : Hs K B F' H' σ env ft where
  ow := fun i t d fs he => by
    obtain ⟨q, h1, h2, h3, h4⟩ := h.ow i t d fs he
    exact ⟨q, h1, h2.congr e fun a ha => (hS a ⟨i, t, d, fs, he, ha⟩).1, fun a ha => ⟨(hS a ⟨i, t, d, fs, he, ha⟩).2, (h3 a ha).2⟩, h4⟩
  dis := h.dis
/-- what is new here was free at the entry -/
theorem SR.new_b (s : SR K B F H σ env) {p : Addr} (hp : H p = none) : B.H0 p = none ∨ B.ps p := by
  cases q : B.H0 p with
  | none => exact Or.inl rfl
  | some u =>
    refine Or.inr (Classical.byContradiction fun hc => ?_)
    rw [s.keep p u q hc] at hp
    cases hp
/-- more of the heap stands still -/
theorem SR.grow (s : SR K B F H σ env) {p : Addr} {o : HO} (hp : H p = none) : SR K B (upd F p o) (upd H p o) σ env where
  ex := fun a u h => by
    by_cases e : a = p
    · subst e; rw [upd_same] at h ⊢; exact h
    · rw [upd_ne e] at h ⊢; exact s.ex a u h
  ex0 := s.ex0.trans (Ex.new (s.ex.none hp))
  keep := fun a u h n => by
    have h1 := s.keep a u h n
    rw [upd_ne (ne_of_none h1 hp)]; exact h1
  newF := fun a u h => by
    by_cases e : a = p
    · subst e; exact Or.inr (s.new_b hp)
    · rw [upd_ne e] at h; exact s.newF a u h
  len := s.len
  fz := fun i d e => by
    obtain ⟨v, h1, h2⟩ := s.fz i d e
    exact ⟨v, h1, h2.mono (Ex.new (s.ex.none hp))⟩
  xc := fun i a d gs e => by
    obtain ⟨h1, fs, h2, h3, h4⟩ := s.xc i a d gs e
    exact ⟨h1, fs, Ex.new (s.ex.none hp) _ _ h2, h3, h4.mono (Ex.new (s.ex.none hp))⟩
  own := by
    obtain ⟨ft, h⟩ := s.own
    refine ⟨ft, h.congr (Ex.new (s.ex.none hp)) fun a ha => ?_⟩
    obtain ⟨h1, ⟨u, h2⟩, _⟩ := h.owned_b ha
    have hne : a ≠ p := ne_of_none h2 hp
    exact ⟨upd_ne hne, by rw [upd_ne hne]; exact h1⟩
/-- the heap alone grows -/
theorem SR.growH (s : SR K B F H σ env) {p : Addr} {o : HO} (hp : H p = none) : SR K B F (upd H p o) σ env where
  ex := s.ex.trans (Ex.new hp)
  ex0 := s.ex0
  keep := fun a u h n => by
    have h1 := s.keep a u h n
    rw [upd_ne (ne_of_none h1 hp)]; exact h1
  newF := s.newF
  len := s.len
  fz := s.fz
  xc := s.xc
  own := by
    obtain ⟨ft, h⟩ := s.own
    refine ⟨ft, h.congr (Ex.refl F) fun a ha => ?_⟩
    obtain ⟨h1, ⟨u, h2⟩, _⟩ := h.owned_b ha
    exact ⟨upd_ne (ne_of_none h2 hp), h1⟩
theorem getσ {i j : Nat} {v : Option V} (hij : i ≠ j) : (σ.set i v)[j]? = σ[j]? := List.getElem?_set_ne hij
/-- a slot takes something else; Y: what is to be shown of it -/
theorem SR.put (s : SR K B F H σ env) (i : Nat) (v : Option V) (y : Sl) (hfz : ∀ d, y = .fz d → ∃ w, v = some w ∧ Dr K F w d)
    (hxc : ∀ a d gs, y = .xc a d gs → v = some (.ref a) ∧ ∃ fs, F d = some (.xd fs) ∧ fs.map (·.1) = gs.map (·.1) ∧ DrA K F (fs.map (·.2)) (gs.map (·.2)))
    (how : ∀ ft, Hs K B F H σ env ft → ∀ t d fs, y = .ow t d fs → ∃ p S, v = some (.ref p) ∧ Own K F H p d fs S ∧ (∀ a ∈ S, F a = none ∧ (B.H0 a = none ∨ B.ps a)) ∧ (∀ a ∈ S, ¬ owned env ft a) ∧ ∀ k, t = some k → B.par k = some p) :
    SR K B F H (σ.set i v) (fput env i y) where
  ex := s.ex
  ex0 := s.ex0
  keep := s.keep
  newF := s.newF
  len := by rw [List.length_set, fput_length]; exact s.len
  fz := fun j d h1 => by
    by_cases hij : i = j
    · subst hij
      have hl : i < env.length := by have := fget_lt h1 (fun z => nomatch z); rw [fput_length] at this; exact this
      rw [fget_self hl] at h1
      obtain ⟨w, rfl, hw⟩ := hfz d h1
      exact ⟨w, List.getElem?_set_self (by rw [s.len]; exact hl), hw⟩
    · rw [fget_ne _ _ hij] at h1
      rw [getσ hij]
      exact s.fz j d h1
  xc := fun j a d gs h1 => by
    by_cases hij : i = j
    · subst hij
      have hl : i < env.length := by have := fget_lt h1 (fun z => nomatch z); rw [fput_length] at this; exact this
      rw [fget_self hl] at h1
      obtain ⟨rfl, hw⟩ := hxc a d gs h1
      exact ⟨List.getElem?_set_self (by rw [s.len]; exact hl), hw⟩
    · rw [fget_ne _ _ hij] at h1
      rw [getσ hij]
      exact s.xc j a d gs h1
  own := by
    obtain ⟨ft, h⟩ := s.own
    by_cases hy : ∃ t d fs, y = .ow t d fs
    · obtain ⟨t, d, fs, rfl⟩ := hy
      obtain ⟨p, S, rfl, h1, h2, h3, h4⟩ := how ft h t d fs rfl
      refine ⟨fun j => if j = i then S else ft j, fun j t' d' fs' he => ?_, fun j k t1 t2 d1 d2 f1 f2 hjk e1 e2 a a1 a2 => ?_⟩
      · by_cases hij : i = j
        · subst hij
          have hl : i < env.length := by have := fget_lt he (fun z => nomatch z); rw [fput_length] at this; exact this
          rw [fget_self hl] at he
          cases he
          refine ⟨p, List.getElem?_set_self (by rw [s.len]; exact hl), ?_⟩
          simp only [if_pos]
          exact ⟨h1, h2, h4⟩
        · rw [fget_ne _ _ hij] at he
          rw [getσ hij]
          simp only [if_neg (Ne.symm hij)]
          exact h.ow j t' d' fs' he
      · have key : ∀ {m : Nat} {t3 : Option Nat} {d3 : D} {f3 : List Str}, i ≠ m → fget (fput env i (.ow t d fs)) m = .ow t3 d3 f3 → a ∈ S → a ∈ ft m → False := fun {m t3 d3 f3} him e3 b1 b2 => by
          rw [fget_ne _ _ him] at e3
          exact h3 a b1 ⟨m, t3, d3, f3, e3, b2⟩
        by_cases hj : j = i
        · subst hj
          simp only [if_pos] at a1
          rw [if_neg (Ne.symm hjk)] at a2
          exact key hjk e2 a1 a2
        · simp only [if_neg hj] at a1
          by_cases hk : k = i
          · subst hk
            simp only [if_pos] at a2
            exact key (Ne.symm hjk) e1 a2 a1
          · simp only [if_neg hk] at a2
            rw [fget_ne _ _ (Ne.symm hj)] at e1
            rw [fget_ne _ _ (Ne.symm hk)] at e2
            exact h.dis j k t1 t2 d1 d2 f1 f2 hjk e1 e2 a a1 a2
    · have ne : ∀ {j : Nat} {t' : Option Nat} {d' : D} {fs' : List Str}, fget (fput env i y) j = .ow t' d' fs' → i ≠ j := fun {j t' d' fs'} he hij => by
        subst hij
        have hl : i < env.length := by have := fget_lt he (fun z => nomatch z); rw [fput_length] at this; exact this
        rw [fget_self hl] at he
        exact hy ⟨t', d', fs', he⟩
      refine ⟨ft, fun j t' d' fs' he => ?_, fun j k t1 t2 d1 d2 f1 f2 hjk e1 e2 => ?_⟩
      · have hij := ne he
        rw [fget_ne _ _ hij] at he
        rw [getσ hij]
        exact h.ow j t' d' fs' he
      · have h1 := ne e1
        have h2 := ne e2
        rw [fget_ne _ _ h1] at e1
        rw [fget_ne _ _ h2] at e2
        exact h.dis j k t1 t2 d1 d2 f1 f2 hjk e1 e2
/-- a slot takes data -/
theorem SR.setF (s : SR K B F H σ env) {i : Nat} {v : V} {d : D} (h : Dr K F v d) : SR K B F H (σ.set i (some v)) (fput env i (.fz d)) :=
  s.put i (some v) (.fz d) (fun d' e => by cases e; exact ⟨v, rfl, h⟩) (fun _ _ _ e => nomatch e) fun _ _ _ _ _ e => nomatch e
theorem SR.setU (s : SR K B F H σ env) (i : Nat) (v : Option V) : SR K B F H (σ.set i v) (fput env i .un) :=
  s.put i v .un (fun _ e => nomatch e) (fun _ _ _ e => nomatch e) fun _ _ _ _ _ e => nomatch e
/-- a new thing: not yet anybody's -/
def rN (K : PySem.W.Frag) (B : Bs) (F H : Hp) (σ : L2.St) (env : Fm) (v : V) (d : D) (fs : List Str) : Prop := ∃ p S, v = .ref p ∧ Own K F H p d fs S ∧ (∀ a ∈ S, F a = none ∧ (B.H0 a = none ∨ B.ps a)) ∧ ∀ ft, Hs K B F H σ env ft → ∀ a ∈ S, ¬ owned env ft a
end
end DM

/-! How frames change. -/
namespace DM
open PySem L2 DL
section
variable {K : PySem.W.Frag} {B : Bs} {F H F' H' : Hp} {σ σ' : L2.St} {env env' : Fm} {ft : Nat → List Addr}
/-- less is known of the slots -/
inductive Wk : Fm → Fm → Prop
  | nil : Wk [] []
  | k {x : Sl} {xs ys : Fm} : Wk xs ys → Wk (x :: xs) (x :: ys)
  | d {x : Sl} {xs ys : Fm} : Wk xs ys → Wk (x :: xs) (.un :: ys)
theorem Wk.refl : ∀ env : Fm, Wk env env
  | [] => .nil
  | _ :: xs => .k (Wk.refl xs)
theorem Wk.trans : ∀ {a b c : Fm}, Wk a b → Wk b c → Wk a c
  | _, _, _, .nil, h => h
  | _, _, _, .k h, .k h2 => .k (h.trans h2)
  | _, _, _, .k h, .d h2 => .d (h.trans h2)
  | _, _, _, .d h, .k h2 => .d (h.trans h2)
  | _, _, _, .d h, .d h2 => .d (h.trans h2)
theorem Wk.length {a b : Fm} (h : Wk a b) : a.length = b.length := by
  induction h with
  | nil => rfl
  | k _ ih => simp [ih]
  | d _ ih => simp [ih]
theorem Wk.get {a b : Fm} (h : Wk a b) : ∀ i, fget b i = fget a i ∨ fget b i = .un := by
  induction h with
  | nil => exact fun i => .inl rfl
  | k _ ih => exact fun i => match i with
    | 0 => .inl rfl
    | i + 1 => ih i
  | d _ ih => exact fun i => match i with
    | 0 => .inr rfl
    | i + 1 => ih i
theorem Wk.at {a b : Fm} (h : Wk a b) {i : Nat} {x : Sl} (e : fget b i = x) (n : x ≠ .un) : fget a i = x := by
  rcases h.get i with z | z
  · rw [← z]; exact e
  · rw [e] at z; exact absurd z n
/-- a slot that is not looked at may change -/
theorem Wk.put {a b : Fm} (h : Wk a b) (i : Nat) (y : Sl) (hi : fget b i = .un) : Wk (fput a i y) b := by
  induction h generalizing i with
  | nil => exact .nil
  | k h ih =>
    cases i with
    | zero => cases hi; exact .d h
    | succ i => exact .k (ih i hi)
  | d h ih =>
    cases i with
    | zero => exact .d h
    | succ i => exact .d (ih i hi)
theorem Wk.un : ∀ (a : Fm) (i : Nat), Wk a (fput a i .un)
  | [], _ => .nil
  | x :: xs, 0 => .d (Wk.refl xs)
  | x :: xs, i + 1 => .k (Wk.un xs i)
theorem fput_put : ∀ (a : Fm) (i : Nat) (x y : Sl), fput (fput a i x) i y = fput a i y
  | [], _, _, _ => rfl
  | _ :: _, 0, _, _ => rfl
  | z :: xs, i + 1, x, y => by show z :: _ = z :: _; rw [fput_put xs i x y]
theorem set_same {i : Nat} {v : Option V} (h1 : σ[i]? = some v) : σ.set i v = σ := List.ext_getElem? fun j => by
  by_cases hij : i = j
  · subst hij
    rw [h1]
    exact List.getElem?_set_self (List.getElem?_eq_some_iff.mp h1).1
  · rw [List.getElem?_set_ne hij]
theorem Hs.wk (h : Hs K B F H σ env ft) (w : Wk env env') : Hs K B F H σ env' ft :=
  ⟨fun i t d fs e => h.ow i t d fs (w.at e fun z => nomatch z), fun i j t u d e fs gs hij e1 e2 => h.dis i j t u d e fs gs hij (w.at e1 fun z => nomatch z) (w.at e2 fun z => nomatch z)⟩
theorem SR.wk (s : SR K B F H σ env) (w : Wk env env') : SR K B F H σ env' where
  ex := s.ex
  ex0 := s.ex0
  keep := s.keep
  newF := s.newF
  len := s.len.trans w.length
  fz := fun i d e => s.fz i d (w.at e fun z => nomatch z)
  xc := fun i a d gs e => s.xc i a d gs (w.at e fun z => nomatch z)
  own := s.own.imp fun ft h => h.wk w
/-- S stands still from now on -/
theorem SR.lay (s : SR K B F H σ env) {S : List Addr} (hS : ∀ a ∈ S, F a = none ∧ (B.H0 a = none ∨ B.ps a)) (hn : ∃ ft, Hs K B F H σ env ft ∧ ∀ a ∈ S, ¬ owned env ft a) : SR K B (lay F H S) H σ env := by
  have hx : Ex F (DM.lay F H S) := lay_ex fun a ha => (hS a ha).1
  refine ⟨lay_le s.ex, s.ex0.trans hx, s.keep, fun a o h => ?_, s.len, fun i d e => ?_, fun i a d gs e => ?_, ?_⟩
  · by_cases z : a ∈ S
    · exact Or.inr (hS a z).2
    · rw [lay_out z] at h; exact s.newF a o h
  · obtain ⟨v, q1, q2⟩ := s.fz i d e
    exact ⟨v, q1, q2.mono hx⟩
  · obtain ⟨h1, fs, h2, h3, h4⟩ := s.xc i a d gs e
    exact ⟨h1, fs, hx _ _ h2, h3, h4.mono hx⟩
  · obtain ⟨ft, h, hn⟩ := hn
    refine ⟨ft, h.congr hx fun a ha => ⟨rfl, ?_⟩⟩
    rw [lay_out fun z => hn a z ha]
    exact (h.owned_b ha).1
/-- a new thing stands still from now on -/
theorem SR.frzN (s : SR K B F H σ env) {v : V} {d : D} {fs : List Str} (h : rN K B F H σ env v d fs) : ∃ F', Ex F F' ∧ Dr K F' v d ∧ SR K B F' H σ env := by
  obtain ⟨p, S, rfl, h2, h3, h4⟩ := h
  obtain ⟨ft, hf⟩ := s.own
  refine ⟨DM.lay F H S, lay_ex fun a ha => (h3 a ha).1, h2.still (lay_ex fun a ha => (h3 a ha).1) fun a ha => lay_in ha, s.lay h3 ⟨ft, hf, h4 ft hf⟩⟩
/-- a slot's own thing stands still from now on -/
theorem SR.frz (s : SR K B F H σ env) {i : Nat} {t : Option Nat} {d : D} {fs : List Str} (he : fget env i = .ow t d fs) : ∃ v F', Ex F F' ∧ σ[i]? = some (some v) ∧ Dr K F' v d ∧ SR K B F' H σ (fput env i (.fz d)) := by
  obtain ⟨ft, hf⟩ := s.own
  obtain ⟨p, h1, h2, h3, h4⟩ := hf.ow i t d fs he
  have hx : Ex F (DM.lay F H (ft i)) := lay_ex fun a ha => (h3 a ha).1
  have hd : Dr K (DM.lay F H (ft i)) (.ref p) d := h2.still hx fun a ha => lay_in ha
  have s1 : SR K B F H σ (fput env i .un) := s.wk (Wk.un env i)
  have hn : ∀ a ∈ ft i, ¬ owned (fput env i .un) ft a := fun a ha ⟨j, t', d', fs', e1, e2⟩ => by
    by_cases hij : i = j
    · subst hij
      rcases fget_eq env (i := i) .un with z | z <;> (rw [z] at e1; cases e1)
    · rw [fget_ne _ _ hij] at e1
      exact hf.dis i j t t' d d' fs fs' hij he e1 a ha e2
  have s2 := s1.lay h3 ⟨ft, hf.wk (Wk.un env i), hn⟩
  refine ⟨.ref p, DM.lay F H (ft i), hx, h1, hd, ?_⟩
  have s3 := s2.setF (i := i) hd
  rw [fput_put, set_same h1] at s3
  exact s3
/-- a slot takes a new thing for itself -/
theorem SR.setO (s : SR K B F H σ env) {i : Nat} {v : V} {d : D} {fs : List Str} (h : rN K B F H σ env v d fs) : SR K B F H (σ.set i (some v)) (fput env i (.ow none d fs)) := by
  obtain ⟨p, S, rfl, h2, h3, h4⟩ := h
  refine s.put i _ _ (fun _ e => nomatch e) (fun _ _ _ e => nomatch e) fun ft hf t d' fs' e => ?_
  cases e
  exact ⟨p, S, rfl, h2, h3, h4 ft hf, fun k hk => nomatch hk⟩
/-- a slot's own thing changes -/
theorem SR.chg (s : SR K B F H σ env) {i : Nat} {t : Option Nat} {d : D} {fs : List Str} (he : fget env i = .ow t d fs) : ∃ p S, σ[i]? = some (some (.ref p)) ∧ Own K F H p d fs S ∧ (∀ a ∈ S, F a = none) ∧
    ∀ F' H' d' fs' S', Ex F F' → (∀ a o, F' a = some o → F a = some o ∨ H a = none ∨ a ∈ S) → Ex F' H' → (∀ a o, a ∉ S → H a = some o → H' a = some o) → Own K F' H' p d' fs' S' → (∀ a ∈ S', (a ∈ S ∨ H a = none) ∧ F' a = none) → SR K B F' H' σ (fput env i (.ow t d' fs')) := by
  obtain ⟨ft, hf⟩ := s.own
  obtain ⟨p, h1, h2, h3, h4⟩ := hf.ow i t d fs he
  refine ⟨p, ft i, h1, h2, fun a ha => (h3 a ha).1, fun F' H' d' fs' S' hx hnew hx' hk ho hS' => ?_⟩
  have hl : i < env.length := fget_lt he fun z => nomatch z
  refine ⟨hx', s.ex0.trans hx, fun a o h n => ?_, fun a o h => ?_, by rw [fput_length]; exact s.len, fun j e h7 => ?_, fun j a dd gs h7 => ?_, fun j => if j = i then S' else ft j, fun j t' d2 f2 h7 => ?_, fun j k t1 t2 d1 d2 f1 f2 hjk e1 e2 a a1 a2 => ?_⟩
  · refine hk a o (fun z => ?_) (s.keep a o h n)
    rcases (h3 a z).2 with q | q
    · rw [h] at q; cases q
    · exact n q
  · rcases hnew a o h with z | z | z
    · exact s.newF a o z
    · exact Or.inr (s.new_b z)
    · exact Or.inr (h3 a z).2
  · by_cases hij : i = j
    · subst hij
      rw [fget_self hl] at h7; cases h7
    · rw [fget_ne _ _ hij] at h7
      obtain ⟨v, q1, q2⟩ := s.fz j e h7
      exact ⟨v, q1, q2.mono hx⟩
  · by_cases hij : i = j
    · subst hij
      rw [fget_self hl] at h7; cases h7
    · rw [fget_ne _ _ hij] at h7
      obtain ⟨g1, fs, g2, g3, g4⟩ := s.xc j a dd gs h7
      exact ⟨g1, fs, hx _ _ g2, g3, g4.mono hx⟩
  · by_cases hij : i = j
    · subst hij
      rw [fget_self hl] at h7
      cases h7
      refine ⟨p, h1, ?_⟩
      simp only [if_pos]
      refine ⟨ho, fun a ha => ⟨(hS' a ha).2, ?_⟩, h4⟩
      rcases (hS' a ha).1 with z | z
      · exact (h3 a z).2
      · exact s.new_b z
    · rw [fget_ne _ _ hij] at h7
      simp only [if_neg (Ne.symm hij)]
      obtain ⟨q, g1, g2, g3, g4⟩ := hf.ow j t' d2 f2 h7
      have hne : ∀ a ∈ ft j, a ∉ ft i := fun a ha hb => hf.dis i j t t' d d2 fs f2 hij he h7 a hb ha
      refine ⟨q, g1, g2.congr hx fun a ha => ?_, fun a ha => ⟨?_, (g3 a ha).2⟩, g4⟩
      · obtain ⟨o, hoo⟩ := g2.some a ha
        rw [hk a o (hne a ha) hoo, hoo]
      · cases q : F' a with
        | none => rfl
        | some o =>
          rcases hnew a o q with z | z | z
          · rw [(g3 a ha).1] at z; cases z
          · obtain ⟨o2, ho2⟩ := g2.some a ha
            rw [z] at ho2; cases ho2
          · exact absurd z (hne a ha)
  · have key : ∀ {m : Nat} {t3 : Option Nat} {d3 : D} {f3 : List Str}, i ≠ m → fget (fput env i (.ow t d' fs')) m = .ow t3 d3 f3 → a ∈ S' → a ∈ ft m → False := fun {m t3 d3 f3} him e3 b1 b2 => by
      rw [fget_ne _ _ him] at e3
      rcases (hS' a b1).1 with z | z
      · exact hf.dis i m t t3 d d3 fs f3 him he e3 a z b2
      · obtain ⟨q, g1, g2, _⟩ := hf.ow m t3 d3 f3 e3
        obtain ⟨o2, ho2⟩ := g2.some a b2
        rw [z] at ho2; cases ho2
    by_cases hj : j = i
    · subst hj
      simp only [if_pos] at a1
      rw [if_neg (Ne.symm hjk)] at a2
      exact key hjk e2 a1 a2
    · simp only [if_neg hj] at a1
      by_cases hk : k = i
      · subst hk
        simp only [if_pos] at a2
        exact key (Ne.symm hjk) e1 a2 a1
      · simp only [if_neg hk] at a2
        rw [fget_ne _ _ (Ne.symm hj)] at e1
        rw [fget_ne _ _ (Ne.symm hk)] at e2
        exact hf.dis j k t1 t2 d1 d2 f1 f2 hjk e1 e2 a a1 a2

/-! ### a new start at a state, and back -/
def Bs.at (B : Bs) (F H : Hp) (env : Fm) (ft : Nat → List Addr) : Bs := ⟨F, H, owned env ft, B.par⟩
theorem SR.rebase (s : SR K B F H σ env) (hf : Hs K B F H σ env ft) : SR K (B.at F H env ft) F H σ env where
  ex := s.ex
  ex0 := Ex.refl F
  keep := fun _ _ h _ => h
  newF := fun a o h => Or.inl (fun z => by have z' : F a = none := z; rw [h] at z'; cases z')
  len := s.len
  fz := s.fz
  xc := s.xc
  own := ⟨ft, fun i t d fs e => by
    obtain ⟨p, h1, h2, h3, h4⟩ := hf.ow i t d fs e
    exact ⟨p, h1, h2, fun a ha => ⟨(h3 a ha).1, Or.inr ⟨i, t, d, fs, e, ha⟩⟩, h4⟩, hf.dis⟩
theorem SR.unbase (s : SR K B F H σ env) (hf : Hs K B F H σ env ft) {par : Nat → Option Addr} (hp : ∀ k p, par k = some p → B.par k = some p) (r : SR K ⟨F, H, owned env ft, par⟩ F' H' σ' env') : SR K B F' H' σ' env' where
  ex := r.ex
  ex0 := s.ex0.trans r.ex0
  keep := fun a o h n => r.keep a o (s.keep a o h n) fun z => by
    rcases (hf.owned_b z).2.2 with q | q
    · rw [h] at q; cases q
    · exact n q
  newF := fun a o h => by
    rcases r.newF a o h with z | z | z
    · cases q : F a with
      | none => exact absurd q z
      | some u => exact s.newF a u q
    · exact Or.inr (s.new_b z)
    · exact Or.inr (hf.owned_b z).2.2
  len := r.len
  fz := r.fz
  xc := r.xc
  own := by
    obtain ⟨ft', h'⟩ := r.own
    refine ⟨ft', fun i t d fs e => ?_, h'.dis⟩
    obtain ⟨p, h1, h2, h3, h4⟩ := h'.ow i t d fs e
    refine ⟨p, h1, h2, fun a ha => ⟨(h3 a ha).1, ?_⟩, fun k hk => hp k p (h4 k hk)⟩
    rcases (h3 a ha).2 with z | z
    · exact s.new_b z
    · exact (hf.owned_b z).2.2
/-- what stood at the entry and is not the def's stands still -/
theorem SR.off (s : SR K B F H σ env) {p : Addr} {o : HO} (h0 : B.H0 p = some o) (hF : B.F0 p = none) (hn : ¬ B.ps p) : H p = some o ∧ F p = none ∧ ∀ ft, Hs K B F H σ env ft → ¬ owned env ft p := by
  refine ⟨s.keep p o h0 hn, ?_, fun ft hf z => ?_⟩
  · cases q : F p with
    | none => rfl
    | some u =>
      rcases s.newF p u q with z | z | z
      · exact absurd hF z
      · rw [h0] at z; cases z
      · exact absurd z hn
  · rcases (hf.owned_b z).2.2 with z | z
    · rw [h0] at z; cases z
    · exact hn z
/-- a thing that is nobody's yet changes -/
theorem SR.updOff (s : SR K B F H σ env) {p : Addr} {o : HO} (hF : F p = none) (hb : B.H0 p = none ∨ B.ps p) (hn : ∀ ft, Hs K B F H σ env ft → ¬ owned env ft p) : SR K B F (upd H p o) σ env where
  ex := fun a u h => by rw [upd_ne (ne_of_none h hF)]; exact s.ex a u h
  ex0 := s.ex0
  keep := fun a u h n => by
    have hne : a ≠ p := fun z => by
      subst z
      rcases hb with z | z
      · rw [h] at z; cases z
      · exact n z
    rw [upd_ne hne]; exact s.keep a u h n
  newF := s.newF
  len := s.len
  fz := s.fz
  xc := s.xc
  own := by
    obtain ⟨ft, hf⟩ := s.own
    refine ⟨ft, hf.congr (Ex.refl F) fun a ha => ⟨upd_ne fun z => ?_, (hf.owned_b ha).1⟩⟩
    subst z
    exact hn ft hf ha
/-- the slots that nothing is known of may hold anything -/
theorem SR.unσ (s : SR K B F H σ env) (hl : σ'.length = σ.length) (hu : ∀ (i : Nat), fget env i ≠ .un → σ'[i]? = σ[i]?) : SR K B F H σ' env where
  ex := s.ex
  ex0 := s.ex0
  keep := s.keep
  newF := s.newF
  len := hl.trans s.len
  fz := fun i d e => by rw [hu i (by rw [e]; exact fun z => nomatch z)]; exact s.fz i d e
  xc := fun i a d gs e => by rw [hu i (by rw [e]; exact fun z => nomatch z)]; exact s.xc i a d gs e
  own := by
    obtain ⟨ft, hf⟩ := s.own
    exact ⟨ft, fun i t d fs e => by rw [hu i (by rw [e]; exact fun z => nomatch z)]; exact hf.ow i t d fs e, hf.dis⟩
theorem owf_eq {fs : List Str} {ws : List (Str × V)} {gs gs' : List (Str × D)} {S S' : List Addr} (h : OwF K F H fs ws gs S) (h' : OwF K F' H' fs ws gs' S') : S = S' := by
  induction h generalizing gs' S' with
  | nil => cases h'; rfl
  | fz h1 _ _ ih =>
    cases h' with
    | fz _ _ h4 => exact ih h4
    | ow h2 => exact absurd h2 h1
  | ow h1 _ _ _ _ ih =>
    cases h' with
    | fz h2 => exact absurd h1 h2
    | ow _ _ _ _ h5 => rw [ih h5]
theorem foot_same {p : Addr} {d d' : D} {fs : List Str} {S S' : List Addr} (h : Own K F H p d fs S) (hx : Ex H H') (h' : Own K F' H' p d' fs S') : S = S' := by
  cases h with
  | ce h1 h2 => exact h'.plain.1.symm
  | ob h1 h2 h3 =>
    cases h' with
    | ce h4 h5 => rw [h3.plain.1]
    | ob h4 h5 h6 =>
      rw [hx _ _ h1] at h4
      cases h4
      rw [owf_eq h3 h6]
theorem foot_eq {p : Addr} {d d' : D} {fs : List Str} {S S' : List Addr} (h : Own K F H p d fs S) (hx : Ex H H') (h' : Own K F' H' p d' fs S') : ∀ a ∈ S', H a = none → False := fun a ha hn => by
  rw [← foot_same h hx h'] at ha
  obtain ⟨o, ho⟩ := h.some a ha
  rw [hn] at ho
  cases ho
end
/-! ### what a thing that is read is -/
/-- it stands still, or it is a list or dict of the frame's own -/
def Dh (K : PySem.W.Frag) (F H : Hp) (v : V) (d : D) : Prop := Dr K F v d ∨ ∃ p o, v = .ref p ∧ H p = some o ∧ Do K F o d
section
variable {K : PySem.W.Frag} {F H F' H' : Hp} {v : V}
theorem Dh.mono {d : D} (e : Ex F F') (e2 : Ex H H') (h : Dh K F H v d) : Dh K F' H' v d := by
  rcases h with h | ⟨p, o, h1, h2, h3⟩
  · exact Or.inl (h.mono e)
  · exact Or.inr ⟨p, o, h1, e2 _ _ h2, h3.mono e⟩
theorem Dh.non (h : Dh K F H v .non) : v = .non := by
  rcases h with h | ⟨p, o, _, _, h⟩ <;> cases h; rfl
theorem Dh.bl {b : Bool} (h : Dh K F H v (.bl b)) : v = .bl b := by
  rcases h with h | ⟨p, o, _, _, h⟩ <;> cases h; rfl
theorem Dh.int {i : Int} (h : Dh K F H v (.int i)) : v = .int i := by
  rcases h with h | ⟨p, o, _, _, h⟩ <;> cases h; rfl
theorem Dh.str {x : Str} (h : Dh K F H v (.str x)) : v = .str x := by
  rcases h with h | ⟨p, o, _, _, h⟩ <;> cases h; rfl
theorem Dh.tyv {x : String} (h : Dh K F H v (.ty x)) : v = .ty x := by
  rcases h with h | ⟨p, o, _, _, h⟩ <;> cases h; rfl
theorem Dh.lstR {ds : List D} (e : Ex F H) (h : Dh K F H v (.lst ds)) : ∃ a xs, v = .ref a ∧ Rd H a (.lst xs) ∧ DrA K F xs ds := by
  rcases h with h | ⟨p, o, rfl, hp, h⟩
  · cases h with
    | lst h1 h2 => exact ⟨_, _, rfl, e.rd h1, h2⟩
  · cases h with
    | lst h2 => exact ⟨_, _, rfl, Or.inl hp, h2⟩
theorem Dh.lst {ds : List D} (e : Ex F H) (h : Dh K F H v (.lst ds)) : ∃ a xs, v = .ref a ∧ SqL K H a xs ∧ DrA K F xs ds := by
  obtain ⟨a, xs, h1, h2, h3⟩ := h.lstR e
  exact ⟨a, xs, h1, Or.inl h2, h3⟩
theorem Dh.tup {ds : List D} (e : Ex F H) (h : Dh K F H v (.tup ds)) : ∃ a xs, v = .ref a ∧ SqT K H a xs ∧ DrA K F xs ds := by
  rcases h with h | ⟨p, o, rfl, hp, h⟩
  · cases h with
    | tup h1 h2 => exact ⟨_, _, rfl, e.st h1.sq, h2⟩
  · cases h
theorem Dh.tupZ {ds : List D} (e : Ex F H) (h : Dh K F H v (.tup ds)) : ∃ a xs, v = .ref a ∧ TqT K H a xs ∧ DrA K F xs ds := by
  rcases h with h | ⟨p, o, rfl, hp, h⟩
  · cases h with
    | tup h1 h2 => exact ⟨_, _, rfl, e.tq h1, h2⟩
  · cases h
theorem Dh.dct {kds : List (Key × D)} (e : Ex F H) (h : Dh K F H v (.dct kds)) : ∃ a kvs, v = .ref a ∧ H a = some (.dK kvs) ∧ kvs.map (·.1) = kds.map (·.1) ∧ DrA K F (kvs.map (·.2)) (kds.map (·.2)) := by
  rcases h with h | ⟨p, o, rfl, hp, h⟩
  · cases h with
    | dct h1 h2 h3 => exact ⟨_, _, rfl, e _ _ h1, h2, h3⟩
  · cases h with
    | dct h2 h3 => exact ⟨_, _, rfl, hp, h2, h3⟩
theorem Dh.obj {C : Str} {gs : List (Str × D)} (e : Ex F H) (h : Dh K F H v (.obj C gs)) : ∃ a c dx fs, v = .ref a ∧ H a = some (.ins c dx fs) ∧ Cl K C c ∧ fs.map (·.1) = gs.map (·.1) ∧ DrA K F (fs.map (·.2)) (gs.map (·.2)) := by
  rcases h with h | ⟨p, o, rfl, hp, h⟩
  · cases h with
    | obj h1 h2 h3 h4 => exact ⟨_, _, _, _, rfl, e _ _ h1, h2, h3, h4⟩
  · cases h with
    | obj h2 h3 h4 => exact ⟨_, _, _, _, rfl, hp, h2, h3, h4⟩
theorem Dh.all {d : D} (e : Ex F H) (h : Dh K F H v d) : Dr K H v d := by
  rcases h with h | ⟨p, o, rfl, hp, h⟩
  · exact h.mono e
  · exact (h.mono e).dr hp
end
end DM

/-! Tuples that are laid so that it is known that they have no dict. -/
namespace DM
open PySem PySem.Spec PyProof.Rows L2 DL

/-- a new tuple, its object kept -/
def zT (xs : List V) (H : Hp) (Q : VK) : Prop := ∀ p o, H p = none → o.dict = none → Q (.ref p) (upd H p (.frz o (.tup xs)))
section
variable {X : Cx} {pins : List (Addr × Obj)} {σ : L2.St} {H : Hp} {s : Shared} {Q : VK}
theorem zT.made {xs : List V} {us : List Value} {tk : Nat} (I : Inv X pins σ H s) (r : Vals xs us) (z : xs.length ≤ sizeLine) (q : zT xs H Q) : EP X pins σ Q (.ref s.heap.objs.size) { s with heap := s.heap.push ({ cls := .type "tuple", data := .seq us.toArray } : Obj), toks := tk } := by
  have hg : (s.heap.push ({ cls := .type "tuple", data := .seq us.toArray } : Obj)).get? s.heap.objs.size = some { cls := .type "tuple", data := .seq us.toArray } := Heap.get?_push_size _ rfl
  refine ⟨.ref s.heap.objs.size, upd H s.heap.objs.size (.frz { cls := .type "tuple", data := .seq us.toArray } (.tup xs)), ?_, rfl, q _ _ (I.hok.fresh (Nat.le_refl _)) rfl⟩
  refine I.laid (t' := tk) (fun b u e => Heap.get?_push_of_some _ e) (Nat.le_refl _) ?_
  show _ = _ ∧ _
  exact ⟨hg, z, us, r, _, hg, rfl, _, rfl⟩
end
section
variable {X : Cx}
def tTupZ (t : TA) : TE := fun σ H Q => t σ H fun xs H1 => xs.length ≤ sizeLine ∧ zT xs H1 Q
theorem pe_tupZ {es : List Expr} {t : TA} {pos : Pos} {x1} (h : PA X es t) : PE X (.Tuple es x1 pos) (tTupZ t) :=
  ⟨fun pins s σ H Q I hq => wpAny_Tuple_spliced (thn (h.run pos pins s σ H _ I hq) fun us s1 ⟨xs, H1, I1, r, z, q⟩ => ⟨by rw [← r.length]; exact z, zT.made I1 r z q⟩)⟩
def rCatZ (K : PySem.W.Frag) : R2 := fun x y H Q => ∃ a b xs ys, x = .ref a ∧ y = .ref b ∧ SqT K H a xs ∧ SqT K H b ys ∧ xs.length + ys.length ≤ sizeLine ∧ (xs = [] → Q (.ref b) H) ∧ (xs ≠ [] → ys = [] → Q (.ref a) H) ∧ (xs ≠ [] → ys ≠ [] → zT (xs ++ ys) H Q)
theorem op_catZ : OpR X (binaryOp .Add) (rCatZ X.K) := by
  intro pins s σ H x y v u Q I rx ry h
  obtain ⟨a, b, xs, ys, rfl, rfl, ha, hb, hz, q0, q1, q2⟩ := h
  cases rx
  cases ry
  obtain ⟨i1, r1, p1, _⟩ := I.tuple ha
  obtain ⟨i2, r2, p2, _⟩ := I.tuple hb
  by_cases hx : xs = []
  · subst hx
    cases r1
    exact cat_tup0 p1 p2 ⟨.ref b, H, I, rfl, q0 rfl⟩
  · exact HT.cat_tup p1 p2 (fun z => hx (r1.nil_iff.mp z)) (fun z => ⟨.ref a, H, I, rfl, q1 hx (r2.nil_iff.mp z)⟩) (fun z => zT.made I (r1.append r2) (by rw [List.length_append]; exact hz) (q2 hx fun w => z (r2.nil_iff.mpr w))) (by rw [← r1.length, ← r2.length]; exact hz)
def rSlZ (K : PySem.W.Frag) : V → Option Int → Option Int → Hp → VK → Prop := fun x lo hi H Q => ∃ a xs, x = .ref a ∧ SqT K H a xs ∧
  (HT.sIx xs.length 0 lo = 0 ∧ HT.sIx xs.length xs.length hi = xs.length → Q (.ref a) H) ∧ (¬ (HT.sIx xs.length 0 lo = 0 ∧ HT.sIx xs.length xs.length hi = xs.length) → zT (cutV xs lo hi) H Q)
theorem sl_tupZ : SlR X (rSlZ X.K) := by
  intro pins s σ H x v vl vu lo hi sl Q I rx hs pl pu h
  obtain ⟨a, xs, rfl, hx, q1, q2⟩ := h
  cases rx
  obtain ⟨its, r, ht, hz⟩ := I.tuple hx
  have hlen : its.toArray.size = xs.length := by rw [List.size_toArray, r.length]
  refine ⟨"tuple", _, PyProof.Rows.slot_tuple_getitem.lookup, ht.typeIs, ?_⟩
  by_cases hw : HT.sIx xs.length 0 lo = 0 ∧ HT.sIx xs.length xs.length hi = xs.length
  · exact getItem_tuple_whole ht hs pl pu (by rw [hlen]; exact hw) ⟨.ref a, H, I, rfl, q1 hw⟩
  · refine HT.getItem_tuple_cut ht hs pl pu (by rw [hlen]; exact hw) ?_ (by rw [hlen]; exact hz)
    rw [hlen]
    exact zT.made I ((r.drop (HT.sIx xs.length 0 lo)).take (HT.sIx xs.length xs.length hi - HT.sIx xs.length 0 lo)) (Nat.le_trans (cutV_length xs lo hi) hz) (q2 hw)
def rTupZ (K : PySem.W.Frag) : List V → Hp → VK → Prop := fun xs H Q => ∃ p ys, xs = [.ref p] ∧ ((SqL K H p ys ∧ zT ys H Q) ∨ (SqT K H p ys ∧ Q (.ref p) H))
theorem call_tupleZ : CallR X (.type "tuple") (rTupZ X.K) := by
  intro pins s σ H xs us Q I r h
  obtain ⟨p, ys, rfl, h⟩ := h
  obtain ⟨u, rfl, rx⟩ := vals1 r
  cases rx
  rcases h with ⟨hq, q⟩ | ⟨hq, q⟩
  · obtain ⟨its, r', pl, hz⟩ := I.list hq
    refine call_tuple_list pl.isList (fun h' kp => ?_) (by rw [List.size_toArray, ← r'.length]; exact hz)
    exact zT.made (I.kept (t' := s.toks) kp) r' hz q
  · obtain ⟨its, r', pl, hz⟩ := I.tuple hq
    exact call_tuple_same pl ⟨.ref p, H, I, rfl, q⟩
end
end DM

/-! Operators and built-ins on data. -/
namespace DM
open PySem PySem.Spec PyProof.Rows L2 DL
section
variable {K : PySem.W.Frag} {B : Bs} {F H : Hp} {σ : L2.St} {env : Fm}
theorem SR.newN (s : SR K B F H σ env) {p : Addr} {o : HO} {d : D} (hp : H p = none) (hd : Do K F o d) : SR K B F (upd H p o) σ env ∧ rN K B F (upd H p o) σ env (.ref p) d [] := by
  refine ⟨s.growH hp, p, [p], rfl, .ce upd_same hd, fun a ha => ?_, fun ft hf a ha z => ?_⟩
  · rw [List.mem_singleton.mp ha]
    exact ⟨s.ex.none hp, s.new_b hp⟩
  · rw [List.mem_singleton.mp ha] at z
    obtain ⟨i, t, d', fs, e1, e2⟩ := z
    obtain ⟨ft0, hf0⟩ := s.own
    obtain ⟨q, h1, h2, _⟩ := hf0.ow i t d' fs e1
    obtain ⟨q', g1, g2, g3, _⟩ := hf.ow i t d' fs e1
    rw [h1] at g1
    cases g1
    exact (foot_eq h2 (fun a o e => Ex.new hp a o e) g2 p e2 hp).elim
theorem SR.newT (s : SR K B F H σ env) {p : Addr} {o : Obj} {xs : List V} {ds : List D} (hp : H p = none) (ho : o.dict = none) (hd : DrA K F xs ds) :
    Ex F (upd F p (.frz o (.tup xs))) ∧ SR K B (upd F p (.frz o (.tup xs))) (upd H p (.frz o (.tup xs))) σ env ∧ Dr K (upd F p (.frz o (.tup xs))) (.ref p) (.tup ds) :=
  ⟨Ex.new (s.ex.none hp), s.grow hp, .tup (Or.inl ⟨o, upd_same, ho⟩) (hd.mono (Ex.new (s.ex.none hp)))⟩
end
/-! ### two-place operations -/
/-- on data, what comes stands still -/
def OpD (K : PySem.W.Frag) (r : R2) (g : D → D → Option D) : Prop := ∀ B F H σ env x y a b c Q, SR K B F H σ env → Dh K F H x a → Dh K F H y b → g a b = some c →
  (∀ v F' H', Ex F F' → Ex H H' → SR K B F' H' σ env → Dr K F' v c → Q v H') → r x y H Q
/-- .. what comes is new -/
def OpN (K : PySem.W.Frag) (r : R2) (g : D → D → Option D) : Prop := ∀ B F H σ env x y a b c Q, SR K B F H σ env → Dh K F H x a → Dh K F H y b → g a b = some c →
  (∀ v F' H', Ex F F' → Ex H H' → SR K B F' H' σ env → rN K B F' H' σ env v c [] → Q v H') → r x y H Q
theorem OpN.d {K : PySem.W.Frag} {r : R2} {g : D → D → Option D} (h : OpN K r g) : OpD K r g := fun B F H σ env x y a b c Q s hx hy hc q =>
  h B F H σ env x y a b c Q s hx hy hc fun v F' H' e eh s' n => by
    obtain ⟨F2, e2, d2, s2⟩ := s'.frzN n
    exact q v F2 H' (e.trans e2) eh s2 d2
def orG (g g' : D → D → Option D) : D → D → Option D := fun a b => match g a b with
  | some c => some c
  | none => g' a b
theorem OpD.or {K : PySem.W.Frag} {r r' : R2} {g g' : D → D → Option D} (h : OpD K r g) (h' : OpD K r' g') : OpD K (fun x y H Q => r x y H Q ∨ r' x y H Q) (orG g g') := fun B F H σ env x y a b c Q s hx hy hc q => by
  unfold orG at hc
  cases e : g a b with
  | some z =>
    rw [e] at hc
    cases hc
    exact Or.inl (h B F H σ env x y a b _ Q s hx hy e q)
  | none =>
    rw [e] at hc
    exact Or.inr (h' B F H σ env x y a b c Q s hx hy hc q)
/-! ### ints -/
def intG (C : Int → Int → Bool) (h : Int → Int → D) : D → D → Option D := fun a b => match a, b with
  | .int i, .int j => if C i j then some (h i j) else none
  | _, _ => none
section
variable {K : PySem.W.Frag}
theorem opd_I {C : Int → Int → Prop} {C' : Int → Int → Bool} {g : Int → Int → V} {h : Int → Int → D} (hc : ∀ i j, C' i j = true → C i j) (hd : ∀ F i j, Dr K F (g i j) (h i j)) : OpD K (rI C g) (intG C' h) := by
  intro B F H σ env x y a b c Q s hx hy hg q
  unfold intG at hg
  split at hg
  · rename_i i j
    split at hg
    · rename_i hij
      cases hg
      exact ⟨i, j, hx.int, hy.int, hc i j hij, q _ F H (Ex.refl F) (Ex.refl H) s (hd F i j)⟩
    · cases hg
  · cases hg
theorem opd_I0 {g : Int → Int → V} {h : Int → Int → D} (hd : ∀ F i j, Dr K F (g i j) (h i j)) : OpD K (rI0 g) (intG (fun _ _ => true) h) := by
  intro B F H σ env x y a b c Q s hx hy hg q
  unfold intG at hg
  split at hg
  · rename_i i j
    rw [if_pos rfl] at hg
    cases hg
    exact ⟨i, j, hx.int, hy.int, q _ F H (Ex.refl F) (Ex.refl H) s (hd F i j)⟩
  · cases hg
def cMul (i j : Int) : Bool := decide (-(2 ^ 64) < i ∧ i < 2 ^ 64) || decide (-(2 ^ 64) < j ∧ j < 2 ^ 64)
def cDiv (_ j : Int) : Bool := decide (0 < j ∧ j < 1073741824)
def cMod (_ j : Int) : Bool := decide (0 < j)
def cPow (i j : Int) : Bool := decide (0 ≤ j ∧ j ≤ 1000000 ∧ i.natAbs < 2 ^ 64)
def addG := intG (fun _ _ => true) fun i j => .int (i + j)
def subG := intG (fun _ _ => true) fun i j => .int (i - j)
def mulG := intG cMul fun i j => .int (i * j)
def divG := intG cDiv fun i j => .int (i / j)
def modG := intG cMod fun i j => .int (i % j)
def powG := intG cPow fun i j => .int (i ^ j.toNat)
def ltG := intG (fun _ _ => true) fun i j => .bl (decide (i < j))
def leG := intG (fun _ _ => true) fun i j => .bl (decide (i ≤ j))
def gtG := intG (fun _ _ => true) fun i j => .bl (decide (j < i))
def geG := intG (fun _ _ => true) fun i j => .bl (decide (j ≤ i))
theorem od_add : OpD K (rI0 fun i j => .int (i + j)) addG := opd_I0 fun _ _ _ => .int _
theorem od_sub : OpD K (rI0 fun i j => .int (i - j)) subG := opd_I0 fun _ _ _ => .int _
theorem od_mul : OpD K (rI CMul fun i j => .int (i * j)) mulG := opd_I (fun i j h => by
  unfold cMul at h
  rw [Bool.or_eq_true] at h
  rcases h with h | h
  · exact Or.inl (of_decide_eq_true h)
  · exact Or.inr (of_decide_eq_true h)) fun _ _ _ => .int _
theorem od_div : OpD K (rI CDiv fun i j => .int (i / j)) divG := opd_I (fun i j h => (of_decide_eq_true h : 0 < j ∧ j < 1073741824)) fun _ _ _ => .int _
theorem od_mod : OpD K (rI (fun _ j => 0 < j) fun i j => .int (i % j)) modG := opd_I (fun i j h => of_decide_eq_true h) fun _ _ _ => .int _
theorem od_pow : OpD K (rI CPow fun i j => .int (i ^ j.toNat)) powG := opd_I (fun i j h => (of_decide_eq_true h : 0 ≤ j ∧ j ≤ 1000000 ∧ i.natAbs < 2 ^ 64)) fun _ _ _ => .int _
theorem od_lt : OpD K (rI0 fun i j => .bl (decide (i < j))) ltG := opd_I0 fun _ _ _ => .bl _
theorem od_le : OpD K (rI0 fun i j => .bl (decide (i ≤ j))) leG := opd_I0 fun _ _ _ => .bl _
theorem od_gt : OpD K (rI0 fun i j => .bl (decide (j < i))) gtG := opd_I0 fun _ _ _ => .bl _
theorem od_ge : OpD K (rI0 fun i j => .bl (decide (j ≤ i))) geG := opd_I0 fun _ _ _ => .bl _
end

/-! ### texts -/
def catSG : D → D → Option D := fun a b => match a, b with
  | .str x, .str y => if x.length + y.length ≤ sizeLine then some (.str (x ++ y)) else none
  | _, _ => none
def inSG : D → D → Option D := fun a b => match a, b with
  | .str x, .str z => match x.cps.toList with
    | [c] => some (.bl (decide (c ∈ z.cps.toList)))
    | _ => none
  | _, _ => none
def notInSG : D → D → Option D := fun a b => match a, b with
  | .str x, .str z => match x.cps.toList with
    | [c] => some (.bl (!decide (c ∈ z.cps.toList)))
    | _ => none
  | _, _ => none
section
variable {K : PySem.W.Frag}
theorem od_catS : OpD K (fun x y H Q => ∃ i j, x = .str i ∧ y = .str j ∧ i.length + j.length ≤ sizeLine ∧ Q (.str (i ++ j)) H) catSG := by
  intro B F H σ env x y a b c Q s hx hy hg q
  unfold catSG at hg
  split at hg
  · split at hg
    · rename_i hij
      cases hg
      exact ⟨_, _, hx.str, hy.str, hij, q _ F H (Ex.refl F) (Ex.refl H) s (.str _)⟩
    · cases hg
  · cases hg
theorem od_inS : OpD K (fun x y H Q => ∃ (c : Nat) (z : Str), x = .str ⟨#[c]⟩ ∧ y = .str z ∧ Q (.bl (decide (c ∈ z.cps.toList))) H) inSG := by
  intro B F H σ env x y a b c Q s hx hy hg q
  unfold inSG at hg
  split at hg
  · split at hg
    · rename_i x' z _ c' he
      cases hg
      have e : x' = ⟨#[c']⟩ := by
        obtain ⟨⟨l⟩⟩ := x'
        have he' : l = [c'] := he
        rw [he']
      exact ⟨c', z, by rw [hx.str, e], hy.str, q _ F H (Ex.refl F) (Ex.refl H) s (.bl _)⟩
    · cases hg
  · cases hg
theorem od_notInS : OpD K (fun x y H Q => ∃ (c : Nat) (z : Str), x = .str ⟨#[c]⟩ ∧ y = .str z ∧ Q (.bl (!decide (c ∈ z.cps.toList))) H) notInSG := by
  intro B F H σ env x y a b c Q s hx hy hg q
  unfold notInSG at hg
  split at hg
  · split at hg
    · rename_i x' z _ c' he
      cases hg
      have e : x' = ⟨#[c']⟩ := by
        obtain ⟨⟨l⟩⟩ := x'
        have he' : l = [c'] := he
        rw [he']
      exact ⟨c', z, by rw [hx.str, e], hy.str, q _ F H (Ex.refl F) (Ex.refl H) s (.bl _)⟩
    · cases hg
  · cases hg
end

/-! ### == of data -/
mutual
def pd : D → PyData
  | .non => .none
  | .bl b => .bool b
  | .int i => .int i
  | .str x => .str x
  | .lst ds => .list (pds ds)
  | .tup ds => .tuple (pds ds)
  | .dct _ => .dict []
  | .obj _ _ => .dict []
  | .ty _ => .dict []
  | .exc _ _ => .dict []
def pds : List D → List PyData
  | [] => []
  | d :: ds => pd d :: pds ds
end
theorem Dr.pd {K : PySem.W.Frag} {F : Hp} {v : V} {d : D} (h : Dr K F v d) : (DM.pd d).canLay0 = true → Dp K F v (DM.pd d) :=
  Dr.rec (motive_1 := fun v d _ => (DM.pd d).canLay0 = true → Dp K F v (DM.pd d)) (motive_2 := fun vs ds _ => PyData.canLayAll0 (pds ds) = true → DpAll K F vs (pds ds))
    (fun _ => by rw [DM.pd]; exact .non) (fun b _ => by rw [DM.pd]; exact .bl b) (fun i _ => by rw [DM.pd]; exact .int i) (fun x _ => by rw [DM.pd]; exact .str x)
    (fun h _ ih c => by rw [DM.pd] at c ⊢; exact .lst (Or.inl h) (ih (by simpa only [PyData.canLay0] using c)))
    (fun h _ ih c => by rw [DM.pd] at c ⊢; exact .tup h.sq (ih (by simpa only [PyData.canLay0] using c)))
    (fun _ _ _ _ c => by rw [DM.pd] at c; simp [PyData.canLay0] at c) (fun _ _ _ _ _ c => by rw [DM.pd] at c; simp [PyData.canLay0] at c) (fun _ c => by rw [DM.pd] at c; simp [PyData.canLay0] at c) (fun _ _ _ _ _ _ c => by rw [DM.pd] at c; simp [PyData.canLay0] at c)
    (fun _ => by rw [pds]; exact .nil)
    (fun _ _ ih ih2 c => by
      rw [pds] at c ⊢
      rw [PyData.canLayAll0, Bool.and_eq_true] at c
      exact .cons (ih c.1) (ih2 c.2)) h
/-- plain data, not too deep: can be compared -/
def shp (d : D) : Bool := SeqAt.shaped (pd d)
def eqG : D → D → Option D := fun a b => match a, b with
  | .int i, .int j => some (.bl (decide (i = j)))
  | .str i, .str j => some (.bl (decide (i = j)))
  | .bl i, .bl j => some (.bl (decide (i = j)))
  | a, b => if shp a && shp b then some (.bl (PyData.eqv (pd a) (pd b))) else none
def neG : D → D → Option D := fun a b => match a, b with
  | .int i, .int j => some (.bl (!decide (i = j)))
  | .str i, .str j => some (.bl (!decide (i = j)))
  | .bl i, .bl j => some (.bl (!decide (i = j)))
  | a, b => if shp a && shp b then some (.bl (!PyData.eqv (pd a) (pd b))) else none
section
variable {K : PySem.W.Frag} {X : Cx}
theorem decV_int (i j : Int) : decide (V.int i = V.int j) = decide (i = j) := by
  by_cases e : i = j
  · subst e; simp
  · rw [decide_eq_false e, decide_eq_false fun h => e (V.int.inj h)]
theorem decV_str (i j : Str) : decide (V.str i = V.str j) = decide (i = j) := by
  by_cases e : i = j
  · subst e; simp
  · rw [decide_eq_false e, decide_eq_false fun h => e (V.str.inj h)]
theorem decV_bl (i j : Bool) : decide (V.bl i = V.bl j) = decide (i = j) := by
  by_cases e : i = j
  · subst e; simp
  · rw [decide_eq_false e, decide_eq_false fun h => e (V.bl.inj h)]
abbrev rEqA (K : PySem.W.Frag) : R2 := fun x y H Q => rEq x y H Q ∨ rEqD K x y H Q
abbrev rNeA (K : PySem.W.Frag) : R2 := fun x y H Q => rNe x y H Q ∨ rNeD K x y H Q
theorem od_eq : OpD K (rEqA K) eqG := by
  intro B F H σ env x y a b c Q s hx hy hg q
  unfold eqG at hg
  split at hg
  · cases hg
    rw [hx.int, hy.int]
    exact Or.inl ⟨rfl, by rw [decV_int]; exact q _ F H (Ex.refl F) (Ex.refl H) s (.bl _)⟩
  · cases hg
    rw [hx.str, hy.str]
    exact Or.inl ⟨rfl, by rw [decV_str]; exact q _ F H (Ex.refl F) (Ex.refl H) s (.bl _)⟩
  · cases hg
    rw [hx.bl, hy.bl]
    exact Or.inl ⟨rfl, by rw [decV_bl]; exact q _ F H (Ex.refl F) (Ex.refl H) s (.bl _)⟩
  · split at hg
    · rename_i hs
      cases hg
      rw [Bool.and_eq_true] at hs
      exact Or.inr ⟨_, _, (hx.all s.ex).pd (SeqAt.canLay_of_shaped hs.1), (hy.all s.ex).pd (SeqAt.canLay_of_shaped hs.2), hs.1, hs.2, q _ F H (Ex.refl F) (Ex.refl H) s (.bl _)⟩
    · cases hg
theorem od_ne : OpD K (rNeA K) neG := by
  intro B F H σ env x y a b c Q s hx hy hg q
  unfold neG at hg
  split at hg
  · cases hg
    rw [hx.int, hy.int]
    exact Or.inl ⟨rfl, by rw [decV_int]; exact q _ F H (Ex.refl F) (Ex.refl H) s (.bl _)⟩
  · cases hg
    rw [hx.str, hy.str]
    exact Or.inl ⟨rfl, by rw [decV_str]; exact q _ F H (Ex.refl F) (Ex.refl H) s (.bl _)⟩
  · cases hg
    rw [hx.bl, hy.bl]
    exact Or.inl ⟨rfl, by rw [decV_bl]; exact q _ F H (Ex.refl F) (Ex.refl H) s (.bl _)⟩
  · split at hg
    · rename_i hs
      cases hg
      rw [Bool.and_eq_true] at hs
      exact Or.inr ⟨_, _, (hx.all s.ex).pd (SeqAt.canLay_of_shaped hs.1), (hy.all s.ex).pd (SeqAt.canLay_of_shaped hs.2), hs.1, hs.2, q _ F H (Ex.refl F) (Ex.refl H) s (.bl _)⟩
    · cases hg
theorem op_eqA (hu : X.A.units + 64 < cLine) (hK : X.K = K := by rfl) : OpR X (compareOp .Eq) (rEqA K) := by
  subst hK
  exact op_eq.or (op_eqD hu)
theorem op_neA (hu : X.A.units + 64 < cLine) (hK : X.K = K := by rfl) : OpR X (compareOp .NotEq) (rNeA K) := by
  subst hK
  exact op_ne.or (op_neD hu)
end
/-! ### is -/
def isNon : D → Option Bool
  | .non => some true
  | .ty _ => none
  | _ => some false
def isNG : D → D → Option D := fun a b => match b with
  | .non => (isNon a).map .bl
  | _ => none
def notNG : D → D → Option D := fun a b => match b with
  | .non => (isNon a).map fun k => .bl (!k)
  | _ => none
def isBG : D → D → Option D := fun a b => match a, b with
  | .bl i, .bl j => some (.bl (decide (i = j)))
  | _, _ => none
def notBG : D → D → Option D := fun a b => match a, b with
  | .bl i, .bl j => some (.bl (!decide (i = j)))
  | _, _ => none
section
variable {K : PySem.W.Frag}
theorem Dh.isN {F H : Hp} {x : V} {a : D} {k : Bool} (hc : isNon a = some k) (h : Dh K F H x a) : decide (x = .non) = k := by
  rcases h with h | ⟨p, o, rfl, _, h⟩
  · cases h <;> first | (cases hc; rfl) | cases hc
  · cases h <;> (cases hc; rfl)
theorem od_isN : OpD K (fun x y H Q => y = .non ∧ Q (.bl (decide (x = .non))) H) isNG := by
  intro B F H σ env x y a b c Q s hx hy hg q
  unfold isNG at hg
  split at hg
  · cases e : isNon a with
    | none => rw [e] at hg; cases hg
    | some k =>
      rw [e] at hg
      cases hg
      exact ⟨hy.non, by rw [hx.isN e]; exact q _ F H (Ex.refl F) (Ex.refl H) s (.bl _)⟩
  · cases hg
theorem od_notN : OpD K (fun x y H Q => y = .non ∧ Q (.bl (!decide (x = .non))) H) notNG := by
  intro B F H σ env x y a b c Q s hx hy hg q
  unfold notNG at hg
  split at hg
  · cases e : isNon a with
    | none => rw [e] at hg; cases hg
    | some k =>
      rw [e] at hg
      cases hg
      exact ⟨hy.non, by rw [hx.isN e]; exact q _ F H (Ex.refl F) (Ex.refl H) s (.bl _)⟩
  · cases hg
theorem od_isB : OpD K rIsB isBG := by
  intro B F H σ env x y a b c Q s hx hy hg q
  unfold isBG at hg
  split at hg
  · cases hg
    exact ⟨_, _, hx.bl, hy.bl, q _ F H (Ex.refl F) (Ex.refl H) s (.bl _)⟩
  · cases hg
theorem od_notB : OpD K rNotB notBG := by
  intro B F H σ env x y a b c Q s hx hy hg q
  unfold notBG at hg
  split at hg
  · cases hg
    exact ⟨_, _, hx.bl, hy.bl, q _ F H (Ex.refl F) (Ex.refl H) s (.bl _)⟩
  · cases hg
end

def DhA (K : PySem.W.Frag) (F H : Hp) : List V → List D → Prop
  | [], [] => True
  | v :: vs, d :: ds => Dh K F H v d ∧ DhA K F H vs ds
  | _, _ => False
def CallD (K : PySem.W.Frag) (r : List V → Hp → VK → Prop) (g : List D → Option D) : Prop := ∀ B F H σ env xs as c Q, SR K B F H σ env → DhA K F H xs as → g as = some c →
  (∀ v F' H', Ex F F' → Ex H H' → SR K B F' H' σ env → Dr K F' v c → Q v H') → r xs H Q
def CallN (K : PySem.W.Frag) (r : List V → Hp → VK → Prop) (g : List D → Option D) : Prop := ∀ B F H σ env xs as c Q, SR K B F H σ env → DhA K F H xs as → g as = some c →
  (∀ v F' H', Ex F F' → Ex H H' → SR K B F' H' σ env → rN K B F' H' σ env v c [] → Q v H') → r xs H Q
/-! ### len, isinstance, all, any, max, min, int -/
def lenG : List D → Option D
  | [.str x] => if x.length ≤ sizeLine then some (.int x.length) else none
  | [.lst ds] => some (.int ds.length)
  | [.tup ds] => some (.int ds.length)
  | _ => none
def tyn : D → Option String
  | .non => some "NoneType"
  | .bl _ => some "bool"
  | .int _ => some "int"
  | .str _ => some "str"
  | .lst _ => some "list"
  | .tup _ => some "tuple"
  | .dct _ => some "dict"
  | _ => none
def tyIs (a T : String) : Bool := a == T || (a == "bool" && T == "int")
def tys : List String := ["NoneType", "bool", "int", "str", "list", "tuple", "dict"]
def isiG : List D → Option D
  | [d, .ty T] => if tys.contains T then (tyn d).map fun a => .bl (tyIs a T) else none
  | _ => none
def boolsOf : List D → Option (List Bool)
  | [] => some []
  | .bl b :: ds => (boolsOf ds).map (b :: ·)
  | _ :: _ => none
def allG : List D → Option D
  | [.lst ds] => (boolsOf ds).map fun bs => .bl (bs.all id)
  | _ => none
def anyG : List D → Option D
  | [.lst ds] => (boolsOf ds).map fun bs => .bl (bs.any id)
  | _ => none
def max2G : List D → Option D
  | [.int i, .int j] => some (.int (if j > i then j else i))
  | _ => none
def min2G : List D → Option D
  | [.int i, .int j] => some (.int (if j < i then j else i))
  | _ => none
def intG1 : List D → Option D
  | [.int i] => some (.int i)
  | [.bl k] => some (.int (if k then 1 else 0))
  | _ => none
section
variable {K : PySem.W.Frag} {F H : Hp}
theorem DhA.one {xs : List V} {d : D} (h : DhA K F H xs [d]) : ∃ v, xs = [v] ∧ Dh K F H v d := by
  match xs, h with
  | [v], h => exact ⟨v, rfl, h.1⟩
  | [], h => exact h.elim
  | _ :: _ :: _, h => exact h.2.elim
theorem DhA.two {xs : List V} {d e : D} (h : DhA K F H xs [d, e]) : ∃ v w, xs = [v, w] ∧ Dh K F H v d ∧ Dh K F H w e := by
  match xs, h with
  | [v, w], h => exact ⟨v, w, rfl, h.1, h.2.1⟩
  | [], h => exact h.elim
  | [_], h => exact h.2.elim
  | _ :: _ :: _ :: _, h => exact h.2.2.elim
theorem cd_len : CallD K (fun xs H Q => ∃ x n, xs = [x] ∧ LenV K x H n ∧ Q (.int n) H) lenG := by
  intro B F H σ env xs as c Q s hx hg q
  unfold lenG at hg
  split at hg
  · split at hg
    · rename_i hz
      cases hg
      obtain ⟨v, rfl, hv⟩ := hx.one
      refine ⟨v, _, rfl, ?_, q _ F H (Ex.refl F) (Ex.refl H) s (.int _)⟩
      rw [hv.str]
      exact ⟨hz, rfl⟩
    · cases hg
  · cases hg
    obtain ⟨v, rfl, hv⟩ := hx.one
    obtain ⟨a, ys, rfl, h1, h2⟩ := hv.lst s.ex
    exact ⟨_, _, rfl, Or.inl ⟨ys, h1, h2.length.symm⟩, q _ F H (Ex.refl F) (Ex.refl H) s (.int _)⟩
  · cases hg
    obtain ⟨v, rfl, hv⟩ := hx.one
    obtain ⟨a, ys, rfl, h1, h2⟩ := hv.tup s.ex
    exact ⟨_, _, rfl, Or.inr ⟨ys, h1, h2.length.symm⟩, q _ F H (Ex.refl F) (Ex.refl H) s (.int _)⟩
  · cases hg
theorem sql_ty {a : Addr} {xs : List V} (h : SqL K H a xs) : TyX K H (.ref a) (.type "list") := by
  rcases h with (h | ⟨o, h⟩) | ⟨o, its, n, h1, h2, _⟩
  · exact .base (.lst h)
  · exact .base (.frz h)
  · exact .kList h1 h2
theorem sqt_ty {a : Addr} {xs : List V} (h : SqT K H a xs) : TyX K H (.ref a) (.type "tuple") := by
  rcases h with (h | ⟨o, h⟩) | ⟨o, its, n, h1, h2, _⟩
  · exact .base (.tup h)
  · exact .fTuple h
  · exact .kTuple h1 h2
theorem Dh.ty {x : V} {d : D} {a : String} (e : Ex F H) (h : Dh K F H x d) (ht : tyn d = some a) : TyX K H x (.type a) := by
  cases d with
  | non => cases ht; rw [h.non]; exact .base .non
  | bl b => cases ht; rw [h.bl]; exact .base (.bl b)
  | int i => cases ht; rw [h.int]; exact .base (.int i)
  | str y => cases ht; rw [h.str]; exact .base (.str y)
  | lst ds => cases ht; obtain ⟨p, ys, rfl, h1, _⟩ := h.lst e; exact sql_ty h1
  | tup ds => cases ht; obtain ⟨p, ys, rfl, h1, _⟩ := h.tup e; exact sqt_ty h1
  | dct kvs => cases ht; obtain ⟨p, ys, rfl, h1, _⟩ := h.dct e; exact .base (.dK h1)
  | obj C fs => cases ht
  | ty c => cases ht
  | exc C fs => cases ht
theorem kit_tab : ∀ a ∈ tys, ∀ T ∈ tys, kitB a T = some (tyIs a T) := by decide +kernel
theorem tyn_mem {d : D} {a : String} (h : tyn d = some a) : a ∈ tys := by
  cases d <;> cases h <;> decide
theorem cd_isi : CallD K (rIsi K) isiG := by
  intro B F H σ env xs as c Q s hx hg q
  unfold isiG at hg
  split at hg
  · rename_i d T
    split at hg
    · rename_i hT
      cases ht : tyn d with
      | none => rw [ht] at hg; cases hg
      | some a =>
        rw [ht] at hg
        cases hg
        obtain ⟨v, w, rfl, hv, hw⟩ := hx.two
        rw [hw.tyv]
        exact ⟨v, .ty T, .type a, .type T, _, rfl, .ty T, hv.ty s.ex ht, kit_ty (kit_tab a (tyn_mem ht) T (List.contains_iff_mem.mp hT)), q _ F H (Ex.refl F) (Ex.refl H) s (.bl _)⟩
    · cases hg
  · cases hg
theorem boolsOf_dr : ∀ {xs : List V} {ds : List D} {bs : List Bool}, DrA K F xs ds → boolsOf ds = some bs → xs = bs.map V.bl
  | _, _, bs, .nil, h => by cases h; rfl
  | _, _, bs, .cons (d := d) (ds := ds) h t, hb => by
    unfold boolsOf at hb
    split at hb
    · rename_i he; cases he
    · rename_i b ds' he
      cases he
      cases h
      cases e : boolsOf ds with
      | none => rw [e] at hb; cases hb
      | some bs' =>
        rw [e] at hb
        cases hb
        rw [boolsOf_dr t e]
        rfl
    · cases hb
theorem cd_all : CallD K (rAll K) allG := by
  intro B F H σ env xs as c Q s hx hg q
  unfold allG at hg
  split at hg
  · rename_i ds
    cases e : boolsOf ds with
    | none => rw [e] at hg; cases hg
    | some bs =>
      rw [e] at hg
      cases hg
      obtain ⟨v, rfl, hv⟩ := hx.one
      obtain ⟨a, ys, rfl, h1, h2⟩ := hv.lst s.ex
      rw [boolsOf_dr h2 e] at h1
      exact ⟨a, bs, rfl, h1, q _ F H (Ex.refl F) (Ex.refl H) s (.bl _)⟩
  · cases hg
theorem cd_any : CallD K (rAny K) anyG := by
  intro B F H σ env xs as c Q s hx hg q
  unfold anyG at hg
  split at hg
  · rename_i ds
    cases e : boolsOf ds with
    | none => rw [e] at hg; cases hg
    | some bs =>
      rw [e] at hg
      cases hg
      obtain ⟨v, rfl, hv⟩ := hx.one
      obtain ⟨a, ys, rfl, h1, h2⟩ := hv.lst s.ex
      rw [boolsOf_dr h2 e] at h1
      exact ⟨a, bs, rfl, h1, q _ F H (Ex.refl F) (Ex.refl H) s (.bl _)⟩
  · cases hg
theorem cd_max2 : CallD K (fun xs H Q => ∃ i j, xs = [.int i, .int j] ∧ Q (.int (if j > i then j else i)) H) max2G := by
  intro B F H σ env xs as c Q s hx hg q
  unfold max2G at hg
  split at hg
  · cases hg
    obtain ⟨v, w, rfl, hv, hw⟩ := hx.two
    rw [hv.int, hw.int]
    exact ⟨_, _, rfl, q _ F H (Ex.refl F) (Ex.refl H) s (.int _)⟩
  · cases hg
theorem cd_min2 : CallD K (fun xs H Q => ∃ i j, xs = [.int i, .int j] ∧ Q (.int (if j < i then j else i)) H) min2G := by
  intro B F H σ env xs as c Q s hx hg q
  unfold min2G at hg
  split at hg
  · cases hg
    obtain ⟨v, w, rfl, hv, hw⟩ := hx.two
    rw [hv.int, hw.int]
    exact ⟨_, _, rfl, q _ F H (Ex.refl F) (Ex.refl H) s (.int _)⟩
  · cases hg
theorem cd_int : CallD K (fun xs H Q => (∃ i, xs = [.int i] ∧ Q (.int i) H) ∨ ∃ k, xs = [.bl k] ∧ Q (.int (if k then 1 else 0)) H) intG1 := by
  intro B F H σ env xs as c Q s hx hg q
  unfold intG1 at hg
  split at hg
  · cases hg
    obtain ⟨v, rfl, hv⟩ := hx.one
    rw [hv.int]
    exact Or.inl ⟨_, rfl, q _ F H (Ex.refl F) (Ex.refl H) s (.int _)⟩
  · cases hg
    obtain ⟨v, rfl, hv⟩ := hx.one
    rw [hv.bl]
    exact Or.inr ⟨_, rfl, q _ F H (Ex.refl F) (Ex.refl H) s (.int _)⟩
  · cases hg
end

def listG : List D → Option D
  | [.lst ds] => some (.lst ds)
  | [.tup ds] => some (.lst ds)
  | _ => none
def tupleG : List D → Option D
  | [.lst ds] => some (.tup ds)
  | [.tup ds] => some (.tup ds)
  | _ => none
section
variable {K : PySem.W.Frag} {F H : Hp}
theorem cn_list : CallN K (fun xs H Q => ∃ p ys, xs = [.ref p] ∧ (SqL K H p ys ∨ SqT K H p ys) ∧ ∀ l, H l = none → Q (.ref l) (upd H l (.lst ys))) listG := by
  intro B F H σ env xs as c Q s hx hg q
  unfold listG at hg
  split at hg
  · cases hg
    obtain ⟨v, rfl, hv⟩ := hx.one
    obtain ⟨a, ys, rfl, h1, h2⟩ := hv.lst s.ex
    exact ⟨a, ys, rfl, Or.inl h1, fun l hl => q _ F _ (Ex.refl F) (Ex.new hl) (s.newN hl (Do.lst h2)).1 (s.newN hl (Do.lst h2)).2⟩
  · cases hg
    obtain ⟨v, rfl, hv⟩ := hx.one
    obtain ⟨a, ys, rfl, h1, h2⟩ := hv.tup s.ex
    exact ⟨a, ys, rfl, Or.inr h1, fun l hl => q _ F _ (Ex.refl F) (Ex.new hl) (s.newN hl (Do.lst h2)).1 (s.newN hl (Do.lst h2)).2⟩
  · cases hg
theorem cd_tuple : CallD K (rTupZ K) tupleG := by
  intro B F H σ env xs as c Q s hx hg q
  unfold tupleG at hg
  split at hg
  · cases hg
    obtain ⟨v, rfl, hv⟩ := hx.one
    obtain ⟨a, ys, rfl, h1, h2⟩ := hv.lst s.ex
    refine ⟨a, ys, rfl, Or.inl ⟨h1, fun l o hl ho => ?_⟩⟩
    obtain ⟨e1, s1, d1⟩ := s.newT hl ho h2
    exact q _ _ _ e1 (Ex.new hl) s1 d1
  · cases hg
    obtain ⟨v, rfl, hv⟩ := hx.one
    rcases hv with hv | ⟨_, _, _, _, hv⟩
    · cases hv with
      | tup h1 h2 => exact ⟨_, _, rfl, Or.inr ⟨s.ex.st h1.sq, q _ F H (Ex.refl F) (Ex.refl H) s (.tup h1 h2)⟩⟩
    · cases hv
  · cases hg
end
def few (n : Nat) : Bool := decide (n ≤ sizeLine)
/-! ### subscripts, slices -/
def ixG : D → D → Option D := fun a b => match a, b with
  | .lst ds, .int i => atI ds i
  | .tup ds, .int i => atI ds i
  | .str z, .int i => if z.length ≤ sizeLine then (atI z.cps.toList i).map fun c => .str ⟨#[c]⟩ else none
  | _, _ => none
section
variable {K : PySem.W.Frag} {F H : Hp}
theorem DrA.at {xs : List V} {ds : List D} {i : Int} {d : D} (h : DrA K F xs ds) (e : atI ds i = some d) : ∃ v, atI xs i = some v ∧ Dr K F v d := by
  unfold atI at e ⊢
  rw [h.length]
  cases q : ixN ds.length i with
  | none => rw [q] at e; cases e
  | some j =>
    rw [q] at e
    exact h.get e
theorem od_ix : OpD K (rIx K) ixG := by
  intro B F H σ env x y a b c Q s hx hy hg q
  unfold ixG at hg
  split at hg
  · obtain ⟨p, xs, rfl, h1, h2⟩ := hx.lst s.ex
    obtain ⟨v, e, hv⟩ := h2.at hg
    exact Or.inl ⟨p, xs, _, v, rfl, hy.int, h1, e, q _ F H (Ex.refl F) (Ex.refl H) s hv⟩
  · obtain ⟨p, xs, rfl, h1, h2⟩ := hx.tup s.ex
    obtain ⟨v, e, hv⟩ := h2.at hg
    exact Or.inr (Or.inl ⟨p, xs, _, v, rfl, hy.int, h1, e, q _ F H (Ex.refl F) (Ex.refl H) s hv⟩)
  · rename_i z i
    split at hg
    · rename_i hz
      cases e : atI z.cps.toList i with
      | none => rw [e] at hg; cases hg
      | some k =>
        rw [e] at hg
        cases hg
        exact Or.inr (Or.inr ⟨z, i, k, hx.str, hy.int, hz, e, q _ F H (Ex.refl F) (Ex.refl H) s (.str _)⟩)
    · cases hg
  · cases hg
end
def cutD {α : Type} (xs : List α) (lo hi : Option Int) : List α := (xs.drop (HT.sIx xs.length 0 lo)).take (HT.sIx xs.length xs.length hi - HT.sIx xs.length 0 lo)
def slG (a : D) (lo hi : Option Int) : Option D := match a with
  | .lst ds => some (.lst (cutD ds lo hi))
  | .tup ds => some (.tup (cutD ds lo hi))
  | .str z => if z.length ≤ sizeLine then some (.str (Txt.slice z lo hi)) else none
  | _ => none
abbrev rSlAll (K : PySem.W.Frag) : V → Option Int → Option Int → Hp → VK → Prop := fun x lo hi H Q => (rSlL K x lo hi H Q ∨ rSlZ K x lo hi H Q) ∨ C8.rSlX x lo hi H Q
theorem DrA.cut {K : PySem.W.Frag} {F : Hp} {xs : List V} {ds : List D} (h : DrA K F xs ds) (lo hi : Option Int) : DrA K F (cutV xs lo hi) (cutD ds lo hi) := by
  unfold cutV cutD
  rw [h.length]
  exact (h.drop _).take _
theorem cutV_whole {xs : List V} {lo hi : Option Int} (h : HT.sIx xs.length 0 lo = 0 ∧ HT.sIx xs.length xs.length hi = xs.length) : cutV xs lo hi = xs := by
  unfold cutV
  rw [h.1, h.2, List.drop_zero, Nat.sub_zero, List.take_length]
/-! ### xs + ys, xs * k: lists -/
def rCatL : R2 := fun x y H Q => ∃ l b xs zs, x = .ref l ∧ y = .ref b ∧ Rd H l (.lst xs) ∧ Rd H b (.lst zs) ∧ xs.length + zs.length ≤ sizeLine ∧ ∀ p, H p = none → Q (.ref p) (upd H p (.lst (xs ++ zs)))
theorem rd_lst {X : Cx} {pins : List (Addr × Obj)} {σ : L2.St} {H : Hp} {s : Shared} {l : Addr} {xs : List V} (I : Inv X pins σ H s) (h : Rd H l (.lst xs)) :
    xs.length ≤ sizeLine ∧ ∃ (its : List Value) (n : Nat), Vals xs its ∧ xs.length = its.length ∧ s.heap.get? l = some { cls := .type "list", data := .seq its.toArray n } := by
  obtain ⟨z, its, n, r, e⟩ := h.ok I.hok
  exact ⟨z, its, n, r, r.length, e⟩
theorem op_catL {X : Cx} : OpR X (binaryOp .Add) rCatL := by
  intro pins s σ H x y v u Q I rx ry h
  obtain ⟨l, b, xs, zs, rfl, rfl, hH, hB, hz, q⟩ := h
  cases rx
  cases ry
  obtain ⟨z, its, n, r, hl, e⟩ := rd_lst I hH
  obtain ⟨z2, its2, n2, r2, hl2, e2⟩ := rd_lst I hB
  refine PySem.P.add_list e e2 ?_ (by rw [List.size_toArray, List.size_toArray]; omega)
  have ea : its.toArray ++ its2.toArray = (its ++ its2).toArray := by simp
  rw [ea]
  exact ⟨.ref _, _, I.lnew (t' := s.toks) (r.append r2) (by rw [List.length_append]; omega), rfl, q _ I.fresh⟩
def catLG : D → D → Option D := fun a b => match a, b with
  | .lst xs, .lst ys => if xs.length + ys.length ≤ sizeLine then some (.lst (xs ++ ys)) else none
  | _, _ => none
theorem on_catL {K : PySem.W.Frag} : OpN K rCatL catLG := by
  intro B F H σ env x y a b c Q s hx hy hg q
  unfold catLG at hg
  split at hg
  · split at hg
    · rename_i hz
      cases hg
      obtain ⟨l, xs, rfl, h1, h2⟩ := hx.lstR s.ex
      obtain ⟨m, ys, rfl, h3, h4⟩ := hy.lstR s.ex
      refine ⟨l, m, xs, ys, rfl, rfl, h1, h3, by rw [h2.length, h4.length]; exact hz, fun p hp => ?_⟩
      obtain ⟨s2, n2⟩ := s.newN hp (Do.lst (h2.append h4))
      exact q _ F _ (Ex.refl F) (Ex.new hp) s2 n2
    · cases hg
  · cases hg
theorem DrA.rep {K : PySem.W.Frag} {F : Hp} {xs : List V} {ds : List D} (h : DrA K F xs ds) : ∀ k : Nat, DrA K F (List.replicate k xs).flatten (List.replicate k ds).flatten
  | 0 => .nil
  | k + 1 => by
    rw [List.replicate_succ, List.replicate_succ, List.flatten_cons, List.flatten_cons]
    exact h.append (DrA.rep h k)
/-! ### sep.join(texts) -/
def strsOf : List D → Option (List Str)
  | [] => some []
  | .str x :: ds => (strsOf ds).map (x :: ·)
  | _ :: _ => none
theorem strsOf_dr {K : PySem.W.Frag} {F : Hp} : ∀ {xs : List V} {ds : List D} {bs : List Str}, DrA K F xs ds → strsOf ds = some bs → xs = bs.map V.str
  | _, _, bs, .nil, h => by cases h; rfl
  | _, _, bs, .cons (d := d) (ds := ds) h t, hb => by
    unfold strsOf at hb
    split at hb
    · rename_i he; cases he
    · rename_i b ds' he
      cases he
      cases h
      cases e : strsOf ds with
      | none => rw [e] at hb; cases hb
      | some bs' =>
        rw [e] at hb
        cases hb
        rw [strsOf_dr t e]
        rfl
    · cases hb
def joinG : D → D → Option D := fun a b => match a, b with
  | .str a, .lst ds => (strsOf ds).bind fun ys => if (ys.map (·.length)).sum + ys.length * a.length ≤ 16777216 then some (.str (Txt.join a ys)) else none
  | .str a, .tup ds => (strsOf ds).bind fun ys => if (ys.map (·.length)).sum + ys.length * a.length ≤ 16777216 then some (.str (Txt.join a ys)) else none
  | _, _ => none
theorem u65 {k : Nat} {A : Around} (r : Room k A) : A.units + 65 < cLine := by have := r.un; omega
/-! ### a + b -/
def catTG : D → D → Option D := fun a b => match a, b with
  | .tup xs, .tup ys => if xs.length + ys.length ≤ sizeLine then some (.tup (xs ++ ys)) else none
  | _, _ => none
theorem od_catT {K : PySem.W.Frag} : OpD K (rCatZ K) catTG := by
  intro B F H σ env x y a b c Q s hx hy hg q
  unfold catTG at hg
  split at hg
  · split at hg
    · rename_i hz
      cases hg
      rcases hx with hx | ⟨_, _, _, _, hx⟩
      · cases hx with
        | tup h1 h2 =>
          rcases hy with hy | ⟨_, _, _, _, hy⟩
          · cases hy with
            | tup h3 h4 =>
              refine ⟨_, _, _, _, rfl, rfl, s.ex.st h1.sq, s.ex.st h3.sq, by rw [h2.length, h4.length]; exact hz, fun e => ?_, fun _ e => ?_, fun _ _ p o hp ho => ?_⟩
              · subst e
                cases h2
                exact q _ F H (Ex.refl F) (Ex.refl H) s (.tup h3 h4)
              · subst e
                cases h4
                exact q _ F H (Ex.refl F) (Ex.refl H) s (.tup h1 (by rw [List.append_nil]; exact h2))
              · obtain ⟨e1, s1, d1⟩ := s.newT hp ho (h2.append h4)
                exact q _ _ _ e1 (Ex.new hp) s1 d1
          · cases hy
      · cases hx
    · cases hg
  · cases hg
def addA : D → D → Option D := orG addG (orG catSG (orG catTG catLG))
abbrev rAddA (K : PySem.W.Frag) : R2 := fun x y H Q => (rI0 fun i j => .int (i + j)) x y H Q ∨ ((∃ i j, x = .str i ∧ y = .str j ∧ i.length + j.length ≤ sizeLine ∧ Q (.str (i ++ j)) H) ∨ (rCatZ K x y H Q ∨ rCatL x y H Q))
theorem op_addA {X : Cx} {K : PySem.W.Frag} (hK : X.K = K := by rfl) : OpR X (binaryOp .Add) (rAddA K) := by
  subst hK
  exact op_add.or (op_add_str.or (op_catZ.or op_catL))
theorem od_addA {K : PySem.W.Frag} : OpD K (rAddA K) addA := OpD.or od_add (OpD.or od_catS (OpD.or od_catT on_catL.d))

/-! ### x in y -/
def flat : D → Bool
  | .non => true
  | .bl _ => true
  | .int _ => true
  | .str _ => true
  | _ => false
def eqF : D → D → Bool
  | .non, .non => true
  | .bl a, .bl b => a == b
  | .bl a, .int b => (if a then 1 else 0) == b
  | .int a, .bl b => a == (if b then 1 else 0)
  | .int a, .int b => a == b
  | .str a, .str b => a == b
  | _, _ => false
def inF (d : D) (ds : List D) : Option Bool := if flat d && ds.all flat then some (ds.any fun y => eqF y d) else none
def inP (d : D) (ds : List D) : Option Bool := if shp d && shp (.lst ds) then some ((pds ds).any fun z => PyData.eqv z (pd d)) else none
def inL (d : D) (ds : List D) : Option Bool := match inF d ds with
  | some b => some b
  | none => inP d ds
def inSeqG : D → D → Option D := fun a b => match b with
  | .lst ds => (inL a ds).map .bl
  | .tup ds => (inL a ds).map .bl
  | _ => none
def notInSeqG : D → D → Option D := fun a b => match b with
  | .lst ds => (inL a ds).map fun k => .bl (!k)
  | .tup ds => (inL a ds).map fun k => .bl (!k)
  | _ => none
section
variable {K : PySem.W.Frag} {F H : Hp}
theorem Dr.flat {v : V} {d : D} (h : Dr K F v d) (hf : DM.flat d = true) : flatV v = true ∧ ∀ {w : V} {e : D}, Dr K F w e → DM.flat e = true → eqV w v = eqF e d := by
  cases h with
  | non => exact ⟨rfl, fun {w e} h2 f2 => by cases h2 <;> first | rfl | cases f2⟩
  | bl b => exact ⟨rfl, fun {w e} h2 f2 => by cases h2 <;> first | rfl | cases f2⟩
  | int b => exact ⟨rfl, fun {w e} h2 f2 => by cases h2 <;> first | rfl | cases f2⟩
  | str b => exact ⟨rfl, fun {w e} h2 f2 => by cases h2 <;> first | rfl | cases f2⟩
  | lst _ _ => cases hf
  | tup _ _ => cases hf
  | dct _ _ _ => cases hf
  | obj _ _ _ _ => cases hf
  | ty _ => cases hf
  | exc _ _ _ _ _ => cases hf
theorem DrA.flat : ∀ {vs : List V} {ds : List D}, DrA K F vs ds → ds.all DM.flat = true → vs.all flatV = true ∧ ∀ {v : V} {d : D}, Dr K F v d → DM.flat d = true → inV v vs = ds.any fun y => eqF y d
  | _, _, .nil, _ => ⟨rfl, fun _ _ => rfl⟩
  | _, _, .cons h t, ha => by
    rw [List.all_cons, Bool.and_eq_true] at ha
    obtain ⟨h1, h2⟩ := DrA.flat t ha.2
    refine ⟨by rw [List.all_cons, (h.flat ha.1).1, h1]; rfl, fun {v d} hv hf => ?_⟩
    unfold inV
    rw [List.any_cons, List.any_cons, (hv.flat hf).2 h ha.1]
    have := h2 hv hf
    unfold inV at this
    rw [this]
theorem Dh.dr_flat {v : V} {d : D} (h : Dh K F H v d) (hf : DM.flat d = true) : Dr K F v d := by
  rcases h with h | ⟨p, o, _, _, h⟩
  · exact h
  · cases h <;> cases hf
end
def rInAll (K : PySem.W.Frag) : R2 := fun x y H Q => ∃ (p : Addr) (d : PyData) (ds : List PyData), y = .ref p ∧ Dp K H x d ∧ (Dp K H y (.list ds) ∨ Dp K H y (.tuple ds)) ∧ SeqAt.shaped d = true ∧ PyData.canLayAll0 ds = true ∧ Q (.bl (ds.any fun z => PyData.eqv z d)) H
def rNotInAll (K : PySem.W.Frag) : R2 := fun x y H Q => ∃ (p : Addr) (d : PyData) (ds : List PyData), y = .ref p ∧ Dp K H x d ∧ (Dp K H y (.list ds) ∨ Dp K H y (.tuple ds)) ∧ SeqAt.shaped d = true ∧ PyData.canLayAll0 ds = true ∧ Q (.bl (!ds.any fun z => PyData.eqv z d)) H
theorem op_inAll {X : Cx} (hu : X.A.units + 65 < cLine) : OpR X (compareOp .In) (rInAll X.K) := by
  intro pins s σ H x y v u Q I rx ry h
  obtain ⟨p, d, ds, rfl, hd, he, sd, se, q⟩ := h
  obtain ⟨as, r1⟩ := Dp.reads I d x v hd rx
  rcases he with he | he
  · obtain ⟨bs, r2⟩ := Dp.reads I (.list ds) _ u he ry
    exact SeqAt.in_list_reads r2 r1 se (SeqAt.canLay_of_shaped sd) (room_in_shaped sd hu) ⟨.bl _, H, I, rfl, q⟩
  · obtain ⟨bs, r2⟩ := Dp.reads I (.tuple ds) _ u he ry
    exact SeqAt.in_tuple_reads r2 r1 se (SeqAt.canLay_of_shaped sd) (room_in_shaped sd hu) ⟨.bl _, H, I, rfl, q⟩
theorem op_notInAll {X : Cx} (hu : X.A.units + 65 < cLine) : OpR X (compareOp .NotIn) (rNotInAll X.K) := by
  intro pins s σ H x y v u Q I rx ry h
  obtain ⟨p, d, ds, rfl, hd, he, sd, se, q⟩ := h
  obtain ⟨as, r1⟩ := Dp.reads I d x v hd rx
  rcases he with he | he
  · obtain ⟨bs, r2⟩ := Dp.reads I (.list ds) _ u he ry
    exact SeqAt.notIn_list_reads r2 r1 se (SeqAt.canLay_of_shaped sd) (room_in_shaped sd hu) ⟨.bl _, H, I, rfl, q⟩
  · obtain ⟨bs, r2⟩ := Dp.reads I (.tuple ds) _ u he ry
    exact SeqAt.notIn_tuple_reads r2 r1 se (SeqAt.canLay_of_shaped sd) (room_in_shaped sd hu) ⟨.bl _, H, I, rfl, q⟩
section
variable {K : PySem.W.Frag}
theorem in_core {B : Bs} {F H : Hp} {σ : L2.St} {env : Fm} {x : V} {a : D} {ds : List D} {p : Addr} {ys : List V} {k : Bool} {Q : Bool → Prop} (s : SR K B F H σ env) (hx : Dh K F H x a) (hs : SqL K H p ys ∨ SqT K H p ys) (hA : DrA K F ys ds) (hk : inL a ds = some k) :
    (flatV x = true ∧ ys.all flatV = true ∧ inV x ys = k) ∨ (∃ (d : PyData) (es : List PyData), Dp K H x d ∧ (Dp K H (.ref p) (.list es) ∨ Dp K H (.ref p) (.tuple es)) ∧ SeqAt.shaped d = true ∧ PyData.canLayAll0 es = true ∧ (es.any fun z => PyData.eqv z d) = k) := by
  unfold inL at hk
  split at hk
  · rename_i b hb
    cases hk
    unfold inF at hb
    split at hb
    · rename_i hf
      cases hb
      rw [Bool.and_eq_true] at hf
      have hd := hx.dr_flat hf.1
      obtain ⟨h1, h2⟩ := hA.flat hf.2
      exact Or.inl ⟨(hd.flat hf.1).1, h1, h2 hd hf.1⟩
    · cases hb
  · unfold inP at hk
    split at hk
    · rename_i hf
      cases hk
      rw [Bool.and_eq_true] at hf
      have hl : PyData.canLayAll0 (pds ds) = true := by
        have := SeqAt.canLay_of_shaped hf.2
        rw [pd] at this
        simpa only [PyData.canLay0] using this
      have hB : Dp K H (.ref p) (.list (pds ds)) ∨ Dp K H (.ref p) (.tuple (pds ds)) := by
        have hA2 : DpAll K H ys (pds ds) := by
          have hr : Rd (upd H p (.lst ys)) p (.lst ys) := Or.inl upd_same
          clear hf hx hs
          have go : ∀ {ys : List V} {ds : List D}, DrA K F ys ds → PyData.canLayAll0 (pds ds) = true → DpAll K H ys (pds ds) := by
            intro ys ds h
            induction h using DrA.rec (motive_1 := fun _ _ _ => True) with
            | nil => intro _; rw [pds]; exact .nil
            | cons h1 h2 _ ih =>
              intro hc
              rw [pds] at hc ⊢
              rw [PyData.canLayAll0, Bool.and_eq_true] at hc
              exact .cons ((h1.mono s.ex).pd hc.1) (ih hc.2)
            | _ => trivial
          exact go hA hl
        rcases hs with hs | hs
        · exact Or.inl (.lst hs hA2)
        · exact Or.inr (.tup hs hA2)
      exact Or.inr ⟨pd a, pds ds, (hx.all s.ex).pd (SeqAt.canLay_of_shaped hf.1), hB, hf.1, hl, rfl⟩
    · cases hk
abbrev rInA (K : PySem.W.Frag) : R2 := fun x y H Q => (∃ (c : Nat) (z : Str), x = .str ⟨#[c]⟩ ∧ y = .str z ∧ Q (.bl (decide (c ∈ z.cps.toList))) H) ∨ (rIn K false x y H Q ∨ rInAll K x y H Q)
abbrev rNotInA (K : PySem.W.Frag) : R2 := fun x y H Q => (∃ (c : Nat) (z : Str), x = .str ⟨#[c]⟩ ∧ y = .str z ∧ Q (.bl (!decide (c ∈ z.cps.toList))) H) ∨ (rIn K true x y H Q ∨ rNotInAll K x y H Q)
theorem op_inA {X : Cx} (hu : X.A.units + 65 < cLine) (hK : X.K = K := by rfl) : OpR X (compareOp .In) (rInA K) := by
  subst hK
  exact op_in_sign.or (op_in_seq.or (op_inAll hu))
theorem op_notInA {X : Cx} (hu : X.A.units + 65 < cLine) (hK : X.K = K := by rfl) : OpR X (compareOp .NotIn) (rNotInA K) := by
  subst hK
  exact op_notIn_sign.or (op_notIn_seq.or (op_notInAll hu))
theorem od_inSeq : OpD K (fun x y H Q => rIn K false x y H Q ∨ rInAll K x y H Q) inSeqG := by
  intro B F H σ env x y a b c Q s hx hy hg q
  have key : ∀ (ds : List D) (p : Addr) (ys : List V), y = .ref p → (SqL K H p ys ∨ SqT K H p ys) → DrA K F ys ds → (inL a ds).map D.bl = some c → rIn K false x y H Q ∨ rInAll K x y H Q := by
    intro ds p ys hy0 hs hA hc
    cases hk : inL a ds with
    | none => rw [hk] at hc; cases hc
    | some k =>
      rw [hk] at hc
      cases hc
      have qk := q _ F H (Ex.refl F) (Ex.refl H) s (.bl k)
      rcases in_core (Q := fun _ => True) s hx hs hA hk with ⟨h1, h2, h3⟩ | ⟨d, es, h1, h2, h3, h4, h5⟩
      · exact Or.inl ⟨p, ys, hy0, hs, h1, h2, by rw [h3]; exact qk⟩
      · exact Or.inr ⟨p, d, es, hy0, h1, by rw [hy0]; exact h2, h3, h4, by rw [h5]; exact qk⟩
  unfold inSeqG at hg
  split at hg
  · obtain ⟨p, ys, hy0, h1, h2⟩ := hy.lst s.ex
    exact key _ p ys hy0 (Or.inl h1) h2 hg
  · obtain ⟨p, ys, hy0, h1, h2⟩ := hy.tup s.ex
    exact key _ p ys hy0 (Or.inr h1) h2 hg
  · cases hg
theorem od_notInSeq : OpD K (fun x y H Q => rIn K true x y H Q ∨ rNotInAll K x y H Q) notInSeqG := by
  intro B F H σ env x y a b c Q s hx hy hg q
  have key : ∀ (ds : List D) (p : Addr) (ys : List V), y = .ref p → (SqL K H p ys ∨ SqT K H p ys) → DrA K F ys ds → (inL a ds).map (fun k => D.bl (!k)) = some c → rIn K true x y H Q ∨ rNotInAll K x y H Q := by
    intro ds p ys hy0 hs hA hc
    cases hk : inL a ds with
    | none => rw [hk] at hc; cases hc
    | some k =>
      rw [hk] at hc
      cases hc
      have qk := q _ F H (Ex.refl F) (Ex.refl H) s (.bl (!k))
      rcases in_core (Q := fun _ => True) s hx hs hA hk with ⟨h1, h2, h3⟩ | ⟨d, es, h1, h2, h3, h4, h5⟩
      · exact Or.inl ⟨p, ys, hy0, hs, h1, h2, by rw [h3]; exact qk⟩
      · exact Or.inr ⟨p, d, es, hy0, h1, by rw [hy0]; exact h2, h3, h4, by rw [h5]; exact qk⟩
  unfold notInSeqG at hg
  split at hg
  · obtain ⟨p, ys, hy0, h1, h2⟩ := hy.lst s.ex
    exact key _ p ys hy0 (Or.inl h1) h2 hg
  · obtain ⟨p, ys, hy0, h1, h2⟩ := hy.tup s.ex
    exact key _ p ys hy0 (Or.inr h1) h2 hg
  · cases hg
def inA : D → D → Option D := orG inSG inSeqG
def notInA : D → D → Option D := orG notInSG notInSeqG
theorem od_inA : OpD K (rInA K) inA := OpD.or od_inS od_inSeq
theorem od_notInA : OpD K (rNotInA K) notInA := OpD.or od_notInS od_notInSeq
end

/-- what may be shown: its text is short, it is not deep -/
def shwB (d : PyData) : Bool := d.showable && (!d.hasDict && (decide (d.depth ≤ 60) && decide (d.shown.length ≤ sizeLine)))
def rRepr (K : PySem.W.Frag) : List V → Hp → VK → Prop := fun xs H Q => ∃ v d, xs = [v] ∧ Dp K H v d ∧ shwB d = true ∧ Q (.str d.shown) H
theorem cr_repr {X : Cx} {K : PySem.W.Frag} (hG : Quiet X.A) (hu : X.A.units + 64 < cLine) (hK : X.K = K := by rfl) : CallR X (.builtin "repr") (rRepr K) := by
  subst hK
  intro pins s σ H xs us Q I r h
  obtain ⟨v, d, rfl, hd, hs, q⟩ := h
  unfold shwB at hs
  rw [Bool.and_eq_true, Bool.and_eq_true, Bool.and_eq_true] at hs
  obtain ⟨s1, s2, s3, s4⟩ := hs
  have s2 : d.hasDict = false := by simpa using s2
  have s3 := of_decide_eq_true s3
  have s4 := of_decide_eq_true s4
  obtain ⟨u, rfl, ru⟩ := vals1 r
  obtain ⟨as, rd⟩ := Dp.reads I d v u hd ru
  cases hdis : isDisplay d with
  | true =>
    obtain ⟨a, rfl⟩ := isRef_of_reads rd hdis
    exact repr_of_reads' rd s1 (PyData.noDict_hsm s2) hG (by omega) (fun _ _ e => e) (fun h' u tk hk => ⟨.str _, H, I.kept (t' := tk) hk, ⟨_, rfl⟩, q⟩) s4
  | false =>
    cases rd with
    | none => exact PySem.P.repr_of_none ⟨.str _, H, I.tok _, ⟨_, rfl⟩, q⟩
    | bool b => exact PySem.P.repr_of_bool ⟨.str _, H, I.tok _, ⟨_, rfl⟩, q⟩
    | int i t => exact PySem.P.repr_of_int (by simpa [PyData.showable] using s1) ⟨.str _, H, I.tok _, ⟨_, rfl⟩, q⟩
    | str x t => exact PySem.P.repr_of_str ⟨.str _, H, I.tok _, ⟨_, rfl⟩, q⟩ s4
    | list _ _ _ _ => cases hdis
    | tuple _ _ _ _ => cases hdis
    | dict _ _ _ _ _ => simp [PyData.hasDict] at s2
def reprG : List D → Option D
  | [d] => if (pd d).canLay0 && shwB (pd d) then some (.str (pd d).shown) else none
  | _ => none
theorem cd_repr {K : PySem.W.Frag} : CallD K (rRepr K) reprG := by
  intro B F H σ env xs as c Q s hx hg q
  unfold reprG at hg
  split at hg
  · rename_i d
    split at hg
    · rename_i hc
      cases hg
      rw [Bool.and_eq_true] at hc
      obtain ⟨v, rfl, hv⟩ := hx.one
      exact ⟨v, pd d, rfl, (hv.all s.ex).pd hc.1, hc.2, q _ F H (Ex.refl F) (Ex.refl H) s (.str _)⟩
    · cases hg
  · cases hg

end DM

/-! What code does, told by plain functions: expressions. -/
namespace DM
open PySem PySem.Spec PyProof.Rows L2 DL

structure Exn where
  C : Str
  fs : List (Str × D)
/-- what comes of a piece of code: a value; an exception (b: what stands then); nothing is told -/
inductive R (β α : Type) where
  | ok (a : α) | ex (x : Exn) (b : β) | no
namespace R
variable {β α γ : Type}
def bind (m : R β α) (k : α → R β γ) : R β γ := match m with
  | .ok a => k a
  | .ex x b => .ex x b
  | .no => .no
/-- an own def's call -/
def call (m : R Unit α) (xb : β) (k : α → R β γ) : R β γ := match m with
  | .ok a => k a
  | .ex x _ => .ex x xb
  | .no => .no
/-- .. that hands on what it changed -/
def call1 (m : R D (D × D)) (xf : D → β) (k : D → D → R β γ) : R β γ := match m with
  | .ok (a, w) => k a w
  | .ex x w => .ex x (xf w)
  | .no => .no
/-- .. where nothing is known of it behind an error -/
def call1e (m : R Unit (D × D)) (xb : β) (k : D → D → R β γ) : R β γ := match m with
  | .ok (a, w) => k a w
  | .ex x _ => .ex x xb
  | .no => .no
/-- an object made: what __init__ leaves -/
def make (m : R Unit (D × D)) (xb : β) (k : D → R β γ) : R β γ := match m with
  | .ok (.non, o) => k o
  | .ok _ => .no
  | .ex x _ => .ex x xb
  | .no => .no
def lft (o : Option α) (k : α → R β γ) : R β γ := match o with
  | some a => k a
  | none => .no
def asB (d : D) (k : Bool → R β γ) : R β γ := match d with
  | .bl b => k b
  | _ => .no
def asI (d : D) (k : Int → R β γ) : R β γ := match d with
  | .int i => k i
  | _ => .no
def asL (d : D) (k : List D → R β γ) : R β γ := match d with
  | .lst ds => k ds
  | _ => .no
def asT (d : D) (k : List D → R β γ) : R β γ := match d with
  | .tup ds => k ds
  | _ => .no
/-- a list or a tuple -/
def asQ (d : D) (k : List D → R β γ) : R β γ := match d with
  | .tup ds => k ds
  | .lst ds => k ds
  | _ => .no
def few (ds : List D) (k : List D → R β γ) : R β γ := if DM.few ds.length then k ds else .no
end R
def XR (K : PySem.W.Frag) (F : Hp) (x : Exn) (c : Value) (dd : Option Addr) : Prop :=
  ∃ c' d fs, c = .ref c' ∧ Cl K x.C c' ∧ dd = some d ∧ F d = some (.xd fs) ∧ fs.map (·.1) = x.fs.map (·.1) ∧ DrA K F (fs.map (·.2)) (x.fs.map (·.2))
abbrev XE := L2.St → XK
abbrev TB (b : Type) := L2.St → Hp → (b → Hp → Prop) → Prop

/-! ### readings at large -/
def teC (X : Cx) (e : Expr) : TE := fun σ H Q => ∃ t, PE X e t ∧ t σ H Q
theorem pe_C {X : Cx} {e : Expr} : PE X e (teC X e) := ⟨fun pins s σ H Q I ⟨_, h, ht⟩ => h.run pins s σ H Q I ht⟩
def ttC (X : Cx) (e : Expr) : TT := fun σ H Q => ∃ t, PT X e t ∧ t σ H Q
theorem pt_C {X : Cx} {e : Expr} : PT X e (ttC X e) := ⟨fun pins s σ H Q I ⟨_, h, ht⟩ => h.run pins s σ H Q I ht⟩
def twC (X : Cx) (e : Expr) : TT := fun σ H Q => ∃ t, PW X e t ∧ t σ H Q
theorem pw_C {X : Cx} {e : Expr} : PW X e (twC X e) := ⟨fun whole pins s σ H Q I ⟨_, h, ht⟩ => h.run whole pins s σ H Q I ht⟩
def taC (X : Cx) (es : List Expr) : TA := fun σ H Q => ∃ t, PA X es t ∧ t σ H Q
theorem pa_C {X : Cx} {es : List Expr} : PA X es (taC X es) := ⟨fun pos pins s σ H Q I ⟨_, h, ht⟩ => h.run pos pins s σ H Q I ht⟩
def toC (X : Cx) (e : Option Expr) : TO := fun σ H Q => ∃ t, PO X e t ∧ t σ H Q
theorem po_C {X : Cx} {e : Option Expr} : PO X e (toC X e) := ⟨fun pins s σ H Q I ⟨_, h, ht⟩ => h.run pins s σ H Q I ht⟩

/-- what is wished of a mirror's outcome, as far as errors go -/
structure Gx (K : PySem.W.Frag) (B : Bs) (E : XE) {β γ : Type} (F : Hp) (σ : L2.St) (xF : Fm) (xb : β) (G : R β γ → Prop) : Prop where
  no : ¬ G .no
  ex : ∀ x, G (.ex x xb) → ∀ c dd F' H', Ex F F' → SR K B F' H' σ xF → XR K F' x c dd → E σ c dd H'
theorem Gx.mono {K : PySem.W.Frag} {B : Bs} {E : XE} {β γ : Type} {F F1 : Hp} {σ : L2.St} {xF : Fm} {xb : β} {G : R β γ → Prop} (e : Ex F F1) (h : Gx K B E F σ xF xb G) : Gx K B E F1 σ xF xb G :=
  ⟨h.no, fun x hx c dd F' H' e1 => h.ex x hx c dd F' H' (e.trans e1)⟩
section
variable (K : PySem.W.Frag) (E : XE) {β γ b a : Type} (xF : Fm) (xb : β) (env : Fm)
/-- a piece of code with the reading t is told by c (rel: how what it gives is read); the frame stays -/
def AJ (t : TB b) (rel : Bs → Hp → Hp → L2.St → b → a → Prop) (c : (a → R β γ) → R β γ) : Prop :=
  ∀ B F H σ Q k (G : R β γ → Prop), SR K B F H σ env → Wk env xF → Gx K B E F σ xF xb G →
    (∀ d v F' H', G (k d) → Ex F F' → Ex H H' → SR K B F' H' σ env → rel B F' H' σ v d → Q v H') → G (c k) → t σ H Q
end
section
variable (X : Cx) (K : PySem.W.Frag) (E : XE) {β γ : Type} (xF : Fm) (xb : β) (env : Fm)
/-- data that stand still -/
def AE (e : Expr) (c : (D → R β γ) → R β γ) : Prop := X.K = K ∧ AJ K E xF xb env (teC X e) (fun _ F _ _ v d => Dr K F v d) c
/-- data that are read now -/
def AL (e : Expr) (c : (D → R β γ) → R β γ) : Prop := X.K = K ∧ AJ K E xF xb env (teC X e) (fun _ F H _ v d => Dh K F H v d) c
/-- a new thing -/
def AN (fs : List Str) (e : Expr) (c : (D → R β γ) → R β γ) : Prop := X.K = K ∧ AJ K E xF xb env (teC X e) (fun B F H σ v d => rN K B F H σ env v d fs) c
def AT (e : Expr) (c : (Bool → R β γ) → R β γ) : Prop := X.K = K ∧ AJ K E xF xb env (ttC X e) (fun _ _ _ _ v d => v = d) c
def AW (e : Expr) (c : (Bool → R β γ) → R β γ) : Prop := X.K = K ∧ AJ K E xF xb env (twC X e) (fun _ _ _ _ v d => v = d) c
def AA (es : List Expr) (c : (List D → R β γ) → R β γ) : Prop := X.K = K ∧ AJ K E xF xb env (taC X es) (fun _ F _ _ vs ds => DrA K F vs ds) c
def AAL (es : List Expr) (c : (List D → R β γ) → R β γ) : Prop := X.K = K ∧ AJ K E xF xb env (taC X es) (fun _ F H _ vs ds => DhA K F H vs ds) c
def AO (e : Option Expr) (c : (Option Int → R β γ) → R β γ) : Prop := X.K = K ∧ AJ K E xF xb env (toC X e) (fun _ _ _ _ v d => v = d) c
end
section
variable {X : Cx} {K : PySem.W.Frag} {E : XE} {β γ : Type} {xF : Fm} {xb : β} {env : Fm} {e a b c : Expr} {es : List Expr} {pos : Pos} {c1 c2 c3 : (D → R β γ) → R β γ}
theorem DhA.mono {F H F' H' : Hp} (e : Ex F F') (e2 : Ex H H') : ∀ {vs : List V} {ds : List D}, DhA K F H vs ds → DhA K F' H' vs ds
  | [], [], _ => trivial
  | _ :: _, _ :: _, h => ⟨h.1.mono e e2, DhA.mono e e2 h.2⟩
  | [], _ :: _, h => h.elim
  | _ :: _, [], h => h.elim
theorem AE.al (h : AE X K E xF xb env e c1) : AL X K E xF xb env e c1 :=
  ⟨h.1, fun B F H σ Q k G s w g hk hG => h.2 B F H σ Q k G s w g (fun d v F' H' h1 e1 e2 s1 d1 => hk d v F' H' h1 e1 e2 s1 (.inl d1)) hG⟩
theorem AN.ae {fs : List Str} (h : AN X K E xF xb env fs e c1) : AE X K E xF xb env e c1 :=
  ⟨h.1, fun B F H σ Q k G s w g hk hG => h.2 B F H σ Q k G s w g (fun d v F' H' h1 e1 e2 s1 d1 => by
    obtain ⟨F2, e3, d2, s2⟩ := s1.frzN d1
    exact hk d v F2 H' h1 (e1.trans e3) e2 s2 d2) hG⟩

/-! ### names, constants -/
/-- a name whose slot's data stand still -/
theorem av (i : Nat) {x : Str} {d : D} (hi : fget env i = .fz d := by rfl) (hK : X.K = K := by rfl) (hN : X.N[i]? = some x := by rfl) (hv : Vis X.env.scope x := by first | exact Or.inl rfl | exact Or.inr (Or.inl rfl) | exact Or.inr (Or.inr rfl)) (hd : (x == ("__debug__" : Str)) = false := by decide)
    (hcd : (x == ("__classdict__" : Str)) = false := by decide) : AE X K E xF xb env (.Name x pos) (fun (k : D → R β γ) => k d) :=
  ⟨hK, fun B F H σ Q k G s w g hk hG => by
    obtain ⟨v, h1, h2⟩ := s.fz i d hi
    exact ⟨_, pe_var hN hv hd hcd, v, h1, hk d v F H hG (Ex.refl F) (Ex.refl H) s h2⟩⟩
/-- a name that is read: its slot's own list or dict -/
theorem al (i : Nat) {x : Str} {d : D} {t : Option Nat} (hi : fget env i = .ow t d [] := by rfl) (hK : X.K = K := by rfl) (hN : X.N[i]? = some x := by rfl) (hv : Vis X.env.scope x := by first | exact Or.inl rfl | exact Or.inr (Or.inl rfl) | exact Or.inr (Or.inr rfl)) (hd : (x == ("__debug__" : Str)) = false := by decide)
    (hcd : (x == ("__classdict__" : Str)) = false := by decide) : AL X K E xF xb env (.Name x pos) (fun (k : D → R β γ) => k d) :=
  ⟨hK, fun B F H σ Q k G s w g hk hG => by
    obtain ⟨ft, hf⟩ := s.own
    obtain ⟨p, h1, h2, _⟩ := hf.ow i t d [] hi
    obtain ⟨_, o, h3, h4⟩ := h2.plain
    exact ⟨_, pe_var hN hv hd hcd, _, h1, hk d _ F H hG (Ex.refl F) (Ex.refl H) s (.inr ⟨p, _, rfl, h3, h4⟩)⟩⟩
theorem a_cst {v : V} {d : D} (hp : PE X e (tC v)) (h : ∀ F, Dr K F v d) (hK : X.K = K) : AE X K E xF xb env e (fun (k : D → R β γ) => k d) :=
  ⟨hK, fun B F H σ Q k G s w g hk hG => ⟨_, hp, hk d v F H hG (Ex.refl F) (Ex.refl H) s (h F)⟩⟩
theorem a_int {i j} (hK : X.K = K := by rfl) : AE X K E xF xb env (.Constant (.int i) j pos) (fun (k : D → R β γ) => k (.int i)) := a_cst pe_int (fun _ => .int i) hK
theorem a_bl {b j} (hK : X.K = K := by rfl) : AE X K E xF xb env (.Constant (.bool b) j pos) (fun (k : D → R β γ) => k (.bl b)) := a_cst pe_bl (fun _ => .bl b) hK
theorem a_non {j} (hK : X.K = K := by rfl) : AE X K E xF xb env (.Constant .none j pos) (fun (k : D → R β γ) => k .non) := a_cst pe_non (fun _ => .non) hK
theorem a_str {x j} (hK : X.K = K := by rfl) : AE X K E xF xb env (.Constant (.str x) j pos) (fun (k : D → R β γ) => k (.str x)) := a_cst pe_str (fun _ => .str x) hK
/-- a constant of the module: how it lies -/
structure GlobD (K : PySem.W.Frag) (mg : Str → Option Value) (x : Str) (d : D) : Prop where
  ex : ∃ v u, mg x = some u ∧ RelV v u ∧ ∀ F, Dr K F v d
theorem a_glob {x : Str} {d : D} (g : GlobD K X.mg x d) (hg : Gl X x) (hK : X.K = K := by rfl) (hd : (x == ("__debug__" : Str)) = false := by decide) : AE X K E xF xb env (.Name x pos) (fun (k : D → R β γ) => k d) := by
  obtain ⟨v, u, hm, r, hdr⟩ := g.ex
  exact a_cst (pe_glob hg hm r hd) hdr hK
theorem a_bty {x : Str} {T : String} (hv : bootBuiltins x = some (.type T)) (hm : X.mg x = none) (hg : Gl X x) (hK : X.K = K := by rfl) (hn : x ≠ "__name__" := by decide) (hd : (x == ("__debug__" : Str)) = false := by decide) : AE X K E xF xb env (.Name x pos) (fun (k : D → R β γ) => k (.ty T)) :=
  a_cst (v := .ty T) (pe_bltn hg hm hv rfl hn hd) (fun _ => .ty T) hK

/-! ### operators -/
theorem aj_op {r : R2} {g : D → D → Option D} (hg : OpD K r g) (ha : AL X K E xF xb env a c1) (hb : AL X K E xF xb env b c2) :
    AJ K E xF xb env (tOp r (teC X a) (teC X b)) (fun _ F _ _ v d => Dr K F v d) (fun (k : D → R β γ) => c1 fun x => c2 fun y => R.lft (g x y) k) := fun B F H σ Q k G s w gx hk hG =>
  ha.2 B F H σ _ _ G s w gx (fun x v F1 H1 h1 e1 eh1 s1 d1 => hb.2 B F1 H1 σ _ _ G s1 w (gx.mono e1) (fun y u F2 H2 h2 e2 eh2 s2 d2 => by
    cases hc : g x y with
    | none => rw [hc] at h2; exact (gx.no h2).elim
    | some z =>
      rw [hc] at h2
      exact hg B F2 H2 σ env v u x y z Q s2 (d1.mono e2 eh2) d2 hc fun v' F' H' e' eh' s' d' => hk z v' F' H' h2 (e1.trans (e2.trans e')) (eh1.trans (eh2.trans eh')) s' d') h1) hG
theorem aj_opN {r : R2} {g : D → D → Option D} (hg : OpN K r g) (ha : AL X K E xF xb env a c1) (hb : AL X K E xF xb env b c2) :
    AJ K E xF xb env (tOp r (teC X a) (teC X b)) (fun B F H σ v d => rN K B F H σ env v d []) (fun (k : D → R β γ) => c1 fun x => c2 fun y => R.lft (g x y) k) := fun B F H σ Q k G s w gx hk hG =>
  ha.2 B F H σ _ _ G s w gx (fun x v F1 H1 h1 e1 eh1 s1 d1 => hb.2 B F1 H1 σ _ _ G s1 w (gx.mono e1) (fun y u F2 H2 h2 e2 eh2 s2 d2 => by
    cases hc : g x y with
    | none => rw [hc] at h2; exact (gx.no h2).elim
    | some z =>
      rw [hc] at h2
      exact hg B F2 H2 σ env v u x y z Q s2 (d1.mono e2 eh2) d2 hc fun v' F' H' e' eh' s' d' => hk z v' F' H' h2 (e1.trans (e2.trans e')) (eh1.trans (eh2.trans eh')) s' d') h1) hG
theorem a_op {op : Operator} {r : R2} {g : D → D → Option D} (ho : OpR X (binaryOp op) r) (hg : OpD K r g) (ha : AL X K E xF xb env a c1) (hb : AL X K E xF xb env b c2) : AE X K E xF xb env (.BinOp a op b pos) (fun (k : D → R β γ) => c1 fun x => c2 fun y => R.lft (g x y) k) :=
  ⟨ha.1, fun B F H σ Q k G s w gx hk hG => ⟨_, pe_op ho pe_C pe_C, aj_op hg ha hb B F H σ Q k G s w gx hk hG⟩⟩
theorem a_opN {op : Operator} {r : R2} {g : D → D → Option D} (ho : OpR X (binaryOp op) r) (hg : OpN K r g) (ha : AL X K E xF xb env a c1) (hb : AL X K E xF xb env b c2) : AN X K E xF xb env [] (.BinOp a op b pos) (fun (k : D → R β γ) => c1 fun x => c2 fun y => R.lft (g x y) k) :=
  ⟨ha.1, fun B F H σ Q k G s w gx hk hG => ⟨_, pe_op ho pe_C pe_C, aj_opN hg ha hb B F H σ Q k G s w gx hk hG⟩⟩
theorem a_cmp {op : CmpOp} {r : R2} {g : D → D → Option D} (ho : OpR X (compareOp op) r) (hg : OpD K r g) (ha : AL X K E xF xb env a c1) (hb : AL X K E xF xb env b c2) (hm : behindInMarks op b = false) : AE X K E xF xb env (.Compare a [op] [b] pos) (fun (k : D → R β γ) => c1 fun x => c2 fun y => R.lft (g x y) k) :=
  ⟨ha.1, fun B F H σ Q k G s w gx hk hG => ⟨_, pe_cmpR ho pe_C pe_C hm, aj_op hg ha hb B F H σ Q k G s w gx hk hG⟩⟩
theorem a_ix (ha : AL X K E xF xb env a c1) (hb : AL X K E xF xb env b c2) (hs : PlainIx b := by exact fun _ _ => rfl) : AE X K E xF xb env (.Subscript a b pos) (fun (k : D → R β γ) => c1 fun x => c2 fun y => R.lft (ixG x y) k) :=
  ⟨ha.1, fun B F H σ Q k G s w gx hk hG => ⟨_, pe_ix ix_seq pe_C pe_C hs, aj_op (ha.1 ▸ od_ix) ha hb B F H σ Q k G s w gx hk hG⟩⟩
theorem aj_test {t : TE} {c : (D → R β γ) → R β γ} (h : AJ K E xF xb env t (fun _ F _ _ v d => Dr K F v d) c) : AJ K E xF xb env (tTest t) (fun _ _ _ _ v d => v = d) (fun (k : Bool → R β γ) => c fun d => R.asB d k) := fun B F H σ Q k G s w gx hk hG =>
  h B F H σ _ _ G s w gx (fun d v F1 H1 h1 e1 eh1 s1 d1 => by
    cases d <;> first | exact (gx.no h1).elim | skip
    cases d1
    exact ⟨_, rfl, hk _ _ F1 H1 h1 e1 eh1 s1 rfl⟩) hG
theorem at_cmp {op : CmpOp} {r : R2} {g : D → D → Option D} (ho : OpR X (compareOp op) r) (hg : OpD K r g) (ha : AL X K E xF xb env a c1) (hb : AL X K E xF xb env b c2) (hm : behindInMarks op b = false) : AT X K E xF xb env (.Compare a [op] [b] pos) (fun (k : Bool → R β γ) => c1 fun x => c2 fun y => R.lft (g x y) fun z => R.asB z k) :=
  ⟨ha.1, fun B F H σ Q k G s w gx hk hG => ⟨_, pt_cmpR ho pe_C pe_C hm, aj_test (aj_op hg ha hb) B F H σ Q k G s w gx hk hG⟩⟩
theorem at_val (h : AE X K E xF xb env e c1) (he : ∀ whole, isTrue e X.env whole = (do let v ← whole; standAt e.pos; holding [v] (truthy v)) := by intro _; rfl) : AT X K E xF xb env e (fun (k : Bool → R β γ) => c1 fun d => R.asB d k) :=
  ⟨h.1, fun B F H σ Q k G s w gx hk hG => ⟨_, pt_val pe_C he, aj_test h.2 B F H σ Q k G s w gx hk hG⟩⟩
theorem at_not {ct : (Bool → R β γ) → R β γ} (h : AT X K E xF xb env e ct) : AT X K E xF xb env (.UnaryOp .Not e pos) (fun (k : Bool → R β γ) => ct fun b => k (!b)) :=
  ⟨h.1, fun B F H σ Q k G s w gx hk hG => ⟨_, pt_not pt_C, h.2 B F H σ _ _ G s w gx (fun d v F1 H1 h1 e1 eh1 s1 d1 => by subst d1; exact hk _ _ F1 H1 h1 e1 eh1 s1 rfl) hG⟩⟩
theorem a_not (h : AE X K E xF xb env e c1) : AE X K E xF xb env (.UnaryOp .Not e pos) (fun (k : D → R β γ) => c1 fun d => R.asB d fun b => k (.bl (!b))) :=
  ⟨h.1, fun B F H σ Q k G s w gx hk hG => ⟨_, pe_not pe_C, h.2 B F H σ _ _ G s w gx (fun d v F1 H1 h1 e1 eh1 s1 d1 => by
    cases d <;> first | exact (gx.no h1).elim | skip
    cases d1
    exact ⟨_, rfl, hk _ _ F1 H1 h1 e1 eh1 s1 (.bl _)⟩) hG⟩⟩
theorem a_neg (h : AL X K E xF xb env e c1) : AE X K E xF xb env (.UnaryOp .USub e pos) (fun (k : D → R β γ) => c1 fun d => R.asI d fun i => k (.int (-i))) :=
  ⟨h.1, fun B F H σ Q k G s w gx hk hG => ⟨_, pe_un un_neg pe_C, h.2 B F H σ _ _ G s w gx (fun d v F1 H1 h1 e1 eh1 s1 d1 => by
    cases d <;> first | exact (gx.no h1).elim | skip
    exact ⟨_, d1.int, hk _ _ F1 H1 h1 e1 eh1 s1 (.int _)⟩) hG⟩⟩

/-! ### and, or, if: a direct value, then on -/
/-- the direct value d of a part, then on: errors of the part are those of the whole -/
def Gd {β α γ : Type} (G : R β γ → Prop) (k : α → R β γ) : R β α → Prop := fun m => G (m.bind k)
theorem Gd.gx {B : Bs} {F : Hp} {σ : L2.St} {α : Type} {G : R β γ → Prop} {k : α → R β γ} (g : Gx K B E F σ xF xb G) : Gx K B E F σ xF xb (Gd G k) := ⟨g.no, g.ex⟩
theorem aw_and1 {ct : (Bool → R β γ) → R β γ} (h : AT X K E xF xb env a ct) : AW X K E xF xb env (.BoolOp .And [a] pos) ct :=
  ⟨h.1, fun B F H σ Q k G s w gx hk hG => ⟨_, pw_and1 pt_C, h.2 B F H σ Q k G s w gx hk hG⟩⟩
theorem aw_or1 {ct : (Bool → R β γ) → R β γ} (h : AT X K E xF xb env a ct) : AW X K E xF xb env (.BoolOp .Or [a] pos) ct :=
  ⟨h.1, fun B F H σ Q k G s w gx hk hG => ⟨_, pw_or1 pt_C, h.2 B F H σ Q k G s w gx hk hG⟩⟩
theorem aw_and {ct cu : (Bool → R β Bool) → R β Bool} {rest : List Expr} (h : AT X K E xF xb env a ct) (h' : AW X K E xF xb env (.BoolOp .And (b :: rest) pos) cu) :
    AW X K E xF xb env (.BoolOp .And (a :: b :: rest) pos) (fun (k : Bool → R β γ) => (ct fun x => if x then cu R.ok else R.ok false).bind k) :=
  ⟨h.1, fun B F H σ Q k G s w gx hk hG => ⟨_, pw_and pt_C pw_C, h.2 B F H σ _ _ (Gd G k) s w (Gd.gx gx) (fun d v F1 H1 h1 e1 eh1 s1 d1 => by
    subst d1
    cases v with
    | true => exact iteT (h'.2 B F1 H1 σ _ R.ok (Gd G k) s1 w ((Gd.gx gx).mono e1) (fun d v F2 H2 h2 e2 eh2 s2 d2 => hk d v F2 H2 h2 (e1.trans e2) (eh1.trans eh2) s2 d2) h1)
    | false => exact iteF (hk _ _ F1 H1 h1 e1 eh1 s1 rfl)) hG⟩⟩
theorem aw_or {ct cu : (Bool → R β Bool) → R β Bool} {rest : List Expr} (h : AT X K E xF xb env a ct) (h' : AW X K E xF xb env (.BoolOp .Or (b :: rest) pos) cu) :
    AW X K E xF xb env (.BoolOp .Or (a :: b :: rest) pos) (fun (k : Bool → R β γ) => (ct fun x => if x then R.ok true else cu R.ok).bind k) :=
  ⟨h.1, fun B F H σ Q k G s w gx hk hG => ⟨_, pw_or pt_C pw_C, h.2 B F H σ _ _ (Gd G k) s w (Gd.gx gx) (fun d v F1 H1 h1 e1 eh1 s1 d1 => by
    subst d1
    cases v with
    | false => exact iteF (h'.2 B F1 H1 σ _ R.ok (Gd G k) s1 w ((Gd.gx gx).mono e1) (fun d v F2 H2 h2 e2 eh2 s2 d2 => hk d v F2 H2 h2 (e1.trans e2) (eh1.trans eh2) s2 d2) h1)
    | true => exact iteT (hk _ _ F1 H1 h1 e1 eh1 s1 rfl)) hG⟩⟩
theorem AW.at {ct : (Bool → R β γ) → R β γ} (h : AW X K E xF xb env e ct) : AT X K E xF xb env e ct :=
  ⟨h.1, fun B F H σ Q k G s w gx hk hG => ⟨_, PW.pt pw_C, h.2 B F H σ Q k G s w gx hk hG⟩⟩
theorem a_one {op} (h : AE X K E xF xb env a c1) : AE X K E xF xb env (.BoolOp op [a] pos) c1 :=
  ⟨h.1, fun B F H σ Q k G s w gx hk hG => ⟨_, pe_one pe_C, h.2 B F H σ Q k G s w gx hk hG⟩⟩
theorem a_and {d1 d2 : (D → R β D) → R β D} {rest : List Expr} (h : AE X K E xF xb env a d1) (h' : AE X K E xF xb env (.BoolOp .And (b :: rest) pos) d2) :
    AE X K E xF xb env (.BoolOp .And (a :: b :: rest) pos) (fun (k : D → R β γ) => (d1 fun x => R.asB x fun x => if x then d2 R.ok else R.ok (.bl false)).bind k) :=
  ⟨h.1, fun B F H σ Q k G s w gx hk hG => ⟨_, pe_and pe_C pe_C, h.2 B F H σ _ _ (Gd G k) s w (Gd.gx gx) (fun d v F1 H1 h1 e1 eh1 s1 r1 => by
    cases d <;> first | exact (gx.no h1).elim | skip
    cases r1
    rename_i q
    refine ⟨q, rfl, ?_⟩
    cases q with
    | true => exact iteT (h'.2 B F1 H1 σ _ R.ok (Gd G k) s1 w ((Gd.gx gx).mono e1) (fun d v F2 H2 h2 e2 eh2 s2 d2 => hk d v F2 H2 h2 (e1.trans e2) (eh1.trans eh2) s2 d2) h1)
    | false => exact iteF (hk _ _ F1 H1 h1 e1 eh1 s1 (.bl _))) hG⟩⟩
theorem a_or {d1 d2 : (D → R β D) → R β D} {rest : List Expr} (h : AE X K E xF xb env a d1) (h' : AE X K E xF xb env (.BoolOp .Or (b :: rest) pos) d2) :
    AE X K E xF xb env (.BoolOp .Or (a :: b :: rest) pos) (fun (k : D → R β γ) => (d1 fun x => R.asB x fun x => if x then R.ok (.bl true) else d2 R.ok).bind k) :=
  ⟨h.1, fun B F H σ Q k G s w gx hk hG => ⟨_, pe_or pe_C pe_C, h.2 B F H σ _ _ (Gd G k) s w (Gd.gx gx) (fun d v F1 H1 h1 e1 eh1 s1 r1 => by
    cases d <;> first | exact (gx.no h1).elim | skip
    cases r1
    rename_i q
    refine ⟨q, rfl, ?_⟩
    cases q with
    | false => exact iteF (h'.2 B F1 H1 σ _ R.ok (Gd G k) s1 w ((Gd.gx gx).mono e1) (fun d v F2 H2 h2 e2 eh2 s2 d2 => hk d v F2 H2 h2 (e1.trans e2) (eh1.trans eh2) s2 d2) h1)
    | true => exact iteT (hk _ _ F1 H1 h1 e1 eh1 s1 (.bl _))) hG⟩⟩
theorem a_if {ct : (Bool → R β D) → R β D} {d1 d2 : (D → R β D) → R β D} (h : AT X K E xF xb env c ct) (ha : AE X K E xF xb env a d1) (hb : AE X K E xF xb env b d2) :
    AE X K E xF xb env (.IfExp c a b pos) (fun (k : D → R β γ) => (ct fun x => if x then d1 R.ok else d2 R.ok).bind k) :=
  ⟨h.1, fun B F H σ Q k G s w gx hk hG => ⟨_, pe_ifExp pt_C pe_C pe_C, h.2 B F H σ _ _ (Gd G k) s w (Gd.gx gx) (fun d v F1 H1 h1 e1 eh1 s1 r1 => by
    subst r1
    cases v with
    | true => exact iteT (ha.2 B F1 H1 σ _ R.ok (Gd G k) s1 w ((Gd.gx gx).mono e1) (fun d v F2 H2 h2 e2 eh2 s2 d2 => hk d v F2 H2 h2 (e1.trans e2) (eh1.trans eh2) s2 d2) h1)
    | false => exact iteF (hb.2 B F1 H1 σ _ R.ok (Gd G k) s1 w ((Gd.gx gx).mono e1) (fun d v F2 H2 h2 e2 eh2 s2 d2 => hk d v F2 H2 h2 (e1.trans e2) (eh1.trans eh2) s2 d2) h1)) hG⟩⟩
/-- a < b < c -/
theorem aj_chain {r r' : R2} {g g' : D → D → Option D} {d1 d2 d3 : (D → R β D) → R β D} (hg : OpD K r g) (hg' : OpD K r' g') (ha : AL X K E xF xb env a d1) (hb : AL X K E xF xb env b d2) (hc : AL X K E xF xb env c d3) :
    AJ K E xF xb env (tChain r r' (teC X a) (teC X b) (teC X c)) (fun _ F _ _ v d => Dr K F v d) (fun (k : D → R β γ) => (d1 fun x => d2 fun y => R.lft (g x y) fun z => R.asB z fun z => if z then d3 fun u => R.lft (g' y u) R.ok else R.ok (.bl false)).bind k) := fun B F H σ Q k G s w gx hk hG =>
  ha.2 B F H σ _ _ (Gd G k) s w (Gd.gx gx) (fun x v F1 H1 h1 e1 eh1 s1 r1 => hb.2 B F1 H1 σ _ _ (Gd G k) s1 w ((Gd.gx gx).mono e1) (fun y u F2 H2 h2 e2 eh2 s2 r2 => by
    cases hc1 : g x y with
    | none => rw [hc1] at h2; exact (gx.no h2).elim
    | some z =>
      rw [hc1] at h2
      refine hg B F2 H2 σ env v u x y z _ s2 (r1.mono e2 eh2) r2 hc1 fun v' F' H' e' eh' s' d' => ?_
      cases z <;> first | exact (gx.no h2).elim | skip
      cases d'
      rename_i q
      refine ⟨q, rfl, ?_⟩
      cases q with
      | false => exact iteF (hk _ _ F' H' h2 (e1.trans (e2.trans e')) (eh1.trans (eh2.trans eh')) s' (.bl _))
      | true =>
        refine iteT (hc.2 B F' H' σ _ _ (Gd G k) s' w ((Gd.gx gx).mono (e1.trans (e2.trans e'))) (fun u' w' F3 H3 h3 e3 eh3 s3 r3 => ?_) h2)
        cases hc2 : g' y u' with
        | none => rw [hc2] at h3; exact (gx.no h3).elim
        | some z2 =>
          rw [hc2] at h3
          exact hg' B F3 H3 σ env u w' y u' z2 Q s3 (r2.mono (e'.trans e3) (eh'.trans eh3)) r3 hc2 fun v' F4 H4 e4 eh4 s4 d4 => hk z2 v' F4 H4 h3 (e1.trans (e2.trans (e'.trans (e3.trans e4)))) (eh1.trans (eh2.trans (eh'.trans (eh3.trans eh4)))) s4 d4) h1) hG
theorem a_chain {op op' : CmpOp} {r r' : R2} {g g' : D → D → Option D} {d1 d2 d3 : (D → R β D) → R β D} (ho : OpR X (compareOp op) r) (hg : OpD K r g) (ho' : OpR X (compareOp op') r') (hg' : OpD K r' g') (ha : AL X K E xF xb env a d1) (hb : AL X K E xF xb env b d2) (hc : AL X K E xF xb env c d3)
    (hm : lastMarks [op, op'] [b, c] = false := by with_unfolding_all rfl) : AE X K E xF xb env (.Compare a [op, op'] [b, c] pos) (fun (k : D → R β γ) => (d1 fun x => d2 fun y => R.lft (g x y) fun z => R.asB z fun z => if z then d3 fun u => R.lft (g' y u) R.ok else R.ok (.bl false)).bind k) :=
  ⟨ha.1, fun B F H σ Q k G s w gx hk hG => ⟨_, pe_chain ho ho' pe_C pe_C pe_C hm, aj_chain hg hg' ha hb hc B F H σ Q k G s w gx hk hG⟩⟩
theorem at_chain {op op' : CmpOp} {r r' : R2} {g g' : D → D → Option D} {d1 d2 d3 : (D → R β D) → R β D} (ho : OpR X (compareOp op) r) (hg : OpD K r g) (ho' : OpR X (compareOp op') r') (hg' : OpD K r' g') (ha : AL X K E xF xb env a d1) (hb : AL X K E xF xb env b d2) (hc : AL X K E xF xb env c d3)
    (hm : lastMarks [op, op'] [b, c] = false := by with_unfolding_all rfl) : AT X K E xF xb env (.Compare a [op, op'] [b, c] pos) (fun (k : Bool → R β γ) => (d1 fun x => d2 fun y => R.lft (g x y) fun z => R.asB z fun z => if z then d3 fun u => R.lft (g' y u) R.ok else R.ok (.bl false)).bind fun z => R.asB z k) :=
  ⟨ha.1, fun B F H σ Q k G s w gx hk hG => ⟨_, pt_chain ho ho' pe_C pe_C pe_C hm, aj_test (aj_chain hg hg' ha hb hc) B F H σ Q k G s w gx hk hG⟩⟩

/-! ### several items; displays -/
theorem aa_nil (hK : X.K = K := by rfl) : AA X K E xF xb env [] (fun (k : List D → R β γ) => k []) := ⟨hK, fun B F H σ Q k G s w gx hk hG => ⟨_, pa_nil, hk [] [] F H hG (Ex.refl F) (Ex.refl H) s .nil⟩⟩
theorem aa_cons {cs : (List D → R β γ) → R β γ} (ha : AE X K E xF xb env e c1) (hr : AA X K E xF xb env es cs) (hs : starEach (e :: es) X.env = (false, eval e X.env) :: starEach es X.env := by rfl) : AA X K E xF xb env (e :: es) (fun (k : List D → R β γ) => c1 fun d => cs fun ds => k (d :: ds)) :=
  ⟨ha.1, fun B F H σ Q k G s w gx hk hG => ⟨_, pa_cons pe_C pa_C hs, ha.2 B F H σ _ _ G s w gx (fun d v F1 H1 h1 e1 eh1 s1 d1 => hr.2 B F1 H1 σ _ _ G s1 w (gx.mono e1) (fun ds vs F2 H2 h2 e2 eh2 s2 d2 =>
    hk (d :: ds) (v :: vs) F2 H2 h2 (e1.trans e2) (eh1.trans eh2) s2 (.cons (d1.mono e2) d2)) h1) hG⟩⟩
theorem aal_nil (hK : X.K = K := by rfl) : AAL X K E xF xb env [] (fun (k : List D → R β γ) => k []) := ⟨hK, fun B F H σ Q k G s w gx hk hG => ⟨_, pa_nil, hk [] [] F H hG (Ex.refl F) (Ex.refl H) s trivial⟩⟩
theorem aal_cons {cs : (List D → R β γ) → R β γ} (ha : AL X K E xF xb env e c1) (hr : AAL X K E xF xb env es cs) (hs : starEach (e :: es) X.env = (false, eval e X.env) :: starEach es X.env := by rfl) : AAL X K E xF xb env (e :: es) (fun (k : List D → R β γ) => c1 fun d => cs fun ds => k (d :: ds)) :=
  ⟨ha.1, fun B F H σ Q k G s w gx hk hG => ⟨_, pa_cons pe_C pa_C hs, ha.2 B F H σ _ _ G s w gx (fun d v F1 H1 h1 e1 eh1 s1 d1 => hr.2 B F1 H1 σ _ _ G s1 w (gx.mono e1) (fun ds vs F2 H2 h2 e2 eh2 s2 d2 =>
    hk (d :: ds) (v :: vs) F2 H2 h2 (e1.trans e2) (eh1.trans eh2) s2 ⟨d1.mono e2 eh2, d2⟩) h1) hG⟩⟩
theorem aa_star {cs : (List D → R β γ) → R β γ} {p : Pos} (ha : AL X K E xF xb env e c1) (hr : AA X K E xF xb env es cs) (hs : starEach (.Starred e p :: es) X.env = (true, eval e X.env) :: starEach es X.env := by rfl) :
    AA X K E xF xb env (.Starred e p :: es) (fun (k : List D → R β γ) => c1 fun d => R.asQ d fun xs => cs fun ds => k (xs ++ ds)) :=
  ⟨ha.1, fun B F H σ Q k G s w gx hk hG => ⟨_, StX.pa_star pe_C pa_C hs, ha.2 B F H σ _ _ G s w gx (fun d v F1 H1 h1 e1 eh1 s1 d1 => by
    have hK := ha.1
    subst hK
    cases d <;> first | exact (gx.no h1).elim | skip
    · obtain ⟨q, xs, rfl, h2, h3⟩ := d1.lstR s1.ex
      exact ⟨q, xs, rfl, .inr (.inl h2), hr.2 B F1 H1 σ _ _ G s1 w (gx.mono e1) (fun ds vs F2 H2 g2 e2 eh2 s2 d2 => hk _ (xs ++ vs) F2 H2 g2 (e1.trans e2) (eh1.trans eh2) s2 ((h3.mono e2).append d2)) h1⟩
    · obtain ⟨q, xs, rfl, h2, h3⟩ := d1.tup s1.ex
      exact ⟨q, xs, rfl, .inl h2, hr.2 B F1 H1 σ _ _ G s1 w (gx.mono e1) (fun ds vs F2 H2 g2 e2 eh2 s2 d2 => hk _ (xs ++ vs) F2 H2 g2 (e1.trans e2) (eh1.trans eh2) s2 ((h3.mono e2).append d2)) h1⟩) hG⟩⟩
theorem a_lst {cs : (List D → R β γ) → R β γ} (h : AA X K E xF xb env es cs) : AN X K E xF xb env [] (.List es pos) (fun (k : D → R β γ) => cs fun ds => R.few ds fun ds => k (.lst ds)) :=
  ⟨h.1, fun B F H σ Q k G s w gx hk hG => ⟨_, pe_lst pa_C, h.2 B F H σ _ _ G s w gx (fun ds vs F1 H1 h1 e1 eh1 s1 d1 => by
    unfold R.few at h1
    split at h1
    · rename_i hz
      refine ⟨by rw [d1.length]; exact of_decide_eq_true hz, fun p hp => ?_⟩
      obtain ⟨s2, n2⟩ := s1.newN hp (Do.lst d1)
      exact hk _ _ F1 _ h1 e1 (eh1.trans (Ex.new hp)) s2 n2
    · exact (gx.no h1).elim) hG⟩⟩
theorem a_tup {x1} {cs : (List D → R β γ) → R β γ} (h : AA X K E xF xb env es cs) : AE X K E xF xb env (.Tuple es x1 pos) (fun (k : D → R β γ) => cs fun ds => R.few ds fun ds => k (.tup ds)) :=
  ⟨h.1, fun B F H σ Q k G s w gx hk hG => ⟨_, pe_tupZ pa_C, h.2 B F H σ _ _ G s w gx (fun ds vs F1 H1 h1 e1 eh1 s1 d1 => by
    unfold R.few at h1
    split at h1
    · rename_i hz
      refine ⟨by rw [d1.length]; exact of_decide_eq_true hz, fun p o hp ho => ?_⟩
      obtain ⟨e2, s2, d2⟩ := s1.newT hp ho d1
      exact hk _ _ _ _ h1 (e1.trans e2) (eh1.trans (Ex.new hp)) s2 d2
    · exact (gx.no h1).elim) hG⟩⟩
theorem a_dct0 (hK : X.K = K := by rfl) : AN X K E xF xb env [] (.Dict [] [] pos) (fun (k : D → R β γ) => k (.dct [])) :=
  ⟨hK, fun B F H σ Q k G s w gx hk hG => ⟨_, pe_dnewK, fun p hp => by
    obtain ⟨s2, n2⟩ := s.newN hp (Do.dct (kvs := []) (kds := []) rfl .nil)
    exact hk _ _ F _ hG (Ex.refl F) (Ex.new hp) s2 n2⟩⟩

/-! ### slices -/
theorem ao_none (hK : X.K = K := by rfl) : AO X K E xF xb env none (fun (k : Option Int → R β γ) => k none) := ⟨hK, fun B F H σ Q k G s w gx hk hG => ⟨_, po_none, hk _ _ F H hG (Ex.refl F) (Ex.refl H) s rfl⟩⟩
theorem ao_some (h : AL X K E xF xb env e c1) : AO X K E xF xb env (some e) (fun (k : Option Int → R β γ) => c1 fun d => R.asI d fun i => k (some i)) :=
  ⟨h.1, fun B F H σ Q k G s w gx hk hG => ⟨_, po_some pe_C, h.2 B F H σ _ _ G s w gx (fun d v F1 H1 h1 e1 eh1 s1 d1 => by
    cases d <;> first | exact (gx.no h1).elim | skip
    exact ⟨_, d1.int, hk _ _ F1 H1 h1 e1 eh1 s1 rfl⟩) hG⟩⟩
theorem sl_core {B : Bs} {F H : Hp} {σ : L2.St} {v : V} {x : D} {l h : Option Int} {d : D} {Q : VK} (s : SR K B F H σ env) (hv : Dh K F H v x) (hc : slG x l h = some d)
    (hk : ∀ v F' H', Ex F F' → Ex H H' → SR K B F' H' σ env → Dr K F' v d → Q v H') : rSlAll K v l h H Q := by
  unfold slG at hc
  split at hc
  · cases hc
    obtain ⟨p, xs, rfl, h1, h2⟩ := hv.lst s.ex
    refine Or.inl (Or.inl ⟨p, xs, rfl, h1, fun q hn => ?_⟩)
    obtain ⟨s4, n4⟩ := s.newN hn (Do.lst (h2.cut l h))
    obtain ⟨F5, e5, d5, s5⟩ := s4.frzN n4
    exact hk _ F5 _ e5 (Ex.new hn) s5 d5
  · cases hc
    rcases hv with hv | ⟨_, _, _, _, hv⟩
    · cases hv with
      | tup h1 h2 =>
        refine Or.inl (Or.inr ⟨_, _, rfl, s.ex.st h1.sq, fun hw => ?_, fun hw q o hn ho => ?_⟩)
        · have h3 := h2.cut l h
          rw [cutV_whole hw] at h3
          exact hk _ F H (Ex.refl F) (Ex.refl H) s (.tup h1 h3)
        · obtain ⟨e4, s4, d4⟩ := s.newT hn ho (h2.cut l h)
          exact hk _ _ _ e4 (Ex.new hn) s4 d4
    · cases hv
  · split at hc
    · rename_i hz
      cases hc
      exact Or.inr ⟨_, hv.str, hz, hk _ F H (Ex.refl F) (Ex.refl H) s (.str _)⟩
    · cases hc
  · cases hc
theorem a_sl {lo hi : Option Expr} {p2 : Pos} {cl ch : (Option Int → R β γ) → R β γ} (ha : AL X K E xF xb env e c1) (hl : AO X K E xF xb env lo cl) (hh : AO X K E xF xb env hi ch) :
    AE X K E xF xb env (.Subscript e (.Slice lo hi none p2) pos) (fun (k : D → R β γ) => c1 fun x => cl fun l => ch fun h => R.lft (slG x l h) k) :=
  ⟨ha.1, fun B F H σ Q k G s w gx hk hG => ⟨_, pe_slice ((sl_list.or sl_tupZ).or C8.sl_txt) pe_C po_C po_C, ha.2 B F H σ _ _ G s w gx (fun x v F1 H1 h1 e1 eh1 s1 d1 =>
    hl.2 B F1 H1 σ _ _ G s1 w (gx.mono e1) (fun l l' F2 H2 h2 e2 eh2 s2 d2 => hh.2 B F2 H2 σ _ _ G s2 w (gx.mono (e1.trans e2)) (fun h h' F3 H3 h3 e3 eh3 s3 d3 => by
      subst d2
      subst d3
      cases hc : slG x l' h' with
      | none => rw [hc] at h3; exact (gx.no h3).elim
      | some d =>
        rw [hc] at h3
        have hK := ha.1
        subst hK
        exact sl_core s3 (d1.mono (e2.trans e3) (eh2.trans eh3)) hc fun v F4 H4 e4 eh4 s4 d4 => hk d v F4 H4 h3 (e1.trans (e2.trans (e3.trans e4))) (eh1.trans (eh2.trans (eh3.trans eh4))) s4 d4) h2) h1) hG⟩⟩

/-! ### calls of built-ins -/
theorem aj_call {r : List V → Hp → VK → Prop} {g : List D → Option D} {cs : (List D → R β γ) → R β γ} (hg : CallD K r g) (ha : AAL X K E xF xb env es cs) :
    AJ K E xF xb env (tCB r (taC X es)) (fun _ F _ _ v d => Dr K F v d) (fun (k : D → R β γ) => cs fun ds => R.lft (g ds) k) := fun B F H σ Q k G s w gx hk hG =>
  ha.2 B F H σ _ _ G s w gx (fun ds vs F1 H1 h1 e1 eh1 s1 d1 => by
    cases hc : g ds with
    | none => rw [hc] at h1; exact (gx.no h1).elim
    | some z =>
      rw [hc] at h1
      exact hg B F1 H1 σ env vs ds z Q s1 d1 hc fun v' F' H' e' eh' s' d' => hk z v' F' H' h1 (e1.trans e') (eh1.trans eh') s' d') hG
theorem aj_callN {r : List V → Hp → VK → Prop} {g : List D → Option D} {cs : (List D → R β γ) → R β γ} (hg : CallN K r g) (ha : AAL X K E xF xb env es cs) :
    AJ K E xF xb env (tCB r (taC X es)) (fun B F H σ v d => rN K B F H σ env v d []) (fun (k : D → R β γ) => cs fun ds => R.lft (g ds) k) := fun B F H σ Q k G s w gx hk hG =>
  ha.2 B F H σ _ _ G s w gx (fun ds vs F1 H1 h1 e1 eh1 s1 d1 => by
    cases hc : g ds with
    | none => rw [hc] at h1; exact (gx.no h1).elim
    | some z =>
      rw [hc] at h1
      exact hg B F1 H1 σ env vs ds z Q s1 d1 hc fun v' F' H' e' eh' s' d' => hk z v' F' H' h1 (e1.trans e') (eh1.trans eh') s' d') hG
section
variable {r : List V → Hp → VK → Prop} {g : List D → Option D} {cs : (List D → R β γ) → R β γ} {x : Str} {id T : String} {p : Pos}
theorem a_callB (hc : CallR X (.builtin id) r) (hd : CallD K r g) (hv : bootBuiltins x = some (.builtin id)) (hm : X.mg x = none) (hg : Gl X x) (ha : AAL X K E xF xb env (e :: es) cs) (hn : x ≠ "__name__" := by decide) (hdb : (x == ("__debug__" : Str)) = false := by decide)
    (he : starEach (e :: es) X.env = (false, eval e X.env) :: starEach es X.env := by rfl) (hpl : (backTo pos (starEach es X.env)).any (·.1) = false := by rfl) : AE X K E xF xb env (.Call (.Name x p) (e :: es) [] pos) (fun (k : D → R β γ) => cs fun ds => R.lft (g ds) k) :=
  ⟨ha.1, fun B F H σ Q k G s w gx hk hG => ⟨_, pe_callB hc hg hm hv pa_C hn hdb he hpl, aj_call hd ha B F H σ Q k G s w gx hk hG⟩⟩
theorem a_callT (hc : CallR X (.type T) r) (hd : CallD K r g) (hv : bootBuiltins x = some (.type T)) (hm : X.mg x = none) (hg : Gl X x) (ha : AAL X K E xF xb env (e :: es) cs) (hn : x ≠ "__name__" := by decide) (hdb : (x == ("__debug__" : Str)) = false := by decide)
    (he : starEach (e :: es) X.env = (false, eval e X.env) :: starEach es X.env := by rfl) (hpl : (backTo pos (starEach es X.env)).any (·.1) = false := by rfl) : AE X K E xF xb env (.Call (.Name x p) (e :: es) [] pos) (fun (k : D → R β γ) => cs fun ds => R.lft (g ds) k) :=
  ⟨ha.1, fun B F H σ Q k G s w gx hk hG => ⟨_, pe_callTy hc hg hm hv pa_C hn hdb he hpl, aj_call hd ha B F H σ Q k G s w gx hk hG⟩⟩
theorem a_callTN (hc : CallR X (.type T) r) (hd : CallN K r g) (hv : bootBuiltins x = some (.type T)) (hm : X.mg x = none) (hg : Gl X x) (ha : AAL X K E xF xb env (e :: es) cs) (hn : x ≠ "__name__" := by decide) (hdb : (x == ("__debug__" : Str)) = false := by decide)
    (he : starEach (e :: es) X.env = (false, eval e X.env) :: starEach es X.env := by rfl) (hpl : (backTo pos (starEach es X.env)).any (·.1) = false := by rfl) : AN X K E xF xb env [] (.Call (.Name x p) (e :: es) [] pos) (fun (k : D → R β γ) => cs fun ds => R.lft (g ds) k) :=
  ⟨ha.1, fun B F H σ Q k G s w gx hk hG => ⟨_, pe_callTy hc hg hm hv pa_C hn hdb he hpl, aj_callN hd ha B F H σ Q k G s w gx hk hG⟩⟩
end
end
end DM

/-! What code does, told by plain functions: statements. -/
namespace DM
open PySem PySem.Spec PyProof.Rows L2 DL

/-- how a turn of a loop ends -/
inductive Step (S : Type) where
  | nx (s : S) | bk (s : S) | rt (d : D) (s : S)
namespace R
variable {β α γ ω S : Type}
/-- the rest, said once -/
def join (r : S → R β ω) (f : (S → R β ω) → R β ω) : R β ω := f r
def tup2 (d : D) (k : D → D → R β γ) : R β γ := match d with
  | .tup [x, y] => k x y
  | .lst [x, y] => k x y
  | _ => .no
def tup3 (d : D) (k : D → D → D → R β γ) : R β γ := match d with
  | .tup [x, y, z] => k x y z
  | .lst [x, y, z] => k x y z
  | _ => .no
def tup5 (d : D) (k : D → D → D → D → D → R β γ) : R β γ := match d with
  | .tup [x, y, z, u, v] => k x y z u v
  | .lst [x, y, z, u, v] => k x y z u v
  | _ => .no
/-- a turn's end, and on -/
def turn (m : R β (Step S)) (nxt : S → R β (Step S)) : R β (Step S) := match m with
  | .ok (.nx s') => nxt s'
  | .ok (.bk s') => .ok (.nx s')
  | .ok (.rt v s') => .ok (.rt v s')
  | .ex x b => .ex x b
  | .no => .no
/-- a for: f tells of an item and the state how the turn ends; nx: no item is left, or a break -/
def for' : List D → S → (D → S → R β (Step S)) → R β (Step S)
  | [], s, _ => .ok (.nx s)
  | d :: ds, s, f => turn (f d s) fun s' => for' ds s' f
/-- behind a loop -/
def after (m : R β (Step S)) (k : S → R β ω) (kr : D → S → R β ω) : R β ω := match m with
  | .ok (.nx s) => k s
  | .ok (.bk s) => k s
  | .ok (.rt d s) => kr d s
  | .ex x b => .ex x b
  | .no => .no
/-- a while, n turns at most -/
def whlN (f : S → R β (Step S)) : Nat → S → R β (Step S)
  | 0, _ => .no
  | n + 1, s => turn (f s) fun s' => whlN f n s'
open Classical in
noncomputable def whl (f : S → R β (Step S)) (s : S) : R β (Step S) := if h : ∃ n, whlN f n s ≠ .no then whlN f h.choose s else .no
theorem whlN_up {f : S → R β (Step S)} : ∀ {n m : Nat} {s : S}, n ≤ m → whlN f n s ≠ .no → whlN f m s = whlN f n s
  | 0, _, _, _, h => absurd rfl h
  | n + 1, 0, _, hl, _ => by omega
  | n + 1, m + 1, s, hl, h => by
    unfold whlN turn at h ⊢
    split <;> try rfl
    rename_i s' e
    simp only [e] at h
    exact whlN_up (by omega) h
theorem whl_of {f : S → R β (Step S)} {n : Nat} {s : S} (h : whlN f n s ≠ .no) : whl f s = whlN f n s := by
  have hx : ∃ n, whlN f n s ≠ .no := ⟨n, h⟩
  unfold whl
  rw [dif_pos hx]
  rcases Nat.le_total n hx.choose with z | z
  · exact whlN_up z h
  · exact (whlN_up z hx.choose_spec).symm
theorem whl_some {f : S → R β (Step S)} {s : S} (h : whl f s ≠ .no) : ∃ n, whl f s = whlN f n s ∧ whlN f n s ≠ .no := by
  unfold whl at h ⊢
  split
  · rename_i hx
    exact ⟨_, rfl, hx.choose_spec⟩
  · rename_i hx
    rw [dif_neg hx] at h
    exact absurd rfl h
theorem whl_eq (f : S → R β (Step S)) (s : S) : whl f s = turn (f s) (whl f) := by
  by_cases h : ∃ n, whlN f n s ≠ .no
  · obtain ⟨n, h⟩ := h
    rw [whl_of h]
    cases n with
    | zero => exact absurd rfl h
    | succ n =>
      unfold whlN turn at h ⊢
      split <;> try rfl
      rename_i s' e
      simp only [e] at h
      exact (whl_of h).symm
  · have hn : whl f s = .no := by unfold whl; rw [dif_neg h]
    rw [hn]
    have key : ∀ n, whlN f (n + 1) s = .no := fun n => Classical.byContradiction fun z => h ⟨n + 1, z⟩
    have k0 := key 0
    cases e : f s with
    | no => rfl
    | ex x b => unfold whlN at k0; rw [e] at k0; cases k0
    | ok a =>
      cases a with
      | bk s' => unfold whlN at k0; rw [e] at k0; cases k0
      | rt v s' => unfold whlN at k0; rw [e] at k0; cases k0
      | nx s' =>
        refine (Classical.byContradiction fun z => ?_ : _ = _)
        obtain ⟨m, h1, h2⟩ := whl_some (f := f) (s := s') (Ne.symm z)
        have := key m
        unfold whlN at this
        rw [e] at this
        exact h2 this
end R

def tsC (X : Cx) (st : List Stmt) : TS := fun Dn σ H => ∃ t, PSs X st t ∧ t Dn σ H
theorem ps_C {X : Cx} {st : List Stmt} : PSs X st (tsC X st) := ⟨fun pins s σ H Q I ⟨_, h, ht⟩ => h.run pins s σ H Q I ht⟩
def tgC (X : Cx) (tg : Expr) : TG := fun v σ H P => ∃ t, PG X tg t ∧ t v σ H P
theorem pg_C {X : Cx} {tg : Expr} : PG X tg (tgC X tg) := ⟨fun pins s σ H v u Q I r ⟨_, h, ht⟩ => h.run pins s σ H v u Q I r ht⟩
def tgsC (X : Cx) (tg : List Expr) : TGs := fun v σ H P => ∃ t, PGs X tg t ∧ t v σ H P
theorem pgs_C {X : Cx} {tg : List Expr} : PGs X tg (tgsC X tg) := ⟨fun pins s σ H v u Q I r ⟨_, h, ht⟩ => h.run pins s σ H v u Q I r ht⟩
def tiC (X : Cx) (tg iter : Expr) : TI := fun σ H Q => ∃ t, PI X tg iter t ∧ t σ H Q
theorem pi_C {X : Cx} {tg iter : Expr} : PI X tg iter (tiC X tg iter) := ⟨fun pins s σ H Q I ⟨_, h, ht⟩ => h.run pins s σ H Q I ht⟩

/-- where a block may end: what the frame is then, and what comes of it -/
structure Kt (β ω : Type) where
  fx : β → Fm
  Sn : Type
  fn : Sn → Fm
  kn : Sn → R β ω
  Sb : Type
  fb : Sb → Fm
  kb : Sb → R β ω
  Sc : Type
  fc : Sc → Fm
  kc : Sc → R β ω
  Sr : Type
  fr : Sr → Fm
  kr : D → Sr → R β ω
  nw : Option (List Str)
def rR (K : PySem.W.Frag) (nw : Option (List Str)) (B : Bs) (F H : Hp) (σ : L2.St) (env : Fm) (v : V) (d : D) : Prop := match nw with
  | none => Dr K F v d
  | some fs => rN K B F H σ env v d fs
structure Gs (K : PySem.W.Frag) (B : Bs) (E : XE) {β ω : Type} (κ : Kt β ω) (F : Hp) (Dn : Ends) (G : R β ω → Prop) : Prop where
  no : ¬ G .no
  ex : ∀ x b, G (.ex x b) → ∀ c dd F' H' σ', Ex F F' → SR K B F' H' σ' (κ.fx b) → XR K F' x c dd → E σ' c dd H'
  nx : ∀ s, G (κ.kn s) → ∀ F' H' σ', Ex F F' → SR K B F' H' σ' (κ.fn s) → Dn.nx σ' H'
  bk : ∀ s, G (κ.kb s) → ∀ F' H' σ', Ex F F' → SR K B F' H' σ' (κ.fb s) → Dn.bk σ' H'
  ct : ∀ s, G (κ.kc s) → ∀ F' H' σ', Ex F F' → SR K B F' H' σ' (κ.fc s) → Dn.ct σ' H'
  rt : ∀ d s, G (κ.kr d s) → ∀ v F' H' σ', Ex F F' → SR K B F' H' σ' (κ.fr s) → rR K κ.nw B F' H' σ' (κ.fr s) v d → Dn.rt v H'
section
variable {X : Cx} {K : PySem.W.Frag} {E : XE} {β ω : Type} {κ : Kt β ω} {env : Fm} {pos : Pos} {rest : List Stmt}
theorem Gs.mono {B : Bs} {F F1 : Hp} {Dn : Ends} {G : R β ω → Prop} (e : Ex F F1) (h : Gs K B E κ F Dn G) : Gs K B E κ F1 Dn G :=
  ⟨h.no, fun x b hx c dd F' H' σ' e1 => h.ex x b hx c dd F' H' σ' (e.trans e1), fun s hs F' H' σ' e1 => h.nx s hs F' H' σ' (e.trans e1), fun s hs F' H' σ' e1 => h.bk s hs F' H' σ' (e.trans e1), fun s hs F' H' σ' e1 => h.ct s hs F' H' σ' (e.trans e1), fun d s hs v F' H' σ' e1 => h.rt d s hs v F' H' σ' (e.trans e1)⟩
theorem Gs.gx {B : Bs} {F : Hp} {Dn : Ends} {G : R β ω → Prop} {σ : L2.St} (h : Gs K B E κ F Dn G) (xb : β) : Gx K B E F σ (κ.fx xb) xb G :=
  ⟨h.no, fun x hx c dd F' H' e1 s1 x1 => h.ex x xb hx c dd F' H' σ e1 s1 x1⟩
/-- the block st at the frame env is told by m -/
def AB (X : Cx) (K : PySem.W.Frag) (E : XE) {β ω : Type} (κ : Kt β ω) (env : Fm) (st : List Stmt) (m : R β ω) : Prop :=
  X.K = K ∧ ∀ B F H σ Dn (G : R β ω → Prop), SR K B F H σ env → Gs K B E κ F Dn G → G m → tsC X st Dn σ H
theorem AB.eq {st : List Stmt} {m m' : R β ω} (h : AB X K E κ env st m) (e : m = m') : AB X K E κ env st m' := e ▸ h
/-! ### ends -/
theorem ab_nil {mE : R β ω} (s : κ.Sn) (hw : Wk env (κ.fn s)) (eE : κ.kn s = mE) (hK : X.K = K := by rfl) : AB X K E κ env [] mE := by
  subst eE
  exact ⟨hK, fun B F H σ Dn G sr gs hG => ⟨_, pss_nil, gs.nx s hG F H σ (Ex.refl F) (sr.wk hw)⟩⟩
theorem ab_break {mE : R β ω} (s : κ.Sb) (hw : Wk env (κ.fb s)) (eE : κ.kb s = mE) (hK : X.K = K := by rfl) : AB X K E κ env [.Break pos] mE := by
  subst eE
  exact ⟨hK, fun B F H σ Dn G sr gs hG => ⟨_, pss_one ps_break, gs.bk s hG F H σ (Ex.refl F) (sr.wk hw)⟩⟩
theorem ab_cont {mE : R β ω} (s : κ.Sc) (hw : Wk env (κ.fc s)) (eE : κ.kc s = mE) (hK : X.K = K := by rfl) : AB X K E κ env [.Continue pos] mE := by
  subst eE
  exact ⟨hK, fun B F H σ Dn G sr gs hG => ⟨_, pss_one ps_continue, gs.ct s hG F H σ (Ex.refl F) (sr.wk hw)⟩⟩
theorem ab_retN {mE : R β ω} (s : κ.Sr) (hw : Wk env (κ.fr s)) (eE : κ.kr .non s = mE) (hn : κ.nw = none := by rfl) (hK : X.K = K := by rfl) : AB X K E κ env [.Return none pos] mE := by
  subst eE
  exact ⟨hK, fun B F H σ Dn G sr gs hG => ⟨_, pss_one ps_retN, gs.rt .non s hG .non F H σ (Ex.refl F) (sr.wk hw) (by unfold rR; rw [hn]; exact .non)⟩⟩
theorem ab_ret {mE : R β ω} {e : Expr} {c : (D → R β ω) → R β ω} (xb : β) (s : κ.Sr) (he : AE X K E (κ.fx xb) xb env e c) (hx : Wk env (κ.fx xb)) (hw : Wk env (κ.fr s)) (eE : (c fun d => κ.kr d s) = mE) (hn : κ.nw = none := by rfl) : AB X K E κ env [.Return (some e) pos] mE := by
  subst eE
  exact ⟨he.1, fun B F H σ Dn G sr gs hG => ⟨_, pss_one (ps_ret pe_C), he.2 B F H σ _ _ G sr hx (gs.gx xb) (fun d v F1 H1 h1 e1 eh1 s1 d1 => gs.rt d s h1 v F1 H1 σ e1 (s1.wk hw) (by unfold rR; rw [hn]; exact d1)) hG⟩⟩
/-- a new thing is given back -/
theorem ab_retW {mE : R β ω} {e : Expr} {fs : List Str} {c : (D → R β ω) → R β ω} (xb : β) (s : κ.Sr) (he : AN X K E (κ.fx xb) xb env fs e c) (hx : Wk env (κ.fx xb)) (hw : Wk env (κ.fr s)) (eE : (c fun d => κ.kr d s) = mE) (hn : κ.nw = some fs := by rfl) : AB X K E κ env [.Return (some e) pos] mE := by
  subst eE
  exact ⟨he.1, fun B F H σ Dn G sr gs hG => ⟨_, pss_one (ps_ret pe_C), he.2 B F H σ _ _ G sr hx (gs.gx xb) (fun d v F1 H1 h1 e1 eh1 s1 d1 => gs.rt d s h1 v F1 H1 σ e1 (s1.wk hw) (by
    unfold rR
    rw [hn]
    obtain ⟨p, S, h2, h3, h4, h5⟩ := d1
    obtain ⟨ft, hf⟩ := s1.own
    refine ⟨p, S, h2, h3, h4, fun ft' hf' a ha z => h5 ft hf a ha ?_⟩
    obtain ⟨i, t, d2, f2, g1, g2⟩ := z
    have g3 := hw.at g1 fun z => nomatch z
    obtain ⟨q, q1, q2, _⟩ := hf.ow i t d2 f2 g3
    obtain ⟨q', r1, r2, _⟩ := hf'.ow i t d2 f2 g1
    rw [q1] at r1
    cases r1
    rw [← foot_same q2 (Ex.refl _) r2] at g2
    exact ⟨i, t, d2, f2, g3, g2⟩)) hG⟩⟩
/-- return x, x a slot's own thing -/
theorem ab_retO {mE : R β ω} (i : Nat) {x : Str} {d : D} {fs : List Str} {p : Pos} (hi : fget env i = .ow none d fs) (s : κ.Sr) (hw : Wk (fput env i .un) (κ.fr s)) (eE : κ.kr d s = mE) (hn : κ.nw = some fs := by rfl) (hK : X.K = K := by rfl) (hN : X.N[i]? = some x := by rfl) (hv : Vis X.env.scope x := by first | exact Or.inl rfl | exact Or.inr (Or.inl rfl) | exact Or.inr (Or.inr rfl)) (hd : (x == ("__debug__" : Str)) = false := by decide)
    (hcd : (x == ("__classdict__" : Str)) = false := by decide) : AB X K E κ env [.Return (some (.Name x p)) pos] mE := by
  subst eE
  exact ⟨hK, fun B F H σ Dn G sr gs hG => by
    obtain ⟨ft, hf⟩ := sr.own
    obtain ⟨p, h1, h2, h3, h4⟩ := hf.ow i none d fs hi
    refine ⟨_, pss_one (ps_ret (pe_var hN hv hd hcd)), _, h1, gs.rt d s hG _ F H σ (Ex.refl F) (sr.wk ((Wk.un env i).trans hw)) ?_⟩
    unfold rR
    rw [hn]
    refine ⟨p, ft i, rfl, h2, h3, fun ft' hf' a ha z => ?_⟩
    obtain ⟨j, t, d2, f2, g1, g2⟩ := z
    have g3 := hw.at g1 fun z => nomatch z
    have hij : i ≠ j := fun z => by
      subst z
      rcases fget_eq env (i := i) .un with z | z <;> (rw [z] at g3; cases g3)
    rw [fget_ne _ _ hij] at g3
    obtain ⟨q, q1, q2, _⟩ := hf.ow j t d2 f2 g3
    obtain ⟨q', r1, r2, _⟩ := hf'.ow j t d2 f2 g1
    rw [q1] at r1
    cases r1
    rw [← foot_same q2 (Ex.refl _) r2] at g2
    exact hf.dis i j none t d d2 fs f2 hij hi g3 a ha g2⟩
/-! ### one statement, then the rest -/
theorem ab_pass {m : R β ω} (hr : AB X K E κ env rest m) : AB X K E κ env (.Pass pos :: rest) m :=
  ⟨hr.1, fun B F H σ Dn G sr gs hG => ⟨_, pss_cons ps_pass ps_C, hr.2 B F H σ Dn G sr gs hG⟩⟩
theorem ab_doc {m : R β ω} {x j p2} (hr : AB X K E κ env rest m) : AB X K E κ env (.Expr (.Constant (.str x) j pos) p2 :: rest) m :=
  ⟨hr.1, fun B F H σ Dn G sr gs hG => ⟨_, pss_cons ps_doc ps_C, hr.2 B F H σ Dn G sr gs hG⟩⟩
theorem ab_expr {e : Expr} {c : (D → R β ω) → R β ω} {m : R β ω} (xb : β) (he : AE X K E (κ.fx xb) xb env e c) (hx : Wk env (κ.fx xb)) (hr : AB X K E κ env rest m) (hs : swapsWith e none pos.line X.env = pure false := by rfl) : AB X K E κ env (.Expr e pos :: rest) (c fun _ => m) :=
  ⟨hr.1, fun B F H σ Dn G sr gs hG => ⟨_, pss_cons (ps_expr pe_C hs) ps_C, he.2 B F H σ _ _ G sr hx (gs.gx xb) (fun d v F1 H1 h1 e1 eh1 s1 d1 => hr.2 B F1 H1 σ Dn G s1 (gs.mono e1) h1) hG⟩⟩
theorem ab_set {e : Expr} {c : (D → R β ω) → R β ω} {m : D → R β ω} (i : Nat) {x : Str} {p2 : Pos} (xb : β) (he : AE X K E (κ.fx xb) xb env e c) (hx : Wk env (κ.fx xb)) (hr : ∀ d, AB X K E κ (fput env i (.fz d)) rest (m d)) (hN : X.N.Nodup) (hl : Loc X.env.scope x) (hi : X.N[i]? = some x := by rfl)
    (hs : swapsWith e (some (.Name x p2)) pos.line X.env = pure false := by rfl) (hf : X.fn x = true ∨ X.env.scope.names.lookup x = some .local := by first | exact .inl rfl | exact .inr rfl | assumption) : AB X K E κ env (.Assign [.Name x p2] e pos :: rest) (c fun d => m d) :=
  ⟨he.1, fun B F H σ Dn G sr gs hG => ⟨_, pss_cons (ps_set hN hi hl pe_C hs hf) ps_C, he.2 B F H σ _ _ G sr hx (gs.gx xb) (fun d v F1 H1 h1 e1 eh1 s1 d1 => (hr d).2 B F1 H1 _ Dn G (s1.setF d1) (gs.mono e1) h1) hG⟩⟩
theorem ab_setO {e : Expr} {c : (D → R β ω) → R β ω} {m : D → R β ω} {fs : List Str} (i : Nat) {x : Str} {p2 : Pos} (xb : β) (he : AN X K E (κ.fx xb) xb env fs e c) (hx : Wk env (κ.fx xb)) (hr : ∀ d, AB X K E κ (fput env i (.ow none d fs)) rest (m d)) (hN : X.N.Nodup) (hl : Loc X.env.scope x) (hi : X.N[i]? = some x := by rfl)
    (hs : swapsWith e (some (.Name x p2)) pos.line X.env = pure false := by rfl) (hf : X.fn x = true ∨ X.env.scope.names.lookup x = some .local := by first | exact .inl rfl | exact .inr rfl | assumption) : AB X K E κ env (.Assign [.Name x p2] e pos :: rest) (c fun d => m d) :=
  ⟨he.1, fun B F H σ Dn G sr gs hG => ⟨_, pss_cons (ps_set hN hi hl pe_C hs hf) ps_C, he.2 B F H σ _ _ G sr hx (gs.gx xb) (fun d v F1 H1 h1 e1 eh1 s1 d1 => (hr d).2 B F1 H1 _ Dn G (s1.setO d1) (gs.mono e1) h1) hG⟩⟩
/-- a slot's own thing stands still from now on -/
theorem ab_frz (i : Nat) {t : Option Nat} {d : D} {fs : List Str} {st : List Stmt} {m : R β ω} (hi : fget env i = .ow t d fs) (hr : AB X K E κ (fput env i (.fz d)) st m) : AB X K E κ env st m :=
  ⟨hr.1, fun B F H σ Dn G sr gs hG => by
    obtain ⟨v, F1, e1, h1, h2, s1⟩ := sr.frz hi
    exact hr.2 B F1 H σ Dn G s1 (gs.mono e1) hG⟩
/-- less is known -/
theorem ab_wk {env' : Fm} {st : List Stmt} {m : R β ω} (hw : Wk env env') (hr : AB X K E κ env' st m) : AB X K E κ env st m :=
  ⟨hr.1, fun B F H σ Dn G sr gs hG => hr.2 B F H σ Dn G (sr.wk hw) gs hG⟩
/-! ### if -/
def Kt.join (κ : Kt β ω) (S : Type) (f : S → Fm) (k : S → R β ω) : Kt β ω := { κ with Sn := S, fn := f, kn := k }
def Kt.stop (κ : Kt β ω) : Kt β ω := { κ with Sn := Empty, fn := fun z => z.elim, kn := fun z => z.elim }
theorem Gs.join {B : Bs} {F : Hp} {Dn : Ends} {G : R β ω → Prop} {S : Type} {f : S → Fm} {k : S → R β ω} (gs : Gs K B E κ F Dn G) (hr : ∀ s, AB X K E κ (f s) rest (k s)) : Gs K B E (κ.join S f k) F { Dn with nx := tsC X rest Dn } G :=
  ⟨gs.no, gs.ex, fun s hs F' H' σ' e1 s1 => (hr s).2 B F' H' σ' Dn G s1 (gs.mono e1) hs, gs.bk, gs.ct, gs.rt⟩
theorem Gs.stop {B : Bs} {F : Hp} {Dn : Ends} {G : R β ω → Prop} {N : L2.St → Hp → Prop} (gs : Gs K B E κ F Dn G) : Gs K B E κ.stop F ({ Dn with nx := N } : Ends) G :=
  ⟨gs.no, gs.ex, fun s => s.elim, gs.bk, gs.ct, gs.rt⟩
theorem ab_if {c : Expr} {a b : List Stmt} {ct : (Bool → R β ω) → R β ω} {S : Type} (f : S → Fm) {ma mb : (S → R β ω) → R β ω} {k : S → R β ω} (xb : β) (hc : AT X K E (κ.fx xb) xb env c ct) (hx : Wk env (κ.fx xb))
    (ha : ∀ k, AB X K E (κ.join S f k) env a (ma k)) (hb : ∀ k, AB X K E (κ.join S f k) env b (mb k)) (hr : ∀ s, AB X K E κ (f s) rest (k s)) : AB X K E κ env (.If c a b pos :: rest) (R.join k fun k => ct fun x => if x then ma k else mb k) :=
  ⟨hc.1, fun B F H σ Dn G sr gs hG => ⟨_, pss_cons (ps_if pt_C ps_C ps_C) ps_C, hc.2 B F H σ _ _ G sr hx (gs.gx xb) (fun d v F1 H1 h1 e1 eh1 s1 d1 => by
    subst d1
    cases v with
    | true => exact iteT ((ha k).2 B F1 H1 σ _ G s1 ((gs.join hr).mono e1) h1)
    | false => exact iteF ((hb k).2 B F1 H1 σ _ G s1 ((gs.join hr).mono e1) h1)) hG⟩⟩
/-- the first branch goes away -/
theorem ab_ifT {c : Expr} {a : List Stmt} {ct : (Bool → R β ω) → R β ω} {ma mb : R β ω} (xb : β) (hc : AT X K E (κ.fx xb) xb env c ct) (hx : Wk env (κ.fx xb)) (ha : AB X K E κ.stop env a ma) (hb : AB X K E κ env rest mb) : AB X K E κ env (.If c a [] pos :: rest) (ct fun x => if x then ma else mb) :=
  ⟨hc.1, fun B F H σ Dn G sr gs hG => ⟨_, pss_cons (ps_if pt_C ps_C pss_nil) ps_C, hc.2 B F H σ _ _ G sr hx (gs.gx xb) (fun d v F1 H1 h1 e1 eh1 s1 d1 => by
    subst d1
    cases v with
    | true => exact iteT (ha.2 B F1 H1 σ _ G s1 (gs.stop.mono e1) h1)
    | false => exact iteF (hb.2 B F1 H1 σ Dn G s1 (gs.mono e1) h1)) hG⟩⟩
/-- an if that ends the block -/
theorem ab_ifL {c : Expr} {a b : List Stmt} {ct : (Bool → R β ω) → R β ω} {ma mb : R β ω} (xb : β) (hc : AT X K E (κ.fx xb) xb env c ct) (hx : Wk env (κ.fx xb)) (ha : AB X K E κ env a ma) (hb : AB X K E κ env b mb) : AB X K E κ env [.If c a b pos] (ct fun x => if x then ma else mb) :=
  ⟨hc.1, fun B F H σ Dn G sr gs hG => ⟨_, pss_one (ps_if pt_C ps_C ps_C), hc.2 B F H σ _ _ G sr hx (gs.gx xb) (fun d v F1 H1 h1 e1 eh1 s1 d1 => by
    subst d1
    cases v with
    | true => exact iteT (ha.2 B F1 H1 σ _ G s1 (gs.mono e1) h1)
    | false => exact iteF (hb.2 B F1 H1 σ Dn G s1 (gs.mono e1) h1)) hG⟩⟩

/-! ### targets -/
def AG (X : Cx) (K : PySem.W.Frag) {β ω : Type} (own : List Nat) (env : Fm) (tg : Expr) (d : D) (Y : Fm → R β ω → Prop) (m : R β ω) : Prop := X.K = K ∧ ∀ B F H σ v P (G : R β ω → Prop), SR K B F H σ env → Dr K F v d → ¬ G R.no → G m →
  (∀ env' m' σ', Y env' m' → SR K B F H σ' env' → σ'.length = σ.length → (∀ i : Nat, i ∉ own → σ'[i]? = σ[i]?) → G m' → P σ' H) → tgC X tg v σ H P
def AGs (X : Cx) (K : PySem.W.Frag) {β ω : Type} (own : List Nat) (env : Fm) (tg : List Expr) (ds : List D) (Y : Fm → R β ω → Prop) (m : R β ω) : Prop := X.K = K ∧ ∀ B F H σ vs P (G : R β ω → Prop), SR K B F H σ env → DrA K F vs ds → ¬ G R.no → G m →
  (∀ env' m' σ', Y env' m' → SR K B F H σ' env' → σ'.length = σ.length → (∀ i : Nat, i ∉ own → σ'[i]? = σ[i]?) → G m' → P σ' H) → tgsC X tg vs σ H P
section
variable {own : List Nat} {d : D} {Y : Fm → R β ω → Prop} {m : R β ω}
theorem ag_name (i : Nat) {x : Str} (hr : Y (fput env i (.fz d)) m) (hN : X.N.Nodup) (hx : Loc X.env.scope x) (hi : X.N[i]? = some x := by rfl) (ho : i ∈ own := by decide) (hK : X.K = K := by rfl) (hf : X.fn x = true ∨ X.env.scope.names.lookup x = some .local := by first | exact .inl rfl | exact .inr rfl | assumption) :
    AG X K own env (.Name x pos) d Y m :=
  ⟨hK, fun B F H σ v P G s hd hn hG hP => ⟨_, pg_name hN hi hx hf, hP _ m _ hr (s.setF hd) List.length_set (fun j hj => List.getElem?_set_ne (fun (z : i = j) => hj (z ▸ ho))) hG⟩⟩
theorem ags_nil (hr : Y env m) (hK : X.K = K := by rfl) : AGs X K own env [] [] Y m :=
  ⟨hK, fun B F H σ vs P G s hd hn hG hP => by
    cases hd
    exact ⟨_, pgs_nil, rfl, hP env m σ hr s rfl (fun _ _ => rfl) hG⟩⟩
theorem ags_cons {e : Expr} {es : List Expr} {ds : List D} (h : AG X K own env e d (fun env' m' => AGs X K own env' es ds Y m') m) (hs : (assignEach (e :: es) X.env).map (·.2) = assign e X.env :: (assignEach es X.env).map (·.2) := by rfl) : AGs X K own env (e :: es) (d :: ds) Y m :=
  ⟨h.1, fun B F H σ vs P G s hd hn hG hP => by
    cases hd with
    | cons h1 h2 =>
      refine ⟨_, pgs_cons pg_C pgs_C hs, _, _, rfl, h.2 B F H σ _ _ G s h1 hn hG fun env' m' σ' hy s' hl hk hG' => ?_⟩
      exact hy.2 B F H σ' _ P G s' h2 hn hG' fun env2 m2 σ2 hy2 s2 hl2 hk2 hG2 => hP env2 m2 σ2 hy2 s2 (hl2.trans hl) (fun i hi => (hk2 i hi).trans (hk i hi)) hG2⟩
theorem ag_tupN {es : List Expr} {k : Nat} {xs : List D} (hc : X.calm = true) (h : AGs X K own env es xs Y m) (hn : (assignEach es X.env).length = xs.length) (hst : (assignEach es X.env).findIdx? (·.1) = none) : AG X K own env (.Tuple es k pos) (.tup xs) Y m :=
  ⟨h.1, fun B F H σ v P G s hd hno hG hP => by
    have hK := h.1
    subst hK
    cases hd with
    | tup h3 h4 => exact ⟨_, pg_tup hc pgs_C hn hst, _, _, rfl, s.ex.st h3.sq, h4.length, h.2 B F H σ _ P G s h4 hno hG hP⟩⟩
theorem ag_lstN {es : List Expr} {k : Nat} {xs : List D} (hc : X.calm = true) (h : AGs X K own env es xs Y m) (hn : (assignEach es X.env).length = xs.length) (hst : (assignEach es X.env).findIdx? (·.1) = none) : AG X K own env (.Tuple es k pos) (.lst xs) Y m :=
  ⟨h.1, fun B F H σ v P G s hd hno hG hP => by
    have hK := h.1
    subst hK
    cases hd with
    | lst h3 h4 => exact ⟨_, pg_lst hc pgs_C hn hst, _, _, rfl, .inl (s.ex.rd h3), h4.length, h.2 B F H σ _ P G s h4 hno hG hP⟩⟩
theorem ag_no {tg : Expr} (hK : X.K = K := by rfl) : AG X K own env tg d Y R.no := ⟨hK, fun B F H σ v P G s hd hno hG hP => (hno hG).elim⟩
theorem ag_tup2 {a b : Expr} {k : Nat} {m : D → D → R β ω} (hc : X.calm = true) (h : ∀ x y, AGs X K own env [a, b] [x, y] Y (m x y)) (hn : (assignEach [a, b] X.env).length = 2 := by rfl) (hst : (assignEach [a, b] X.env).findIdx? (·.1) = none := by rfl) : AG X K own env (.Tuple [a, b] k pos) d Y (R.tup2 d m) := by
  unfold R.tup2
  split
  · exact ag_tupN hc (h _ _) hn hst
  · exact ag_lstN hc (h _ _) hn hst
  · exact ag_no (h .non .non).1
theorem ag_tup3 {a b c : Expr} {k : Nat} {m : D → D → D → R β ω} (hc : X.calm = true) (h : ∀ x y z, AGs X K own env [a, b, c] [x, y, z] Y (m x y z)) (hn : (assignEach [a, b, c] X.env).length = 3 := by rfl) (hst : (assignEach [a, b, c] X.env).findIdx? (·.1) = none := by rfl) : AG X K own env (.Tuple [a, b, c] k pos) d Y (R.tup3 d m) := by
  unfold R.tup3
  split
  · exact ag_tupN hc (h _ _ _) hn hst
  · exact ag_lstN hc (h _ _ _) hn hst
  · exact ag_no (h .non .non .non).1
theorem ag_tup5 {a b c e f : Expr} {k : Nat} {m : D → D → D → D → D → R β ω} (hc : X.calm = true) (h : ∀ x y z u v, AGs X K own env [a, b, c, e, f] [x, y, z, u, v] Y (m x y z u v)) (hn : (assignEach [a, b, c, e, f] X.env).length = 5 := by rfl) (hst : (assignEach [a, b, c, e, f] X.env).findIdx? (·.1) = none := by rfl) : AG X K own env (.Tuple [a, b, c, e, f] k pos) d Y (R.tup5 d m) := by
  unfold R.tup5
  split
  · exact ag_tupN hc (h _ _ _ _ _) hn hst
  · exact ag_lstN hc (h _ _ _ _ _) hn hst
  · exact ag_no (h .non .non .non .non .non).1
end
/-- a target, then the rest -/
theorem ab_asg {tg e : Expr} {own : List Nat} {c : (D → R β ω) → R β ω} {m : D → R β ω} (xb : β) (he : AE X K E (κ.fx xb) xb env e c) (hx : Wk env (κ.fx xb)) (hg : ∀ d, AG X K own env tg d (fun env' m' => AB X K E κ env' rest m') (m d))
    (hs : swapsWithSole [tg] e pos.line X.env = pure false := by rfl) (hw : swappedStores [tg] e X.env = pure none := by rfl) (h1 : (assignEach [tg] X.env).map (·.2) = [assign tg X.env] := by rfl) : AB X K E κ env (.Assign [tg] e pos :: rest) (c fun d => m d) :=
  ⟨he.1, fun B F H σ Dn G sr gs hG => ⟨_, pss_cons (ps_asg pe_C pg_C hs hw h1) ps_C, he.2 B F H σ _ _ G sr hx (gs.gx xb) (fun d v F1 H1 h1 e1 eh1 s1 d1 => (hg d).2 B F1 H1 σ v _ G s1 d1 gs.no h1 fun env' m' σ' hy s' _ _ hG' => hy.2 B F1 H1 σ' Dn G s' (gs.mono e1) hG') hG⟩⟩
/-- x, y = a, b -/
theorem ab_par {x y : Str} {a b : Expr} {cs : (List D → R β ω) → R β ω} {px py pt pt2 : Pos} {kt k2 : Nat} {m : D → D → R β ω} (i j : Nat) (xb : β) (ha : AA X K E (κ.fx xb) xb env [a, b] cs) (hx : Wk env (κ.fx xb)) (hr : ∀ u v, AB X K E κ (fput (fput env i (.fz u)) j (.fz v)) rest (m u v)) (hc : X.calm = true) (hN : X.N.Nodup)
    (hlx : X.env.scope.names.lookup x = some .local := by rfl) (hly : X.env.scope.names.lookup y = some .local := by rfl) (hij : i ≠ j := by decide) (hi : X.N[i]? = some x := by rfl) (hj : X.N[j]? = some y := by rfl)
    (hw : swappedStores [.Tuple [.Name x px, .Name y py] kt pt] (.Tuple [a, b] k2 pt2) X.env = pure (some [x, y]) := by rfl) (hs : swapsWithSole [.Tuple [.Name x px, .Name y py] kt pt] (.Tuple [a, b] k2 pt2) pos.line X.env = pure false := by rfl) :
    AB X K E κ env (.Assign [.Tuple [.Name x px, .Name y py] kt pt] (.Tuple [a, b] k2 pt2) pos :: rest) (cs fun ds => match ds with | [u, v] => m u v | _ => R.no) :=
  ⟨ha.1, fun B F H σ Dn G sr gs hG => ⟨_, pss_cons (ps_par hc hN hi hj hij hlx hly pa_C hw hs) ps_C, ha.2 B F H σ _ _ G sr hx (gs.gx xb) (fun ds vs F1 H1 h1 e1 eh1 s1 d1 => by
    match ds, d1, h1 with
    | [u, v], .cons g1 (.cons g2 .nil), h1 => exact ⟨_, _, rfl, (hr u v).2 B F1 H1 _ Dn G ((s1.setF g1).setF g2) (gs.mono e1) h1⟩
    | [], _, h1 => exact (gs.no h1).elim
    | [_], _, h1 => exact (gs.no h1).elim
    | _ :: _ :: _ :: _, _, h1 => exact (gs.no h1).elim) hG⟩⟩

/-! ### what is walked -/
def rI (K : PySem.W.Frag) (F : Hp) (J : It) (ds : List D) : Prop := ∀ F1 H1, Ex F F1 → Ex F1 H1 → (∀ i, i < ds.length → J.go i H1) ∧ (∀ i, ds.length ≤ i → J.stop i H1) ∧
  ∀ i x H2 d, ds[i]? = some d → J.yld i H1 x H2 → (Dr K F1 x d ∧ H2 = H1) ∨ ∃ p o, H1 p = none ∧ H2 = upd H1 p o ∧ Dr K (upd F1 p o) x d
def AI (X : Cx) (K : PySem.W.Frag) (E : XE) {β γ : Type} (xF : Fm) (xb : β) (env : Fm) (tg iter : Expr) (c : (List D → R β γ) → R β γ) : Prop := X.K = K ∧ AJ K E xF xb env (tiC X tg iter) (fun _ F _ _ J ds => rI K F J ds) c
def Kt.loop (κ : Kt β ω) (S : Type) (f : S → Fm) : Kt β (Step S) where
  fx := κ.fx
  Sn := S
  fn := f
  kn := fun s => .ok (.nx s)
  Sb := S
  fb := f
  kb := fun s => .ok (.bk s)
  Sc := S
  fc := f
  kc := fun s => .ok (.nx s)
  Sr := S
  fr := f
  kr := fun d s => .ok (.rt d s)
  nw := κ.nw
theorem ab_for {mE : R β ω} {tg iter : Expr} {body : List Stmt} {own : List Nat} {S : Type} (f : S → Fm) (s0 : S) (r : S → κ.Sr) {ci : (List D → R β ω) → R β ω} {mb : D → S → R β (Step S)} {k : S → R β ω} (xb : β) (hi : AI X K E (κ.fx xb) xb env tg iter ci) (hx : Wk env (κ.fx xb)) (h0 : Wk env (f s0)) (hrr : ∀ s, Wk (f s) (κ.fr (r s)))
    (hb : ∀ s d, AG X K own (f s) tg d (fun env' m' => AB X K E (κ.loop S f) env' body m') (mb d s)) (hr : ∀ s, AB X K E κ (f s) rest (k s)) (hnw : κ.nw = none) (hp : PassesOwn (model X.prog X.w) X.A X.env X.xe) (hc : X.calm = true) (eE : (ci fun ds => R.after (R.for' ds s0 mb) k fun d s => κ.kr d (r s)) = mE) (hs : ∀ x, foldedSetIterable iter X.env x = pure x := by intro _; rfl) :
    AB X K E κ env (.For tg iter body [] pos :: rest) mE := by
  subst eE
  refine ⟨hi.1, fun B F H σ Dn G sr gs hG => ⟨_, pss_cons (ps_for hp hc pi_C pg_C ps_C hs) ps_C, hi.2 B F H σ _ _ G sr hx (gs.gx xb) (fun ds J F1 H1 h1 e1 eh1 s1 r1 => ?_) hG⟩⟩
  refine ⟨fun i m σ' H' => ∃ F' s, m = ds.length - i ∧ i ≤ ds.length ∧ Ex F1 F' ∧ SR K B F' H' σ' (f s) ∧ G (R.after (R.for' (ds.drop i) s mb) k fun d s => κ.kr d (r s)),
    ⟨ds.length, F1, s0, by simp, Nat.zero_le _, Ex.refl F1, s1.wk h0, by simpa using h1⟩, ?_⟩
  rintro i m σ' H' ⟨F', s, rfl, hi', e', s', hp'⟩
  by_cases hlt : i < ds.length
  · right
    have hd : ds[i]? = some ds[i] := List.getElem?_eq_getElem hlt
    have hdrop : ds.drop i = ds[i] :: ds.drop (i + 1) := List.drop_eq_getElem_cons hlt
    rw [hdrop] at hp'
    obtain ⟨jgo, _, jy⟩ := r1 F' H' e' s'.ex
    refine ⟨jgo i hlt, fun σ'' H'' => ∃ F'' s'', Ex F1 F'' ∧ SR K B F'' H'' σ'' (f s'') ∧ G (R.after (R.for' (ds.drop (i + 1)) s'' mb) k fun d s => κ.kr d (r s)), ?_, ?_⟩
    · rintro σ'' H'' ⟨F'', s'', a1, a2, a3⟩
      exact ⟨ds.length - (i + 1), by omega, F'', s'', rfl, hlt, a1, a2, a3⟩
    · intro x H2 hy
      have key : ∃ F2, Ex F' F2 ∧ SR K B F2 H2 σ' (f s) ∧ Dr K F2 x ds[i] := by
        rcases jy i x H2 ds[i] hd hy with ⟨hx, rfl⟩ | ⟨p, o, hp0, rfl, hx⟩
        · exact ⟨F', Ex.refl F', s', hx⟩
        · exact ⟨upd F' p o, Ex.new (s'.ex.none hp0), s'.grow hp0, hx⟩
      obtain ⟨F2, e2, s2, hx2⟩ := key
      refine (hb s ds[i]).2 B F2 H2 σ' x _ (fun m => G (R.after (R.turn m fun s' => R.for' (ds.drop (i + 1)) s' mb) k fun d s => κ.kr d (r s))) s2 hx2 gs.no hp' fun env' m' σ2 hy2 s3 _ _ hG3 => ?_
      have e12 := e1.trans (e'.trans e2)
      refine hy2.2 B F2 H2 σ2 _ (fun m => G (R.after (R.turn m fun s' => R.for' (ds.drop (i + 1)) s' mb) k fun d s => κ.kr d (r s))) s3 ⟨gs.no, fun x b hx c dd F3 H3 σ3 e3 s4 x4 => gs.ex x b hx c dd F3 H3 σ3 (e12.trans e3) s4 x4, fun s4 hs4 F3 H3 σ3 e3 s5 => ⟨F3, s4, e'.trans (e2.trans e3), s5, hs4⟩, fun s4 hs4 F3 H3 σ3 e3 s5 => ?_, fun s4 hs4 F3 H3 σ3 e3 s5 => ⟨F3, s4, e'.trans (e2.trans e3), s5, hs4⟩, fun d s4 hs4 v F3 H3 σ3 e3 s5 d5 => ?_⟩ hG3
      · exact (hr s4).2 B F3 H3 σ3 Dn G s5 (gs.mono (e12.trans e3)) hs4
      · refine gs.rt d (r s4) hs4 v F3 H3 σ3 (e12.trans e3) (s5.wk (hrr s4)) ?_
        unfold rR at d5 ⊢
        rw [show (κ.loop S f).nw = none from hnw] at d5
        rw [hnw]
        exact d5
  · left
    have hie : i = ds.length := by omega
    subst hie
    rw [List.drop_length] at hp'
    obtain ⟨_, jstop, _⟩ := r1 F' H' e' s'.ex
    exact ⟨jstop _ (Nat.le_refl _), (hr s).2 B F' H' σ' Dn G s' (gs.mono (e1.trans e')) hp'⟩
/-- while -/
theorem ab_while {mE : R β ω} {c : Expr} {body : List Stmt} {S : Type} (f : S → Fm) (s0 : S) (r : S → κ.Sr) {ct : S → (Bool → R β (Step S)) → R β (Step S)} {mb : S → R β (Step S)} {k : S → R β ω} (xb : S → β) (h0 : Wk env (f s0)) (hx : ∀ s, Wk (f s) (κ.fx (xb s))) (hrr : ∀ s, Wk (f s) (κ.fr (r s)))
    (hc : ∀ s, AT X K E (κ.fx (xb s)) (xb s) (f s) c (ct s)) (hb : ∀ s, AB X K E (κ.loop S f) (f s) body (mb s)) (hr : ∀ s, AB X K E κ (f s) rest (k s)) (hnw : κ.nw = none) (hp : PassesOwn (model X.prog X.w) X.A X.env X.xe) (eE : (R.after (R.whl (fun s => ct s fun b => if b then mb s else R.ok (.bk s)) s0) k fun d s => κ.kr d (r s)) = mE) :
    AB X K E κ env (.While c body [] pos :: rest) mE := by
  subst eE
  refine ⟨(hr s0).1, fun B F H σ Dn G sr gs hG => ⟨_, pss_cons (ps_while hp pt_C ps_C) ps_C, ?_⟩⟩
  have hne : R.whl (fun s => ct s fun b => if b then mb s else R.ok (.bk s)) s0 ≠ .no := fun z => by rw [z] at hG; exact gs.no hG
  obtain ⟨n, hn1, hn2⟩ := R.whl_some hne
  rw [hn1] at hG
  refine ⟨fun m σ' H' => ∃ F' s, Ex F F' ∧ SR K B F' H' σ' (f s) ∧ G (R.after (R.whlN (fun s => ct s fun b => if b then mb s else R.ok (.bk s)) m s) k fun d s => κ.kr d (r s)), ⟨n, F, s0, Ex.refl F, sr.wk h0, hG⟩, ?_⟩
  rintro m σ' H' ⟨F', s, e', s', hp'⟩
  cases m with
  | zero => exact (gs.no hp').elim
  | succ m =>
    refine (hc s).2 B F' H' σ' _ _ (fun q => G (R.after (R.turn q fun s' => R.whlN (fun s => ct s fun b => if b then mb s else R.ok (.bk s)) m s') k fun d s => κ.kr d (r s))) s' (hx s) ⟨gs.no, fun x hx c dd F3 H3 e3 s4 x4 => gs.ex x (xb s) hx c dd F3 H3 σ' (e'.trans e3) s4 x4⟩ (fun d v F1 H1 h1 e1 eh1 s1 d1 => ?_) hp'
    subst d1
    have e12 := e'.trans e1
    cases v with
    | false => exact iteF ((hr s).2 B F1 H1 σ' Dn G s1 (gs.mono e12) h1)
    | true =>
      refine iteT ⟨fun σ'' H'' => ∃ F'' s'', Ex F F'' ∧ SR K B F'' H'' σ'' (f s'') ∧ G (R.after (R.whlN (fun s => ct s fun b => if b then mb s else R.ok (.bk s)) m s'') k fun d s => κ.kr d (r s)), fun σ'' H'' ⟨F'', s'', a1, a2, a3⟩ => ⟨m, by omega, F'', s'', a1, a2, a3⟩, ?_⟩
      refine (hb s).2 B F1 H1 σ' _ (fun q => G (R.after (R.turn q fun s' => R.whlN (fun s => ct s fun b => if b then mb s else R.ok (.bk s)) m s') k fun d s => κ.kr d (r s))) s1 ⟨gs.no, fun x b hx c dd F3 H3 σ3 e3 s4 x4 => gs.ex x b hx c dd F3 H3 σ3 (e12.trans e3) s4 x4, fun s4 hs4 F3 H3 σ3 e3 s5 => ⟨F3, s4, e12.trans e3, s5, hs4⟩, fun s4 hs4 F3 H3 σ3 e3 s5 => ?_, fun s4 hs4 F3 H3 σ3 e3 s5 => ⟨F3, s4, e12.trans e3, s5, hs4⟩, fun d s4 hs4 v F3 H3 σ3 e3 s5 d5 => ?_⟩ h1
      · exact (hr s4).2 B F3 H3 σ3 Dn G s5 (gs.mono (e12.trans e3)) hs4
      · refine gs.rt d (r s4) hs4 v F3 H3 σ3 (e12.trans e3) (s5.wk (hrr s4)) ?_
        unfold rR at d5 ⊢
        rw [show (κ.loop S f).nw = none from hnw] at d5
        rw [hnw]
        exact d5
end
end DM

/-! What is walked; comprehensions. -/
namespace DM
open PySem PySem.Spec PyProof.Rows L2 DL
def chars (z : Str) : List D := z.cps.toList.map fun c => .str ⟨#[c]⟩
def rngD (lo : Int) (n : Nat) : List D := (List.range n).map fun i => .int (lo + (i : Nat))
def enumD (ds : List D) : List D := (List.range ds.length).zipWith (fun i d => .tup [.int (i : Nat), d]) ds
namespace R
variable {β γ : Type}
/-- the items of a list, a tuple, a text -/
def items (d : D) (k : List D → R β γ) : R β γ := match d with
  | .tup ds => k ds
  | .lst ds => k ds
  | .str z => k (chars z)
  | _ => .no
def rng1 (d : D) (k : List D → R β γ) : R β γ := match d with
  | .int j => if -(2 ^ 62) ≤ j ∧ j < 2 ^ 62 then k (rngD 0 j.toNat) else .no
  | _ => .no
def rng2 (d e : D) (k : List D → R β γ) : R β γ := match d, e with
  | .int i, .int j => if -(2 ^ 62) ≤ i ∧ i < 2 ^ 62 ∧ -(2 ^ 62) ≤ j ∧ j < 2 ^ 62 then k (rngD i (j - i).toNat) else .no
  | _, _ => .no
def enum (d : D) (k : List D → R β γ) : R β γ := match d with
  | .lst ds => k (enumD ds)
  | _ => .no
/-- [f d for d in ds] -/
def map (f : D → R Unit D) : List D → R Unit (List D)
  | [] => .ok []
  | d :: ds => match f d with
    | .ok y => match map f ds with
      | .ok ys => .ok (y :: ys)
      | _ => .no
    | _ => .no
/-- [.. for d in ds if ..]: none: left out -/
def fmap (f : D → R Unit (Option D)) : List D → R Unit (List D)
  | [] => .ok []
  | d :: ds => match f d with
    | .ok y => match fmap f ds with
      | .ok ys => .ok (match y with
        | some y => y :: ys
        | none => ys)
      | _ => .no
    | _ => .no
/-- .. where the items change a thing -/
def fmapS {S : Type} (f : D → S → R Unit (Option D × S)) : List D → S → R Unit (List D × S)
  | [], s => .ok ([], s)
  | d :: ds, s => match f d s with
    | .ok (y, s1) => match fmapS f ds s1 with
      | .ok (ys, s2) => .ok (match y with
        | some y => y :: ys
        | none => ys, s2)
      | _ => .no
    | _ => .no
end R
section
variable {X : Cx} {K : PySem.W.Frag} {E : XE} {β γ : Type} {xF : Fm} {xb : β} {env : Fm} {tg e a b : Expr} {pos p : Pos} {c1 c2 : (D → R β γ) → R β γ}
theorem rI_lst {F : Hp} {q : Addr} {xs : List V} {ds : List D} (h1 : Rd F q (.lst xs)) (h2 : DrA K F xs ds) : rI K F (Itl K q) ds := by
  intro F2 H2 e2 e3
  have hqq : SqL K _ _ _ := .inl ((e2.trans e3).rd h1)
  refine ⟨fun i hi => ?_, fun i hi => ⟨_, hqq, by rw [h2.length]; exact hi⟩, fun i x H2 d hd hy => Or.inl ?_⟩
  · obtain ⟨v, e, _⟩ := h2.get (List.getElem?_eq_getElem hi)
    exact ⟨_, v, hqq, e⟩
  · obtain ⟨v, e, hv⟩ := h2.get hd
    have ex := hy.2 _ hqq
    rw [e] at ex
    cases ex
    exact ⟨hv.mono e2, hy.1⟩
/-- what is walked, by its value -/
def IterR (X : Cx) (tg : Expr) (r : V → Hp → (It → Hp → Prop) → Prop) : Prop := ∀ (pins : List (Addr × Obj)) (s : Shared) (σ : L2.St) (H : Hp) (v : V) (u : Value) (R : It → Hp → Prop), Inv X pins σ H s → RelV v u → r v H R → wpAny (model X.prog X.w) X.A (pyIter u) (PIE X pins σ tg R) X.xe s
theorem pi_by {te : TE} {r : V → Hp → (It → Hp → Prop) → Prop} (he : PE X e te) (hr : IterR X tg r) : PI X tg e (fun σ H R => te σ H fun v H1 => r v H1 R) :=
  ⟨fun pins s σ H R I h => thn (he.run pins s σ H _ I h) fun v s1 ⟨x, H1, I1, r1, q1⟩ => hr pins s1 σ H1 x v R I1 r1 q1⟩
theorem itR_list : IterR X tg (fun x H1 R => ∃ a, x = .ref a ∧ (∃ xs, SqL X.K H1 a xs) ∧ R (Itl X.K a) H1) := by
  intro pins s1 σ H1 v u R I1 r1 q1
  obtain ⟨a, e, ⟨xs, hq⟩, q⟩ := q1
  subst e
  cases r1
  obtain ⟨its, rv, p, hz⟩ := I1.list hq
  refine wpAny_pyIter_list p.isList ?_
  refine ⟨s1.heap.objs.size, [s1.heap.objs.size], _, _, H1, rfl, I1.kept (t' := s1.toks) fun b o e => Heap.get?_push_of_some _ e, turn_list a _, ⟨_, Heap.get?_push_size _ rfl, rfl, rfl⟩, fun b hb => ?_, q⟩
  have e : b = s1.heap.objs.size := by simpa using hb
  subst e
  exact I1.fpOk (Nat.le_refl _) (I1.hok.fresh (Nat.le_refl _))
theorem itR_tup : IterR X tg (fun x H1 R => ∃ a, x = .ref a ∧ (∃ xs, SqT X.K H1 a xs) ∧ R (Itt X.K a) H1) := by
  intro pins s1 σ H1 v u R I1 r1 q1
  obtain ⟨a, e, ⟨xs, hq⟩, q⟩ := q1
  subst e
  cases r1
  obtain ⟨its, rv, p, hz⟩ := I1.tuple hq
  refine wpAny_pyIter_tuple (show s1.heap.IsTuple a its.toArray from p) ?_
  refine ⟨s1.heap.objs.size, [s1.heap.objs.size], _, _, H1, rfl, I1.kept (t' := s1.toks) fun b o e => Heap.get?_push_of_some _ e, turn_tuple a _, ⟨_, Heap.get?_push_size _ rfl, rfl, rfl⟩, fun b hb => ?_, q⟩
  have e : b = s1.heap.objs.size := by simpa using hb
  subst e
  exact I1.fpOk (Nat.le_refl _) (I1.hok.fresh (Nat.le_refl _))
theorem itR_str : IterR X tg (fun v H1 R => ∃ x, v = .str x ∧ R (Its x) H1) := by
  intro pins s1 σ H1 v u R I1 r1 q1
  obtain ⟨x, ex, q⟩ := q1
  subst ex
  obtain ⟨t, rfl⟩ := r1
  cases ha : x.cps.all (· < 128)
  · exact wpAny_pyIter_wide ha (pi_one (tk := s1.toks) I1 _ (turn_str _ x t "str_iterator" (.inr rfl)) ⟨_, Heap.get?_push_size _ rfl, rfl, rfl⟩ q)
  · exact wpAny_pyIter_ascii ha (pi_one (tk := s1.toks) I1 _ (turn_str _ x t "str_ascii_iterator" (.inl rfl)) ⟨_, Heap.get?_push_size _ rfl, rfl, rfl⟩ q)
theorem IterR.or {r r' : V → Hp → (It → Hp → Prop) → Prop} (h : IterR X tg r) (h' : IterR X tg r') : IterR X tg (fun v H R => r v H R ∨ r' v H R) := fun pins s σ H v u R I rv q => q.elim (h pins s σ H v u R I rv) (h' pins s σ H v u R I rv)
theorem rI_tup {F : Hp} {q : Addr} {xs : List V} {ds : List D} (h2 : SqT K F q xs) (h3 : DrA K F xs ds) : rI K F (Itt K q) ds := by
  intro F2 H2 e2 e3
  have hqq := (e2.trans e3).st h2
  refine ⟨fun i hi => ?_, fun i hi => ⟨_, hqq, by rw [h3.length]; exact hi⟩, fun i x H2 d hd hy => Or.inl ?_⟩
  · obtain ⟨v, e, _⟩ := h3.get (List.getElem?_eq_getElem hi)
    exact ⟨_, v, hqq, e⟩
  · obtain ⟨v, e, hv⟩ := h3.get hd
    have ex := hy.2 _ hqq
    rw [e] at ex
    cases ex
    exact ⟨hv.mono e2, hy.1⟩
theorem rI_str {F : Hp} (z : Str) : rI K F (Its z) (chars z) := by
  intro F2 H2 e2 e3
  have hl : (chars z).length = z.cps.size := by unfold chars; rw [List.length_map, Array.length_toList]
  refine ⟨fun i hi => ?_, fun i hi => ?_, fun i x H2 d hd hy => Or.inl ?_⟩
  · rw [hl] at hi; exact hi
  · rw [hl] at hi; exact hi
  · obtain ⟨e4, c, hc, rfl⟩ := hy
    refine ⟨?_, e4⟩
    unfold chars at hd
    rw [List.getElem?_map, Array.getElem?_toList, hc] at hd
    cases hd
    exact .str _
theorem ai_items (h : AE X K E xF xb env e c1) : AI X K E xF xb env tg e (fun (k : List D → R β γ) => c1 fun d => R.items d k) := by
  have hK := h.1
  subst hK
  refine ⟨rfl, fun B F H σ Q k G s w gx hk hG => ⟨_, pi_by pe_C (itR_list.or (itR_tup.or itR_str)), ?_⟩⟩
  refine h.2 B F H σ _ _ G s w gx (fun d v F1 H1 h1 e1 eh1 s1 d1 => ?_) hG
  cases d <;> first | exact (gx.no h1).elim | skip
  · cases d1
    exact .inr (.inr ⟨_, rfl, hk _ _ F1 H1 h1 e1 eh1 s1 (rI_str _)⟩)
  · cases d1 with
    | lst h2 h3 => exact .inl ⟨_, rfl, ⟨_, .inl (s1.ex.rd h2)⟩, hk _ _ F1 H1 h1 e1 eh1 s1 (rI_lst h2 h3)⟩
  · cases d1 with
    | tup h2 h3 => exact .inr (.inl ⟨_, rfl, ⟨_, s1.ex.st h2.sq⟩, hk _ _ F1 H1 h1 e1 eh1 s1 (rI_tup h2.sq h3)⟩)
theorem rI_rng {F : Hp} (lo : Int) (n : Nat) : rI K F (Itr lo n) (rngD lo n) := by
  intro F2 H2 e2 e3
  have hl : (rngD lo n).length = n := by unfold rngD; rw [List.length_map, List.length_range]
  refine ⟨fun i hi => ?_, fun i hi => ?_, fun i x H2 d hd hy => Or.inl ?_⟩
  · rw [hl] at hi; exact hi
  · rw [hl] at hi; exact hi
  · obtain ⟨e4, rfl⟩ := hy
    refine ⟨?_, e4⟩
    unfold rngD at hd
    rw [List.getElem?_map] at hd
    cases q : (List.range n)[i]? with
    | none => rw [q] at hd; cases hd
    | some k =>
      rw [q] at hd
      cases hd
      obtain ⟨h1, h2⟩ := List.getElem?_eq_some_iff.mp q
      rw [List.getElem_range] at h2
      subst h2
      exact .int _
theorem ai_rng1 (hm : X.mg "range" = none) (hg : Gl X "range") (ha : AL X K E xF xb env a c1) (hs : starEach [a] X.env = [(false, eval a X.env)] := by rfl) : AI X K E xF xb env tg (.Call (.Name "range" p) [a] [] pos) (fun (k : List D → R β γ) => c1 fun d => R.rng1 d k) :=
  ⟨ha.1, fun B F H σ Q k G s w gx hk hG => ⟨_, pi_range1 hg hm (pa_cons pe_C pa_nil hs) hs, ha.2 B F H σ _ _ G s w gx (fun d v F1 H1 h1 e1 eh1 s1 d1 => by
    cases d <;> first | exact (gx.no h1).elim | skip
    rename_i j
    have h1 : G (if -(2 ^ 62) ≤ j ∧ j < 2 ^ 62 then k (rngD 0 j.toNat) else .no) := h1
    split at h1
    · rename_i hj
      exact ⟨j, by rw [d1.int], hj.1, hj.2, hk _ _ F1 H1 h1 e1 eh1 s1 (rI_rng 0 j.toNat)⟩
    · exact (gx.no h1).elim) hG⟩⟩
theorem ai_rng2 (hm : X.mg "range" = none) (hg : Gl X "range") (ha : AL X K E xF xb env a c1) (hb : AL X K E xF xb env b c2) (hs : starEach [a, b] X.env = [(false, eval a X.env), (false, eval b X.env)] := by rfl) (hs2 : starEach [b] X.env = [(false, eval b X.env)] := by rfl) : AI X K E xF xb env tg (.Call (.Name "range" p) [a, b] [] pos) (fun (k : List D → R β γ) => c1 fun d => c2 fun e => R.rng2 d e k) :=
  ⟨ha.1, fun B F H σ Q k G s w gx hk hG => ⟨_, pi_range2 hg hm (pa_cons pe_C (pa_cons pe_C pa_nil hs2) (by rw [hs, hs2])) hs hs2, ha.2 B F H σ _ _ G s w gx (fun d v F1 H1 h1 e1 eh1 s1 d1 => hb.2 B F1 H1 σ _ _ G s1 w (gx.mono e1) (fun d' v' F2 H2 h2 e2 eh2 s2 d2 => by
    cases d <;> first | exact (gx.no h2).elim | skip
    cases d' <;> first | exact (gx.no h2).elim | skip
    rename_i i j
    have h2 : G (if -(2 ^ 62) ≤ i ∧ i < 2 ^ 62 ∧ -(2 ^ 62) ≤ j ∧ j < 2 ^ 62 then k (rngD i (j - i).toNat) else .no) := h2
    split at h2
    · rename_i hj
      exact ⟨i, j, by rw [d1.int, d2.int], hj, hk _ _ F2 H2 h2 (e1.trans e2) (eh1.trans eh2) s2 (rI_rng i (j - i).toNat)⟩
    · exact (gx.no h2).elim) h1) hG⟩⟩
theorem enumD_get {ds : List D} {i : Nat} {d : D} (h : (enumD ds)[i]? = some d) : ∃ e, ds[i]? = some e ∧ d = .tup [.int (i : Nat), e] := by
  unfold enumD at h
  rw [List.getElem?_zipWith] at h
  cases q1 : (List.range ds.length)[i]? with
  | none => rw [q1] at h; cases h
  | some k =>
    cases q2 : ds[i]? with
    | none => rw [q1, q2] at h; cases h
    | some e =>
      rw [q1, q2] at h
      cases h
      obtain ⟨_, h2⟩ := List.getElem?_eq_some_iff.mp q1
      rw [List.getElem_range] at h2
      subst h2
      exact ⟨e, rfl, rfl⟩
theorem enumD_length (ds : List D) : (enumD ds).length = ds.length := by
  unfold enumD
  rw [List.length_zipWith, List.length_range, Nat.min_self]
/-- the list at a as it stands at each turn, the items in new pairs that are kept as they are -/
def ItE (K : PySem.W.Frag) (a : Addr) : It where
  go := fun i H => ∃ (xs : List V) (x : V), SqL K H a xs ∧ xs[i]? = some x
  yld := fun i H v H' => ∃ T o x, v = .ref T ∧ H T = none ∧ o.dict = none ∧ H' = upd H T (.frz o (.tup [.int (i : Nat), x])) ∧ ∀ xs, SqL K H a xs → xs[i]? = some x
  stop := fun i H => ∃ xs : List V, SqL K H a xs ∧ xs.length ≤ i
theorem turn_enumZ {P : Program} {w : World} {K : PySem.W.Frag} {elts : List Expr} {kk : Nat} {tpos : Pos} (a e it : Addr) :
    Turn P w K (.Tuple elts kk tpos) (ItE K a) [e, it] e (fun i h => (∃ old, IsEnum h e it ((i : Nat) : Int) old) ∧ h.IsListIter it a i ∧ e ≠ it) := by
  have T0 := turn_enum (P := P) (w := w) (K := K) (elts := elts) (kk := kk) (tpos := tpos) a e it
  refine ⟨T0.mem, T0.obj, T0.keep, ?_, fun X hP hw hK hc i pins s σ H E I hf st hg => T0.done X hP hw hK hc i pins s σ H E I hf st hg, T0.self⟩
  intro X hP hw hK hc i pins s σ H E I hf st hg
  subst hP hw hK
  obtain ⟨⟨old, he⟩, hit, hne⟩ := st
  obtain ⟨xs, x, hq, hx⟩ := hg
  obtain ⟨its, rv, pl, hz⟩ := I.list hq
  obtain ⟨u, hu, ru⟩ := rv.get hx
  have big : ∀ b ∈ [e, it], b < s.heap.objs.size := fun b hb => by
    rcases List.mem_cons.mp hb with z | z
    · rw [z]; exact Heap.lt_size he
    · obtain ⟨_, q, _⟩ := hit
      rw [List.mem_singleton.mp z]; exact Heap.lt_size q
  have hfr : H s.heap.objs.size = none := I.hok.fresh (Nat.le_refl _)
  refine wpAny_pyNext_enum_item he hit pl.isList (x := u) (by simpa using hu) hne fun h1 ho hit' hT hsz hk => ⟨_, rfl, wpAny_letOwnedTupleGo_enum (s := { s with heap := h1, toks := s.toks + 1 }) ho fun h2 he' sb => ?_⟩
  have hT2 := (sb.2 _ (Nat.ne_of_gt (big e List.mem_cons_self))).trans hT
  refine ⟨.ref s.heap.objs.size, upd H s.heap.objs.size (.frz _ (.tup [.int (i : Nat), x])), I.turnedNew (ch := [e, it]) (fun b ob hb q => (sb.2 b (fun z => hb (by simp [z]))).trans (hk b ob (fun z => hb (by simp [z])) (fun z => hb (by simp [z])) q)) hf (Nat.le_refl _)
    (show _ = _ ∧ _ from ⟨hT2, (by decide : 2 ≤ sizeLine), [.int i s.toks, u], .cons ⟨_, rfl⟩ (.cons ru .nil), _, hT2, rfl, _, rfl⟩), rfl, ⟨_, _, x, rfl, hfr, rfl, rfl, fun ys hy => by rw [I.list_inj hy hq]; exact hx⟩, ⟨⟨u, by push_cast; exact he'⟩, hit'.at fun o q => (sb.2 it (Ne.symm hne)).trans q, hne⟩, fun b hb => ?_⟩
  rw [upd_ne (Nat.ne_of_lt (big b hb))]
  exact (hf b hb).1
theorem pi_enumZ {ta : TA} {elts : List Expr} {kk : Nat} {tpos : Pos} (hg : Gl X "enumerate") (hm : X.mg "enumerate" = none) (ha : PA X [e] ta) (hs : starEach [e] X.env = [(false, eval e X.env)] := by rfl) :
    PI X (.Tuple elts kk tpos) (.Call (.Name "enumerate" p) [e] [] pos) (fun σ H R => ta σ H fun vs H1 => ∃ a xs, vs = [.ref a] ∧ SqL X.K H1 a xs ∧ R (ItE X.K a) H1) := by
  refine ⟨fun pins s σ H R I h => Call_ (ld_blt I hg hm boot_enumerate (PyProof.Rows.callWith_type1 (thn (ha.run pos pins s σ H _ I h) fun us s1 ⟨vs, H1, I1, r1, q1⟩ => ?_) hs rfl))⟩
  obtain ⟨a, xs, rfl, hq, q⟩ := q1
  obtain ⟨u, rfl, ru⟩ := vals1 r1
  cases ru
  obtain ⟨its, rv, pl, hz⟩ := I1.list hq
  refine call_enumerate_list pl.isList fun h' he hit hsz hk => wpAny_pyIter_enum he ?_
  refine ⟨s1.heap.objs.size + 1, [s1.heap.objs.size + 1, s1.heap.objs.size], _, _, H1, rfl, I1.kept (t' := s1.toks) hk, turn_enumZ a (s1.heap.objs.size + 1) s1.heap.objs.size, ⟨⟨.none, he⟩, hit, Nat.succ_ne_self _⟩, fun b hb => ?_, q⟩
  have hle : s1.heap.objs.size ≤ b := by
    rcases List.mem_cons.mp hb with z | z
    · rw [z]; exact Nat.le_succ _
    · rw [List.mem_singleton.mp z]; exact Nat.le_refl _
  exact I1.fpOk hle (I1.hok.fresh hle)
theorem rI_enum {F : Hp} {q : Addr} {xs : List V} {ds : List D} (h1 : Rd F q (.lst xs)) (h2 : DrA K F xs ds) : rI K F (ItE K q) (enumD ds) := by
  intro F2 H2 e2 e3
  have hqq : SqL K _ _ _ := .inl ((e2.trans e3).rd h1)
  refine ⟨fun i hi => ?_, fun i hi => ⟨_, hqq, by rw [h2.length]; rw [enumD_length] at hi; exact hi⟩, fun i x H3 d hd hy => Or.inr ?_⟩
  · rw [enumD_length] at hi
    obtain ⟨v, e, _⟩ := h2.get (List.getElem?_eq_getElem hi)
    exact ⟨_, v, hqq, e⟩
  · obtain ⟨T, o, x', rfl, hT, ho, rfl, hx⟩ := hy
    obtain ⟨e, he, rfl⟩ := enumD_get hd
    obtain ⟨v, ev, hv⟩ := h2.get he
    have ex := hx _ hqq
    rw [ev] at ex
    cases ex
    have hF : F2 T = none := e3.none hT
    refine ⟨T, _, hT, rfl, .tup (Or.inl ⟨o, upd_same, ho⟩) (.cons (.int _) (.cons ((hv.mono e2).mono (Ex.new hF)) .nil))⟩
theorem ai_enum {elts : List Expr} {kk : Nat} {tpos : Pos} (hm : X.mg "enumerate" = none) (hg : Gl X "enumerate") (ha : AE X K E xF xb env a c1) (hs : starEach [a] X.env = [(false, eval a X.env)] := by rfl) : AI X K E xF xb env (.Tuple elts kk tpos) (.Call (.Name "enumerate" p) [a] [] pos) (fun (k : List D → R β γ) => c1 fun d => R.enum d k) := by
  have hK := ha.1
  subst hK
  exact ⟨rfl, fun B F H σ Q k G s w gx hk hG => ⟨_, pi_enumZ hg hm (pa_cons pe_C pa_nil hs) hs, ha.2 B F H σ _ _ G s w gx (fun d v F1 H1 h1 e1 eh1 s1 d1 => by
    cases d <;> first | exact (gx.no h1).elim | skip
    cases d1 with
    | lst h2 h3 => exact ⟨_, _, rfl, .inl (s1.ex.rd h2), hk _ _ F1 H1 h1 e1 eh1 s1 (rI_enum h2 h3)⟩) hG⟩⟩
end
end DM

/-! List comprehensions. -/
namespace DM
open PySem PySem.Spec PyProof.Rows L2 DL
def ttsC (X : Cx) (ifs : List Expr) : TT := fun σ H Q => ∃ t, PTs X ifs t ∧ t σ H Q
theorem pts_C {X : Cx} {ifs : List Expr} : PTs X ifs (ttsC X ifs) := ⟨fun pins s σ H Q I ⟨_, h, ht⟩ => h.run pins s σ H Q I ht⟩
/-- the block of a comprehension, wherever it runs -/
abbrev BI := Shared × Hp × Addr × List (Str × Addr) × List Addr
abbrev Xb (X : Cx) (scope : Scope) (i : BI) : Cx := X.blk i.1 i.2.1 scope (compEnvC scope i.2.2.2.1 i.2.2.1 X.env) i.2.2.2.2
/-- an item of a comprehension: its tests, what it gives; f: the frames between items -/
def AEl (Xs : BI → Cx) (K : PySem.W.Frag) {S : Type} (f : S → Fm) (pu : Bool) (env : Fm) (ifs : List Expr) (elt : Expr) (m : R Unit (Option D × S)) : Prop := ∀ B F H σ (P0 : Hp → Prop) (P1 : VK) (G : R Unit (Option D × S) → Prop), SR K B F H σ env → ¬ G .no → (∀ x b, ¬ G (.ex x b)) →
  (∀ s F' H', G (.ok (none, s)) → Ex F F' → (pu = true → Ex H H') → SR K B F' H' σ (f s) → P0 H') → (∀ y s v F' H', G (.ok (some y, s)) → Ex F F' → (pu = true → Ex H H') → SR K B F' H' σ (f s) → Dr K F' v y → P1 v H') → G m →
  ∀ i, ttsC (Xs i) ifs σ H fun b H1 => if b = true then ∀ j, teC (Xs j) elt σ H1 P1 else P0 H1
abbrev E0x : XE := fun _ _ _ _ => False
section
variable {Xs : BI → Cx} {K : PySem.W.Frag} {S : Type} {f : S → Fm} {env : Fm} {elt t : Expr}
theorem ael_1 {mE : R Unit (Option D × S)} {c : (D → R Unit (Option D × S)) → R Unit (Option D × S)} (s0 : S) (h : ∀ i, AE (Xs i) K E0x env () env elt c) (hw : Wk env (f s0)) (eE : (c fun y => .ok (some y, s0)) = mE) : AEl Xs K f true env [] elt mE := by
  subst eE
  exact fun B F H σ P0 P1 G s hno hex h0 h1 hG i => ⟨_, pts_nil, by
    show if true = true then ∀ j, teC (Xs j) elt σ H P1 else P0 H
    rw [if_pos rfl]
    exact fun j => (h j).2 B F H σ P1 _ G s (Wk.refl env) ⟨hno, fun x z => (hex x _ z).elim⟩ (fun d v F' H' g e eh s' d' => h1 d s0 v F' H' g e (fun _ => eh) (s'.wk hw) d') hG⟩
theorem ael_if {mE : R Unit (Option D × S)} {ct : (Bool → R Unit (Option D × S)) → R Unit (Option D × S)} {c : (D → R Unit (Option D × S)) → R Unit (Option D × S)} (s0 : S) (ht : ∀ i, AT (Xs i) K E0x env () env t ct) (h : ∀ i, AE (Xs i) K E0x env () env elt c) (hw : Wk env (f s0)) (eE : (ct fun b => if b then c fun y => .ok (some y, s0) else .ok (none, s0)) = mE) : AEl Xs K f true env [t] elt mE := by
  subst eE
  exact fun B F H σ P0 P1 G s hno hex h0 h1 hG i => ⟨_, pts_one pt_C, (ht i).2 B F H σ _ _ G s (Wk.refl env) ⟨hno, fun x z => (hex x _ z).elim⟩ (fun b v F1 H1 g1 e1 eh1 s1 d1 => by
    subst d1
    cases v with
    | true =>
      rw [if_pos rfl]
      exact fun j => (h j).2 B F1 H1 σ P1 _ G s1 (Wk.refl env) ⟨hno, fun x z => (hex x _ z).elim⟩ (fun d v F' H' g e eh s' d' => h1 d s0 v F' H' g (e1.trans e) (fun _ => eh1.trans eh) (s'.wk hw) d') g1
    | false =>
      rw [if_neg (by decide)]
      exact h0 s0 F1 H1 g1 e1 (fun _ => eh1) (s1.wk hw)) hG⟩
end
theorem wipe_in {σ : L2.St} {i : Nat} : ∀ {vs : List Nat}, i ∈ vs → (wipe σ vs)[i]? = if i < σ.length then some none else none
  | v :: vs, hi => by
    unfold wipe
    by_cases e : v = i
    · subst e
      by_cases hl : v < σ.length
      · rw [if_pos hl, List.getElem?_set_self (by rw [wipe_length]; exact hl)]
      · rw [if_neg hl, List.getElem?_eq_none (by rw [List.length_set, wipe_length]; omega)]
    · rw [List.getElem?_set_ne e]
      exact wipe_in (by rcases List.mem_cons.mp hi with z | z; exact absurd z.symm e; exact z)
theorem wipe_ext {σ σ2 : L2.St} {vs : List Nat} (hl : σ2.length = σ.length) (h : ∀ i : Nat, i ∉ vs → σ2[i]? = σ[i]?) : wipe σ2 vs = wipe σ vs := by
  apply List.ext_getElem?
  intro i
  by_cases hi : i ∈ vs
  · rw [wipe_in hi, wipe_in hi, hl]
  · rw [wipe_out hi, wipe_out hi]
    exact h i hi
theorem hu_nil {env : Fm} : ∀ j ∈ ([] : List Nat), fget env j = .un := fun j h => nomatch h
theorem hu_cons {env : Fm} {i : Nat} {is : List Nat} (h : fget env i = .un) (t : ∀ j ∈ is, fget env j = .un) : ∀ j ∈ i :: is, fget env j = .un := fun j hj => by
  rcases List.mem_cons.mp hj with z | z
  · rw [z]; exact h
  · exact t j z
theorem tk0 {X : Cx} : ∀ σ, PassesAt (L2.CX X.prog X.w) X σ (E0x σ) := fun σ => passAt takes0 σ
/-- none of the frame's own things holds a -/
def Nob (K : PySem.W.Frag) (F H : Hp) (σ : L2.St) (env : Fm) (a : Addr) : Prop := ∀ i t d fs p S, fget env i = .ow t d fs → σ[i]? = some (some (.ref p)) → Own K F H p d fs S → a ∉ S
section
variable {K : PySem.W.Frag} {B : Bs} {F H : Hp} {σ : L2.St} {env : Fm} {a : Addr}
theorem Nob.of (s : SR K B F H σ env) (h : ∀ ft, Hs K B F H σ env ft → ¬ owned env ft a) : Nob K F H σ env a := fun i t d fs p S e1 e2 o ha => by
  obtain ⟨ft, hf⟩ := s.own
  obtain ⟨q, h1, h2, _⟩ := hf.ow i t d fs e1
  rw [e2] at h1
  cases h1
  rw [← foot_same h2 (Ex.refl _) o] at ha
  exact h ft hf ⟨i, t, d, fs, e1, ha⟩
theorem Nob.to (h : Nob K F H σ env a) : ∀ ft, Hs K B F H σ env ft → ¬ owned env ft a := fun ft hf ⟨i, t, d, fs, e1, ha⟩ => by
  obtain ⟨q, h1, h2, _⟩ := hf.ow i t d fs e1
  exact h i t d fs q (ft i) e1 h1 h2 ha
theorem Nob.upd {o : HO} (s : SR K B F H σ env) (h : Nob K F H σ env a) : Nob K F (upd H a o) σ env a := fun i t d fs p S e1 e2 ow ha => by
  obtain ⟨ft, hf⟩ := s.own
  obtain ⟨q, h1, h2, _⟩ := hf.ow i t d fs e1
  rw [e2] at h1
  cases h1
  have hn := h i t d fs p (ft i) e1 e2 h2
  have h3 : Own K F (L2.upd H a o) p d fs (ft i) := h2.congr (Ex.refl F) fun b hb => upd_ne fun z => hn (z ▸ hb)
  rw [← foot_same h3 (Ex.refl _) ow] at ha
  exact hn ha
theorem Nob.sig {σ' : L2.St} (h : Nob K F H σ env a) (hu : ∀ (i : Nat), fget env i ≠ .un → σ'[i]? = σ[i]?) : Nob K F H σ' env a := fun i t d fs p S e1 e2 => h i t d fs p S e1 (by rw [← hu i (by rw [e1]; exact fun z => nomatch z)]; exact e2)
end
def optL (y : Option D) (ys : List D) : List D := match y with
  | some y => y :: ys
  | none => ys
theorem fmapS_cons {S : Type} {f : D → S → R Unit (Option D × S)} {d : D} {ds ys : List D} {s sE : S} (h : R.fmapS f (d :: ds) s = .ok (ys, sE)) : ∃ y s1 ys1, f d s = .ok (y, s1) ∧ R.fmapS f ds s1 = .ok (ys1, sE) ∧ ys = optL y ys1 := by
  unfold R.fmapS at h
  cases e : f d s with
  | no => rw [e] at h; cases h
  | ex x b => rw [e] at h; cases h
  | ok p =>
    obtain ⟨y, s1⟩ := p
    rw [e] at h
    simp only [] at h
    cases e2 : R.fmapS f ds s1 with
    | no => rw [e2] at h; cases h
    | ex x b => rw [e2] at h; cases h
    | ok p =>
      obtain ⟨ys1, s2⟩ := p
      rw [e2] at h
      cases h
      exact ⟨y, s1, ys1, rfl, e2, rfl⟩
section
variable {X : Cx} {K : PySem.W.Frag} {S : Type}
abbrev tgB (X : Cx) (scope : Scope) (tg : Expr) : TG := fun v σ H P => ∀ i, tgC (Xb X scope i) tg v σ H P
abbrev ttB (X : Cx) (scope : Scope) (ifs : List Expr) : TT := fun σ H Q => ∀ i, ttsC (Xb X scope i) ifs σ H Q
abbrev teB (X : Cx) (scope : Scope) (elt : Expr) : TE := fun σ H Q => ∀ i, teC (Xb X scope i) elt σ H Q
theorem lc_all {elt tg : Expr} {ifs : List Expr} {scope : Scope} {own : List Nat} {f : S → Fm} {pu : Bool} {s0 : S} {mb : D → S → R Unit (Option D × S)} {B : Bs} {F1 H1 : Hp} {σ : L2.St} {ds : List D} {J : It} {Q : VK} {ys : List D} {sE : S}
    (hb : ∀ (i : BI) (z : S) (d : D), AG (Xb X scope i) K own (f z) tg d (fun env' m' => AEl (Xb X scope) K f pu env' ifs elt m') (mb d z))
    (hu : ∀ z, ∀ j ∈ own, fget (f z) j = .un) (s1 : SR K B F1 H1 σ (f s0)) (r1 : rI K F1 J ds) (hm : R.fmapS mb ds s0 = .ok (ys, sE)) (hz : ds.length ≤ sizeLine)
    (hk : ∀ v F' H', Ex F1 F' → (pu = true → Ex H1 H') → SR K B F' H' σ (f sE) → rN K B F' H' σ (f sE) v (.lst ys) [] → Q v H') :
    ∀ Dn, H1 Dn = none → ∃ W : Nat → Nat → Hp → Prop, (∃ m, W 0 m (upd H1 Dn (.lst []))) ∧ ∀ i m H, W i m H →
      (J.stop i H ∧ Q (.ref Dn) H) ∨ (J.go i H ∧ ∃ Nx : Hp → Prop, (∀ H', Nx H' → ∃ m', m' < m ∧ W (i + 1) m' H') ∧ ∀ x H', J.yld i H x H' → tgB X scope tg x (wipe σ own) H' fun σ2 H2 => wipe σ2 own = wipe σ own ∧
        ttB X scope ifs σ2 H2 fun b H3 => if b = true then teB X scope elt σ2 H3 fun y H4 => ∃ acc, H4 Dn = some (.lst acc) ∧ acc.length < sizeLine ∧ Nx (upd H4 Dn (.lst (acc ++ [y]))) else Nx H3) := by
  intro Dn hD
  have hbD := s1.new_b hD
  have hnu : ∀ z (i : Nat), fget (f z) i ≠ .un → i ∉ own := fun z i h hi => h (hu z i hi)
  have toW : ∀ {F' H' : Hp} {σ2 : L2.St} {z : S}, SR K B F' H' σ2 (f z) → SR K B F' H' (wipe σ2 own) (f z) := fun {F' H' σ2 z} s => s.unσ (wipe_length σ2 own) fun i hi => wipe_out (hnu z i hi)
  have ofW : ∀ {F' H' : Hp} {z : S}, SR K B F' H' (wipe σ own) (f z) → SR K B F' H' σ (f z) := fun {F' H' z} s => s.unσ (wipe_length σ own).symm fun i hi => (wipe_out (hnu z i hi)).symm
  have hFD : F1 Dn = none := s1.ex.none hD
  have n0 : Nob K F1 H1 (wipe σ own) (f s0) Dn := fun i t d fs p S e1 e2 o ha => by
    obtain ⟨u, hu⟩ := o.some Dn ha
    rw [hD] at hu; cases hu
  refine ⟨fun i m H' => ∃ F' z accV acc ys', m = ds.length - i ∧ i ≤ ds.length ∧ Ex F1 F' ∧ (pu = true → Ex H1 H') ∧ SR K B F' H' (wipe σ own) (f z) ∧ H' Dn = some (.lst accV) ∧ DrA K F' accV acc ∧ acc.length ≤ i ∧ F' Dn = none ∧ Nob K F' H' (wipe σ own) (f z) Dn ∧ R.fmapS mb (ds.drop i) z = .ok (ys', sE) ∧ acc ++ ys' = ys,
    ⟨ds.length, F1, s0, [], [], ys, by simp, Nat.zero_le _, Ex.refl F1, fun _ => Ex.new hD, (toW s1).growH hD, upd_same, .nil, Nat.le_refl _, hFD, n0.upd (toW s1), by simpa using hm, rfl⟩, ?_⟩
  rintro i m H' ⟨F', z, accV, acc, ys', rfl, hi', e', eh', s', hDn, hacc, hal, hFn, hnb, hp, hy⟩
  by_cases hlt : i < ds.length
  · right
    have hd : ds[i]? = some ds[i] := List.getElem?_eq_getElem hlt
    have hdrop : ds.drop i = ds[i] :: ds.drop (i + 1) := List.drop_eq_getElem_cons hlt
    rw [hdrop] at hp
    obtain ⟨y, z1, ys1, hm1, hm2, rfl⟩ := fmapS_cons hp
    obtain ⟨jgo, _, jy⟩ := r1 F' H' e' s'.ex
    refine ⟨jgo i hlt, fun H'' => ∃ F'' z'' accV' acc' ys'', Ex F1 F'' ∧ (pu = true → Ex H1 H'') ∧ SR K B F'' H'' (wipe σ own) (f z'') ∧ H'' Dn = some (.lst accV') ∧ DrA K F'' accV' acc' ∧ acc'.length ≤ i + 1 ∧ F'' Dn = none ∧ Nob K F'' H'' (wipe σ own) (f z'') Dn ∧ R.fmapS mb (ds.drop (i + 1)) z'' = .ok (ys'', sE) ∧ acc' ++ ys'' = ys, ?_, ?_⟩
    · rintro H'' ⟨F'', z'', aV, ac, y2, a1, a2, a3, a4, a5, a6, a7, a8, a9, a10⟩
      exact ⟨ds.length - (i + 1), by omega, F'', z'', aV, ac, y2, rfl, hlt, a1, a2, a3, a4, a5, a6, a7, a8, a9, a10⟩
    · intro x H2 hyl
      have key : ∃ F2, Ex F' F2 ∧ Ex H' H2 ∧ SR K B F2 H2 (wipe σ own) (f z) ∧ Dr K F2 x ds[i] ∧ H2 Dn = some (.lst accV) ∧ F2 Dn = none ∧ Nob K F2 H2 (wipe σ own) (f z) Dn := by
        rcases jy i x H2 ds[i] hd hyl with ⟨hx, rfl⟩ | ⟨p, o, hp0, rfl, hx⟩
        · exact ⟨F', Ex.refl F', Ex.refl _, s', hx, hDn, hFn, hnb⟩
        · have hne : Dn ≠ p := ne_of_none hDn hp0
          refine ⟨L2.upd F' p o, Ex.new (s'.ex.none hp0), Ex.new hp0, s'.grow hp0, hx, by rw [upd_ne hne]; exact hDn, by rw [upd_ne hne]; exact hFn, fun i t d fs q S e1 e2 ow ha => ?_⟩
          obtain ⟨ft, hf⟩ := s'.own
          obtain ⟨q', h1, h2, _⟩ := hf.ow i t d fs e1
          rw [e2] at h1
          cases h1
          rw [← foot_same h2 (Ex.new hp0) ow] at ha
          exact hnb i t d fs q (ft i) e1 e2 h2 ha
      obtain ⟨F2, e2, eh2, s2, hx, hD2, hF2, hnb2⟩ := key
      obtain ⟨ft, hf⟩ := s2.own
      have sB := s2.rebase hf
      have off : ∀ {F4 H4 : Hp} {σ4 : L2.St} {env4 : Fm}, SR K (B.at F2 H2 (f z) ft) F4 H4 σ4 env4 → H4 Dn = some (.lst accV) ∧ F4 Dn = none ∧ Nob K F4 H4 σ4 env4 Dn := fun {F4 H4 σ4 env4} r => by
        obtain ⟨q1, q2, q3⟩ := r.off (p := Dn) (o := .lst accV) hD2 hF2 (hnb2.to ft hf)
        exact ⟨q1, q2, Nob.of r q3⟩
      intro bi
      refine (hb bi z ds[i]).2 (B.at F2 H2 (f z) ft) F2 H2 (wipe σ own) x _ (fun q => q = .ok (y, z1)) sB hx (fun h => nomatch h) hm1 fun env' m' σ2 hY s3 hl3 hk3 hm' => ?_
      subst hm'
      have hw2 : wipe σ2 own = wipe σ own := wipe_ext (hl3.trans (wipe_length σ own)) fun j hj => (hk3 j hj).trans (wipe_out hj)
      refine ⟨hw2, fun bj => ?_⟩
      have go : ∀ {F4 H4 : Hp} {z4 : S}, Ex F2 F4 → (pu = true → Ex H2 H4) → SR K (B.at F2 H2 (f z) ft) F4 H4 σ2 (f z4) → SR K B F4 H4 (wipe σ own) (f z4) ∧ Ex F1 F4 ∧ (pu = true → Ex H1 H4) ∧ H4 Dn = some (.lst accV) ∧ DrA K F4 accV acc ∧ F4 Dn = none ∧ Nob K F4 H4 (wipe σ own) (f z4) Dn := fun {F4 H4 z4} e4 eh4 s4 => by
        obtain ⟨o1, o2, o3⟩ := off s4
        have s5 := toW (s2.unbase hf (fun _ _ z => z) s4)
        rw [hw2] at s5
        refine ⟨s5, e'.trans (e2.trans e4), fun hp => (eh' hp).trans (eh2.trans (eh4 hp)), o1, hacc.mono (e2.trans e4), o2, o3.sig fun j hj => ?_⟩
        rw [← hw2]
        exact wipe_out (hnu z4 j hj)
      refine hY (B.at F2 H2 (f z) ft) F2 H2 σ2 _ _ (fun q => q = .ok (y, z1)) s3 (fun h => nomatch h) (fun _ _ h => nomatch h) (fun z4 F4 H4 h4 e4 eh4 s4 => ?_) (fun y4 z4 v4 F4 H4 h4 e4 eh4 s4 d4 => ?_) rfl bj
      · cases h4
        obtain ⟨g1, g2, g3, g4, g5, g6, g7⟩ := go e4 eh4 s4
        exact ⟨F4, z1, accV, acc, ys1, g2, g3, g1, g4, g5, by omega, g6, g7, hm2, hy⟩
      · cases h4
        obtain ⟨g1, g2, g3, g4, g5, g6, g7⟩ := go e4 eh4 s4
        refine ⟨accV, g4, by rw [g5.length]; omega, F4, z1, accV ++ [v4], acc ++ [y4], ys1, g2, fun hp => ?_, g1.updOff g6 hbD (g7.to), upd_same, g5.append (.one d4), by simp; omega, g6, g7.upd g1, hm2, by rw [List.append_assoc]; exact hy⟩
        intro a o ha
        have hne : a ≠ Dn := ne_of_none ha hD
        rw [upd_ne hne]
        exact g3 hp a o ha
  · left
    have hie : i = ds.length := by omega
    subst hie
    rw [List.drop_length] at hp
    cases hp
    obtain ⟨_, jstop, _⟩ := r1 F' H' e' s'.ex
    have s8 := ofW s'
    refine ⟨jstop _ (Nat.le_refl _), hk _ F' H' e' eh' s8 ⟨Dn, [Dn], rfl, .ce hDn (.lst ?_), fun a ha => ?_, fun ft hf a ha => ?_⟩⟩
    · rw [← hy, List.append_nil]; exact hacc
    · rw [List.mem_singleton.mp ha]; exact ⟨hFn, hbD⟩
    · rw [List.mem_singleton.mp ha]
      exact (hnb.sig fun j hj => (wipe_out (hnu _ j hj)).symm).to ft hf
variable {E : XE} {β γ : Type} {xF : Fm} {xb : β} {env : Fm} {elt tg iter : Expr} {ifs : List Expr} {scope : Scope} {own : List (Str × Nat)} {pos : Pos}
/-- then on with what a comprehension gives -/
def R.lst {S : Type} (m : R Unit (List D × S)) (k : D → S → R β γ) : R β γ := match m with
  | .ok (ys, s) => k (.lst ys) s
  | _ => .no
theorem aj_lc {ci : (List D → R β γ) → R β γ} {mb : D → Unit → R Unit (Option D × Unit)} (hi : AI X K E xF xb env tg iter ci) (hu : ∀ j ∈ own.map (·.2), fget env j = .un)
    (hb : ∀ (i : BI) (z : Unit) (d : D), AG (Xb X scope i) K (own.map (·.2)) env tg d (fun env' m' => AEl (Xb X scope) K (fun _ => env) true env' ifs elt m') (mb d z)) :
    AJ K E xF xb env (tLc (tiC X tg iter) (tgB X scope tg) (ttB X scope ifs) (teB X scope elt) (own.map (·.2))) (fun B F H σ v d => rN K B F H σ env v d []) (fun (k : D → R β γ) => ci fun ds => R.few ds fun ds => R.lst (R.fmapS mb ds ()) fun d _ => k d) := fun B F H σ Q k G s w gx hk hG =>
  hi.2 B F H σ _ _ G s w gx (fun ds J F1 H1 h1 e1 eh1 s1 r1 => by
    unfold R.few at h1
    split at h1
    · rename_i hz
      have h1 : G (R.lst (R.fmapS mb ds ()) fun d _ => k d) := h1
      cases hm : R.fmapS mb ds () with
      | no => rw [hm] at h1; exact (gx.no h1).elim
      | ex x b => rw [hm] at h1; exact (gx.no h1).elim
      | ok p =>
        obtain ⟨ys, u⟩ := p
        rw [hm] at h1
        exact lc_all (f := fun _ => env) (s0 := ()) hb (fun _ => hu) s1 r1 hm (of_decide_eq_true hz) fun v F' H' e2 eh2 s2 r2 => hk _ v F' H' h1 (e1.trans e2) (eh1.trans (eh2 rfl)) s2 r2
    · exact (gx.no h1).elim) hG
theorem pe_lcB {own : List (Str × Nat)} (hc : X.calm = true) (hN : X.N.Nodup) (ok : BlkOk X.N X.env.scope scope own) (hs : ∀ x, foldedSetIterable iter X.env x = pure x) :
    PE X (.ListComp elt [⟨tg, iter, ifs, 0⟩] scope pos) (tLc (tiC X tg iter) (tgB X scope tg) (ttB X scope ifs) (teB X scope elt) (own.map (·.2))) :=
  pe_lc hc hN pi_C ok (fun s H C cl fp => ⟨fun pins s' σ H' v u Q I r h => (pg_C (X := X.blk s H scope (compEnvC scope cl C X.env) fp)).run pins s' σ H' v u Q I r (h (s, H, C, cl, fp))⟩)
    (fun s H C cl fp => ⟨fun pins s' σ H' Q I h => (pts_C (X := X.blk s H scope (compEnvC scope cl C X.env) fp)).run pins s' σ H' Q I (h (s, H, C, cl, fp))⟩)
    (fun s H C cl fp => ⟨fun pins s' σ H' Q I h => (pe_C (X := X.blk s H scope (compEnvC scope cl C X.env) fp)).run pins s' σ H' Q I (h (s, H, C, cl, fp))⟩) hs
/-- [elt for tg in iter if ..] -/
theorem a_lc {ci : (List D → R β γ) → R β γ} {mb : D → Unit → R Unit (Option D × Unit)} (own : List (Str × Nat)) (hi : AI X K E xF xb env tg iter ci)
    (hb : ∀ (i : BI) (z : Unit) (d : D), AG (Xb X scope i) K (own.map (·.2)) env tg d (fun env' m' => AEl (Xb X scope) K (fun _ => env) true env' ifs elt m') (mb d z)) (hc : X.calm = true) (hN : X.N.Nodup) (ok : BlkOk X.N X.env.scope scope own)
    (hu : ∀ j ∈ own.map (·.2), fget env j = .un) (hs : ∀ x, foldedSetIterable iter X.env x = pure x := by intro _; rfl) :
    AN X K E xF xb env [] (.ListComp elt [⟨tg, iter, ifs, 0⟩] scope pos) (fun (k : D → R β γ) => ci fun ds => R.few ds fun ds => R.lst (R.fmapS mb ds ()) fun d _ => k d) :=
  ⟨hi.1, fun B F H σ Q k G s w gx hk hG => ⟨_, pe_lcB hc hN ok hs, aj_lc hi hu hb B F H σ Q k G s w gx hk hG⟩⟩
/-- y = [..] on one line -/
theorem ab_setLc {ω : Type} {κ : Kt β ω} {rest : List Stmt} {ci : (List D → R β ω) → R β ω} {mb : D → Unit → R Unit (Option D × Unit)} {m : D → R β ω} {y : Str} {py spos : Pos} (i : Nat) (own : List (Str × Nat)) (xb : β) (hi : AI X K E (κ.fx xb) xb env tg iter ci) (hx : Wk env (κ.fx xb))
    (hb : ∀ (i : BI) (z : Unit) (d : D), AG (Xb X scope i) K (own.map (·.2)) env tg d (fun env' m' => AEl (Xb X scope) K (fun _ => env) true env' ifs elt m') (mb d z)) (hr : ∀ d, AB X K E κ (fput env i (.ow none d [])) rest (m d)) (hc : X.calm = true) (hN : X.N.Nodup) (ok : BlkOk X.N X.env.scope scope own)
    (hu : ∀ j ∈ own.map (·.2), fget env j = .un) (hyl : X.env.scope.names.lookup y = some .local) (hsw : swapsWith (.ListComp elt [⟨tg, iter, ifs, 0⟩] scope pos) (some (.Name y py)) spos.line X.env = pure true) (hy : X.N[i]? = some y := by rfl) (hs : ∀ x, foldedSetIterable iter X.env x = pure x := by intro _; rfl) :
    AB X K E κ env (.Assign [.Name y py] (.ListComp elt [⟨tg, iter, ifs, 0⟩] scope pos) spos :: rest) (ci fun ds => R.few ds fun ds => R.lst (R.fmapS mb ds ()) fun d _ => m d) :=
  ⟨hi.1, fun B F H σ Dn G sr gs hG => ⟨_, pss_cons (ps_setLc hc hN hy hyl hsw pi_C ok (fun s H C cl fp => ⟨fun pins s' σ H' v u Q I r h => (pg_C (X := X.blk s H scope (compEnvC scope cl C X.env) fp)).run pins s' σ H' v u Q I r (h (s, H, C, cl, fp))⟩)
    (fun s H C cl fp => ⟨fun pins s' σ H' Q I h => (pts_C (X := X.blk s H scope (compEnvC scope cl C X.env) fp)).run pins s' σ H' Q I (h (s, H, C, cl, fp))⟩)
    (fun s H C cl fp => ⟨fun pins s' σ H' Q I h => (pe_C (X := X.blk s H scope (compEnvC scope cl C X.env) fp)).run pins s' σ H' Q I (h (s, H, C, cl, fp))⟩) hs) ps_C,
    aj_lc hi hu hb B F H σ _ _ G sr hx (gs.gx xb) (fun d v F1 H1 h1 e1 eh1 s1 d1 => (hr d).2 B F1 H1 _ Dn G (s1.setO d1) (gs.mono e1) h1) hG⟩⟩
end
end DM

/-! Own defs: what they promise, how they are called, the rule for a body. -/
namespace DM
open PySem PySem.Spec PyProof.Rows L2 DL

def parOf (vs : List V) (k : Nat) : Option Addr := match vs[k]? with
  | some (.ref p) => some p
  | _ => none
/-- the parameters at the entry; mask: none: stands still; some fs: the caller's own thing (own fields fs) -/
abbrev Mask := List (Option (List Str))
def mkArgs : List D → Mask → Nat → Fm
  | d :: ds, none :: ms, i => .fz d :: mkArgs ds ms (i + 1)
  | d :: ds, some fs :: ms, i => .ow (some i) d fs :: mkArgs ds ms (i + 1)
  | _, _, _ => []
/-- the parameters at the end: the caller's things -/
def mkOuts : List D → Mask → Nat → Fm
  | os, none :: ms, i => .un :: mkOuts os ms (i + 1)
  | o :: os, some fs :: ms, i => .ow (some i) o fs :: mkOuts os ms (i + 1)
  | [], some _ :: ms, i => .un :: mkOuts [] ms (i + 1)
  | _, [], _ => []
def PostM (K : PySem.W.Frag) (B : Bs) (F : Hp) (σ : L2.St) (E : XK) (nw : Option (List Str)) (mask : Mask) (Q : VK) : R (List D) (D × List D) → Prop
  | .ok (d, os) => ∀ v F' H', Ex F F' → SR K B F' H' σ (mkOuts os mask 0) → rR K nw B F' H' σ (mkOuts os mask 0) v d → Q v H'
  | .ex x os => ∀ c dd F' H', Ex F F' → SR K B F' H' σ (mkOuts os mask 0) → XR K F' x c dd → E c dd H'
  | .no => False
def spM (K : PySem.W.Frag) (mask : Mask) (nw : Option (List Str)) (mL : List D → R (List D) (D × List D)) : Sp := fun vs H Q E => vs.length = mask.length ∧ ∃ F ds ps, ds.length = mask.length ∧ SR K ⟨F, H, ps, parOf vs⟩ F H (vs.map some) (mkArgs ds mask 0) ∧ PostM K ⟨F, H, ps, parOf vs⟩ F (vs.map some) E nw mask Q (mL ds)
/-- nothing of the caller's own is handed in -/
def Lp (m : List D → R Unit D) : List D → R (List D) (D × List D) := fun ds => match m ds with
  | .ok d => .ok (d, [])
  | .ex x _ => .ex x []
  | .no => .no
def L1 (m : List D → R D (D × D)) : List D → R (List D) (D × List D) := fun ds => match m ds with
  | .ok (d, o) => .ok (d, [o])
  | .ex x o => .ex x [o]
  | .no => .no
/-- .. where nothing is known of the thing behind an error -/
def L1e (m : List D → R Unit (D × D)) : List D → R (List D) (D × List D) := fun ds => match m ds with
  | .ok (d, o) => .ok (d, [o])
  | .ex x _ => .ex x []
  | .no => .no
abbrev mk0 (n : Nat) : Mask := List.replicate n none

section
variable {X : Cx} {CX : CXT} {k : Nat} {f : Addr} {fd : FuncData} {ps : List Str} {sp : Sp} {ds : List Value} {dvs : List V} {E : L2.St → XK}
theorem runGS {pins : List (Addr × Obj)} {σ : L2.St} {H : Hp} {s : Shared} {Q : VK} {us : List Value} {vs : List V} (F : FnG X.prog X.w X.K X.mg X.base CX k f fd ps sp) (hr : Room k X.A) (hG : Quiet X.A) (hb : Binds X.K fd ps ds) (hd : Vals dvs ds) (hx : PassesAt CX X σ (E σ)) (I : Inv X pins σ H s) (r : Vals vs us)
    (h : sp (vs ++ dvs) H Q (E σ)) : wpAny (model X.prog X.w) X.A (call (.ref f) us) (EP X pins σ Q) X.xe s := by
  have rr := r.append hd
  have hl : (us ++ ds).length = ps.length := rr.length.symm.trans (F.ln _ _ _ _ h)
  refine wpAny_call (codeAny_mono (F.go X.A X.stack s H ⟨us, []⟩ (us ++ ds) (vs ++ dvs) Q (E σ) hr hG I.env0 (hb s us I.kIn hl) rr h) fun z s' hq => ?_)
  match z, hq with
  | .error e, hq => exact hx pins H s e s' I hq
  | .ok (.ret u), hq => exact I.after hq
  | .ok .next, hq | .ok .brk, hq | .ok .cont, hq => exact False.elim hq
theorem pe_callGS {x : Str} {e : Expr} {es : List Expr} {t : TA} {p pos : Pos} (F : FnG X.prog X.w X.K X.mg X.base CX k f fd ps sp) (hr : Room k X.A) (hG : Quiet X.A) (hg : Gl X x) (hm : X.mg x = some (.ref f)) (hk : PySem.W.keepIn X.K (.ref f) = true) (hb : Binds X.K fd ps ds) (hd : Vals dvs ds) (hx : ∀ σ, PassesAt CX X σ (E σ)) (ha : PA X (e :: es) t)
    (hdb : (x == ("__debug__" : Str)) = false) (he : starEach (e :: es) X.env = (false, eval e X.env) :: starEach es X.env) (hpl : (backTo pos (starEach es X.env)).any (·.1) = false) : PE X (.Call (.Name x p) (e :: es) [] pos) (tCallSD sp dvs E t) :=
  ⟨fun pins s σ H Q I h => wpAny_Call_Name_kw (ld_glob I hg hm (PySem.W.callWith_K (h₀ := X.base) I.ok.mod.kin hk (thn (ha.run pos pins s σ H _ I h) fun us s1 ⟨vs, H1, I1, r, q⟩ => ⟨I1.kIn, runGS F hr hG hb hd (hx σ) I1 r q⟩) he hpl) hdb)⟩
theorem pe_call0GS {x : Str} {p pos : Pos} (F : FnG X.prog X.w X.K X.mg X.base CX k f fd ps sp) (hr : Room k X.A) (hG : Quiet X.A) (hg : Gl X x) (hm : X.mg x = some (.ref f)) (hk : PySem.W.keepIn X.K (.ref f) = true)
    (hb : Binds X.K fd ps ds) (hd : Vals dvs ds) (hx : ∀ σ, PassesAt CX X σ (E σ)) (hdb : (x == ("__debug__" : Str)) = false) : PE X (.Call (.Name x p) [] [] pos) (tCallSD sp dvs E tNil) :=
  ⟨fun pins s σ H Q I h => wpAny_Call_Name_kw (ld_glob I hg hm (PySem.W.callWith_K0 I.kIn hk (runGS (us := []) F hr hG hb hd (hx σ) I .nil h)) hdb)⟩
end
section
variable {K : PySem.W.Frag} {B B' : Bs} {F H F' H' : Hp} {σ σ' : L2.St} {env as : Fm}
theorem mk0_fz : ∀ {n : Nat} {ds : List D} {j : Nat}, ds.length = n → mkArgs ds (mk0 n) j = ds.map .fz
  | 0, [], _, _ => rfl
  | n + 1, d :: ds, j, h => by
    show .fz d :: mkArgs ds (mk0 n) (j + 1) = .fz d :: ds.map .fz
    rw [mk0_fz (by simpa using h)]
theorem fz_get {ds : List D} {i : Nat} {x : Sl} (h : fget (ds.map Sl.fz) i = x) (n : x ≠ .un) : ∃ d, ds[i]? = some d ∧ x = .fz d := by
  induction ds generalizing i with
  | nil => exact absurd h.symm n
  | cons d ds ih =>
    cases i with
    | zero => exact ⟨d, rfl, h.symm⟩
    | succ i =>
      obtain ⟨d', h1, h2⟩ := ih (i := i) h
      exact ⟨d', by simpa using h1, h2⟩
/-- arguments that stand still -/
theorem SR.args (e : Ex F H) {vs : List V} {ds : List D} (h : DrA K F vs ds) (hB : B'.F0 = F) (hH : B'.H0 = H) : SR K B' F H (vs.map some) (ds.map .fz) where
  ex := e
  ex0 := by rw [hB]; exact Ex.refl F
  keep := fun a o h _ => by rw [hH] at h; exact h
  newF := fun a o h => Or.inl (by rw [hB, h]; exact fun z => nomatch z)
  len := by rw [List.length_map, List.length_map]; exact h.length
  fz := fun i d h1 => by
    obtain ⟨d', h2, h3⟩ := fz_get h1 (fun z => nomatch z)
    cases h3
    obtain ⟨v, h4, h5⟩ := h.get h2
    exact ⟨v, by rw [List.getElem?_map, h4]; rfl, h5⟩
  xc := fun i a d gs h1 => by
    obtain ⟨d', h2, h3⟩ := fz_get h1 (fun z => nomatch z)
    cases h3
  own := ⟨fun _ => [], ⟨fun i t d fs h1 => (by
    obtain ⟨d', h2, h3⟩ := fz_get h1 (fun z => nomatch z)
    cases h3), fun i j t u d e fs gs _ _ _ a ha => nomatch ha⟩⟩
/-- behind a call that was handed nothing of the frame's own -/
theorem SR.after (s : SR K B F H σ env) (r : SR K B' F' H' σ' as) (hF : B'.F0 = F) (hH : B'.H0 = H) (hps : ∀ p, ¬ B'.ps p) : SR K B F' H' σ env ∧ Ex H H' := by
  have e0 : Ex F F' := by have := r.ex0; rw [hF] at this; exact this
  have eh : Ex H H' := fun a o h => r.keep a o (by rw [hH]; exact h) (hps a)
  have hn : ∀ a o, F' a = some o → F a = some o ∨ H a = none := fun a o h => by
    rcases r.newF a o h with z | z | z
    · rw [hF] at z
      cases q : F a with
      | none => exact absurd q z
      | some u =>
        have := e0 a u q
        rw [h] at this
        cases this
        exact .inl rfl
    · rw [hH] at z; exact .inr z
    · exact absurd z (hps a)
  refine ⟨⟨r.ex, s.ex0.trans e0, fun a o h n => eh a o (s.keep a o h n), fun a o h => ?_, s.len, fun i d h1 => ?_, fun i a d gs h1 => ?_, ?_⟩, eh⟩
  · rcases hn a o h with z | z
    · exact s.newF a o z
    · exact Or.inr (s.new_b z)
  · obtain ⟨v, h2, h3⟩ := s.fz i d h1
    exact ⟨v, h2, h3.mono e0⟩
  · obtain ⟨h2, fs, h3, h4, h5⟩ := s.xc i a d gs h1
    exact ⟨h2, fs, e0 _ _ h3, h4, h5.mono e0⟩
  · obtain ⟨ft, hf⟩ := s.own
    refine ⟨ft, hf.congr e0 fun a ha => ?_⟩
    obtain ⟨h1, ⟨u, h2⟩, _⟩ := hf.owned_b ha
    refine ⟨by rw [eh a u h2, h2], ?_⟩
    cases q : F' a with
    | none => rfl
    | some o =>
      rcases hn a o q with z | z
      · rw [h1] at z; cases z
      · rw [h2] at z; cases z
/-- behind a call that was handed the thing at S -/
theorem SR.afterS {S : List Addr} (s : SR K B F H σ env) (hS : ∀ a ∈ S, F a = none ∧ (B.H0 a = none ∨ B.ps a)) (hn : ∀ ft, Hs K B F H σ env ft → ∀ a ∈ S, ¬ owned env ft a) (r : SR K B' F' H' σ' as) (hF : B'.F0 = F) (hH : B'.H0 = H) (hps : ∀ p, B'.ps p → p ∈ S) : SR K B F' H' σ env := by
  have e0 : Ex F F' := by have := r.ex0; rw [hF] at this; exact this
  have eh : ∀ a o, a ∉ S → H a = some o → H' a = some o := fun a o hna h => r.keep a o (by rw [hH]; exact h) fun z => hna (hps a z)
  have hnew : ∀ a o, F' a = some o → F a = some o ∨ H a = none ∨ a ∈ S := fun a o h => by
    rcases r.newF a o h with z | z | z
    · rw [hF] at z
      cases q : F a with
      | none => exact absurd q z
      | some u =>
        have := e0 a u q
        rw [h] at this
        cases this
        exact .inl rfl
    · rw [hH] at z; exact .inr (.inl z)
    · exact .inr (.inr (hps a z))
  refine ⟨r.ex, s.ex0.trans e0, fun a o h n => eh a o (fun z => ?_) (s.keep a o h n), fun a o h => ?_, s.len, fun i d h1 => ?_, fun i a d gs h1 => ?_, ?_⟩
  · rcases (hS a z).2 with q | q
    · rw [h] at q; cases q
    · exact n q
  · rcases hnew a o h with z | z | z
    · exact s.newF a o z
    · exact Or.inr (s.new_b z)
    · exact Or.inr (hS a z).2
  · obtain ⟨v, h2, h3⟩ := s.fz i d h1
    exact ⟨v, h2, h3.mono e0⟩
  · obtain ⟨h2, fs, h3, h4, h5⟩ := s.xc i a d gs h1
    exact ⟨h2, fs, e0 _ _ h3, h4, h5.mono e0⟩
  · obtain ⟨ft, hf⟩ := s.own
    refine ⟨ft, hf.congr e0 fun a ha => ?_⟩
    obtain ⟨h1, ⟨u, h2⟩, _⟩ := hf.owned_b ha
    have hna : a ∉ S := fun z => hn ft hf a z ha
    refine ⟨by rw [eh a u hna h2, h2], ?_⟩
    cases q : F' a with
    | none => rfl
    | some o =>
      rcases hnew a o q with z | z | z
      · rw [h1] at z; cases z
      · rw [h2] at z; cases z
      · exact absurd z hna
theorem outs_un : ∀ (n j : Nat) (i : Nat), fget (mkOuts [] (mk0 n) j) i = .un
  | 0, _, _ => rfl
  | n + 1, j, 0 => rfl
  | n + 1, j, i + 1 => outs_un n (j + 1) i
end
/-- a def of the module, with what it keeps -/
structure Dfn (P : Program) (w : World) (K : PySem.W.Frag) (mg : Str → Option Value) (base : Heap) (k : Nat) (x : Str) (mask : Mask) (nw : Option (List Str)) (mL : List D → R (List D) (D × List D)) : Prop where
  ex : ∃ (f : Addr) (fd : FuncData) (ps : List Str), FnG P w K mg base (L2.CX P w) k f fd ps (spM K mask nw mL) ∧ mg x = some (.ref f) ∧ PySem.W.keepIn K (.ref f) = true ∧ Binds K fd ps []
section
variable {X : Cx} {K : PySem.W.Frag} {E : XE} {β γ : Type} {xF : Fm} {xb : β} {env : Fm} {e : Expr} {es : List Expr} {pos p : Pos} {k n : Nat} {x : Str} {cs : (List D → R β γ) → R β γ}
/-- the promise is asked, all that is handed stands still -/
theorem sp_pure {B : Bs} {F H : Hp} {σ : L2.St} {vs : List V} {ds : List D} {Q : VK} {Ek : XK} {mL : List D → R (List D) (D × List D)} {nw : Option (List Str)} (s : SR K B F H σ env) (hA : DrA K F vs ds) (hn : ds.length = n)
    (hok : ∀ d os, mL ds = .ok (d, os) → ∀ v F' H', Ex F F' → Ex H H' → SR K B F' H' σ env → rR K nw B F' H' σ env v d → Q v H')
    (hex : ∀ x os, mL ds = .ex x os → ∀ c dd F' H', Ex F F' → SR K B F' H' σ env → XR K F' x c dd → Ek c dd H') (hno : mL ds ≠ .no) : spM K (mk0 n) nw mL vs H Q Ek := by
  refine ⟨by rw [hA.length, hn, List.length_replicate], F, ds, fun _ => False, by rw [hn, List.length_replicate], ?_, ?_⟩
  · rw [mk0_fz hn]
    exact SR.args s.ex hA rfl rfl
  · cases hm : mL ds with
    | no => exact hno hm
    | ex y os =>
      intro c dd F' H' e1 s1 x1
      exact hex y os hm c dd F' H' e1 (s.after s1 rfl rfl fun _ h => h).1 x1
    | ok q =>
      obtain ⟨d, os⟩ := q
      intro v F' H' e1 s1 r1
      obtain ⟨s2, eh⟩ := s.after s1 rfl rfl fun _ h => h
      refine hok d os hm v F' H' e1 eh s2 ?_
      cases nw with
      | none => exact r1
      | some fs =>
        obtain ⟨q, S, h1, h2, h3, h4⟩ := r1
        have h5 : ∀ a ∈ S, H a = none := fun a ha => (h3 a ha).2.elim id False.elim
        refine ⟨q, S, h1, h2, fun a ha => ⟨(h3 a ha).1, s.new_b (h5 a ha)⟩, fun ft hf a ha z => ?_⟩
        obtain ⟨i, t, d2, f2, g1, g2⟩ := z
        obtain ⟨ft0, hf0⟩ := s.own
        obtain ⟨q0, q1, q2, _⟩ := hf0.ow i t d2 f2 g1
        obtain ⟨q', r1, r2, _⟩ := hf.ow i t d2 f2 g1
        rw [q1] at r1
        cases r1
        exact foot_eq q2 eh r2 a g2 (h5 a ha)
theorem callP_core {B : Bs} {F H : Hp} {σ : L2.St} {vs : List V} {ds : List D} {Q : VK} {mf : List D → R Unit D} {nw : Option (List Str)} {k : D → R β γ} {G : R β γ → Prop} (s : SR K B F H σ env) (w : Wk env xF) (gx : Gx K B E F σ xF xb G) (d1 : DrA K F vs ds) (hl : mf ds ≠ .no → ds.length = n)
    (hk : ∀ d v F' H', G (k d) → Ex F F' → Ex H H' → SR K B F' H' σ env → rR K nw B F' H' σ env v d → Q v H') (h1 : G (R.call (mf ds) xb k)) : spM K (mk0 n) nw (Lp mf) vs H Q (E σ) := by
  have hno : mf ds ≠ .no := fun z => by rw [z] at h1; exact gx.no h1
  refine sp_pure s d1 (hl hno) (fun d os hm v F' H' e2 eh2 s2 r2 => ?_) (fun y os hm c dd F' H' e2 s2 x2 => ?_) (fun z => ?_)
  · unfold Lp at hm
    cases hq : mf ds with
    | no => exact absurd hq hno
    | ex _ _ => rw [hq] at hm; cases hm
    | ok d' =>
      rw [hq] at hm h1
      cases hm
      exact hk d v F' H' h1 e2 eh2 s2 r2
  · unfold Lp at hm
    cases hq : mf ds with
    | no => exact absurd hq hno
    | ok _ => rw [hq] at hm; cases hm
    | ex y' u =>
      rw [hq] at hm h1
      cases hm
      exact gx.ex y h1 c dd F' H' e2 (s2.wk w) x2
  · unfold Lp at z
    cases hq : mf ds with
    | no => exact hno hq
    | ok _ => rw [hq] at z; cases z
    | ex _ _ => rw [hq] at z; cases z
theorem aj_callP {mf : List D → R Unit D} (ha : AA X K E xF xb env es cs) (hl : ∀ ds, mf ds ≠ .no → ds.length = n) :
    AJ K E xF xb env (tCallSD (spM K (mk0 n) none (Lp mf)) [] E (taC X es)) (fun _ F _ _ v d => Dr K F v d) (fun (k : D → R β γ) => cs fun ds => R.call (mf ds) xb k) := fun B F H σ Q k G s w gx hk hG =>
  ha.2 B F H σ _ _ G s w gx (fun ds vs F1 H1 h1 e1 eh1 s1 d1 => by
    show spM K (mk0 n) none (Lp mf) (vs ++ []) H1 Q (E σ)
    rw [List.append_nil]
    exact callP_core s1 w (gx.mono e1) d1 (hl ds) (fun d v F' H' g e2 eh2 s2 r2 => hk d v F' H' g (e1.trans e2) (eh1.trans eh2) s2 r2) h1) hG
theorem aj_callW {mf : List D → R Unit D} {fs : List Str} (ha : AA X K E xF xb env es cs) (hl : ∀ ds, mf ds ≠ .no → ds.length = n) :
    AJ K E xF xb env (tCallSD (spM K (mk0 n) (some fs) (Lp mf)) [] E (taC X es)) (fun B F H σ v d => rN K B F H σ env v d fs) (fun (k : D → R β γ) => cs fun ds => R.call (mf ds) xb k) := fun B F H σ Q k G s w gx hk hG =>
  ha.2 B F H σ _ _ G s w gx (fun ds vs F1 H1 h1 e1 eh1 s1 d1 => by
    show spM K (mk0 n) (some fs) (Lp mf) (vs ++ []) H1 Q (E σ)
    rw [List.append_nil]
    exact callP_core s1 w (gx.mono e1) d1 (hl ds) (fun d v F' H' g e2 eh2 s2 r2 => hk d v F' H' g (e1.trans e2) (eh1.trans eh2) s2 r2) h1) hG
/-- f(a, b, ..) -/
theorem a_call {mf : List D → R Unit D} (F : Dfn X.prog X.w K X.mg X.base k x (mk0 n) none (Lp mf)) (hl : ∀ ds, mf ds ≠ .no → ds.length = n) (ha : AA X K E xF xb env (e :: es) cs) (hr : Room k X.A) (hG : Quiet X.A) (hx : ∀ σ, PassesAt (L2.CX X.prog X.w) X σ (E σ)) (hg : Gl X x)
    (hdb : (x == ("__debug__" : Str)) = false := by decide) (he : starEach (e :: es) X.env = (false, eval e X.env) :: starEach es X.env := by rfl) (hpl : (backTo pos (starEach es X.env)).any (·.1) = false := by rfl) :
    AE X K E xF xb env (.Call (.Name x p) (e :: es) [] pos) (fun (k : D → R β γ) => cs fun ds => R.call (mf ds) xb k) := by
  have hK := ha.1
  subst hK
  obtain ⟨f, fd, ps, h1, h2, h3, h4⟩ := F.ex
  exact ⟨rfl, fun B F H σ Q k G s w gx hk hG' => ⟨_, pe_callGS h1 hr hG hg h2 h3 h4 .nil hx pa_C hdb he hpl, aj_callP ha hl B F H σ Q k G s w gx hk hG'⟩⟩
theorem a_call0 {mf : List D → R Unit D} (F : Dfn X.prog X.w K X.mg X.base k x (mk0 0) none (Lp mf)) (hl : ∀ ds, mf ds ≠ .no → ds.length = 0) (hr : Room k X.A) (hG : Quiet X.A) (hx : ∀ σ, PassesAt (L2.CX X.prog X.w) X σ (E σ)) (hg : Gl X x) (hK : X.K = K := by rfl)
    (hdb : (x == ("__debug__" : Str)) = false := by decide) : AE X K E xF xb env (.Call (.Name x p) [] [] pos) (fun (k : D → R β γ) => R.call (mf []) xb k) := by
  subst hK
  obtain ⟨f, fd, ps, h1, h2, h3, h4⟩ := F.ex
  exact ⟨rfl, fun B F H σ Q k G s w gx hk hG' => ⟨_, pe_call0GS h1 hr hG hg h2 h3 h4 .nil hx hdb, callP_core (nw := none) s w gx .nil (hl []) hk hG'⟩⟩
/-- .. that gives a new thing -/
theorem a_callW {mf : List D → R Unit D} {fs : List Str} (F : Dfn X.prog X.w K X.mg X.base k x (mk0 n) (some fs) (Lp mf)) (hl : ∀ ds, mf ds ≠ .no → ds.length = n) (ha : AA X K E xF xb env (e :: es) cs) (hr : Room k X.A) (hG : Quiet X.A) (hx : ∀ σ, PassesAt (L2.CX X.prog X.w) X σ (E σ)) (hg : Gl X x)
    (hdb : (x == ("__debug__" : Str)) = false := by decide) (he : starEach (e :: es) X.env = (false, eval e X.env) :: starEach es X.env := by rfl) (hpl : (backTo pos (starEach es X.env)).any (·.1) = false := by rfl) :
    AN X K E xF xb env fs (.Call (.Name x p) (e :: es) [] pos) (fun (k : D → R β γ) => cs fun ds => R.call (mf ds) xb k) := by
  have hK := ha.1
  subst hK
  obtain ⟨f, fd, ps, h1, h2, h3, h4⟩ := F.ex
  exact ⟨rfl, fun B F H σ Q k G s w gx hk hG' => ⟨_, pe_callGS h1 hr hG hg h2 h3 h4 .nil hx pa_C hdb he hpl, aj_callW ha hl B F H σ Q k G s w gx hk hG'⟩⟩
/-- the promise is asked, the first thing that is handed is a slot's own -/
theorem sp_ref {B : Bs} {F H : Hp} {σ : L2.St} {vs : List V} {ds : List D} {Q : VK} {Ek : XK} {mL : List D → R (List D) (D × List D)} {i : Nat} {t : Option Nat} {o : D} {fs : List Str} {q : Addr} (s : SR K B F H σ env) (hi : fget env i = .ow t o fs) (hp : σ[i]? = some (some (.ref q))) (hA : DrA K F vs ds) (hn : ds.length = n)
    (hok : ∀ d os, mL (o :: ds) = .ok (d, os) → ∃ o', os = [o'] ∧ ∀ v F' H', Ex F F' → SR K B F' H' σ (fput env i (.ow t o' fs)) → Dr K F' v d → Q v H')
    (hex : ∀ x os, mL (o :: ds) = .ex x os → (∃ o', os = [o'] ∧ ∀ c dd F' H', Ex F F' → SR K B F' H' σ (fput env i (.ow t o' fs)) → XR K F' x c dd → Ek c dd H') ∨ (os = [] ∧ ∀ c dd F' H', Ex F F' → SR K B F' H' σ (fput env i .un) → XR K F' x c dd → Ek c dd H')) (hno : mL (o :: ds) ≠ .no) : spM K (some fs :: mk0 n) none mL (.ref q :: vs) H Q Ek := by
  obtain ⟨ft, hf⟩ := s.own
  obtain ⟨q', h1, h2, h3, h4⟩ := hf.ow i t o fs hi
  rw [hp] at h1
  cases h1
  have sa := SR.args (B' := ⟨F, H, fun a => a ∈ ft i, parOf (.ref q :: vs)⟩) s.ex hA rfl rfl
  have hargs : mkArgs (o :: ds) (some fs :: mk0 n) 0 = .ow (some 0) o fs :: ds.map .fz := by
    show .ow (some 0) o fs :: mkArgs ds (mk0 n) 1 = _
    rw [mk0_fz hn]
  have s0 : SR K ⟨F, H, fun a => a ∈ ft i, parOf (.ref q :: vs)⟩ F H ((V.ref q :: vs).map some) (.ow (some 0) o fs :: ds.map .fz) := by
    refine ⟨s.ex, Ex.refl F, fun _ _ h _ => h, fun a o h => Or.inl fun z => ?_, by simp [hA.length], fun j d h => ?_, fun j a d gs h => ?_, fun j => if j = 0 then ft i else [], fun j t' d f' h => ?_, fun j k t1 t2 d1 d2 f1 f2 hjk g1 g2 a a1 a2 => ?_⟩
    · have z' : F a = none := z
      rw [h] at z'; cases z'
    · cases j with
      | zero => cases h
      | succ j => exact sa.fz j d h
    · cases j with
      | zero => cases h
      | succ j => exact sa.xc j a d gs h
    · cases j with
      | zero =>
        cases h
        exact ⟨q, rfl, h2, fun a ha => ⟨(h3 a ha).1, Or.inr ha⟩, fun k hk => by cases hk; rfl⟩
      | succ j =>
        obtain ⟨d', _, z⟩ := fz_get (show fget (ds.map Sl.fz) j = _ from h) fun z => nomatch z
        cases z
    · cases j with
      | zero =>
        cases k with
        | zero => exact hjk rfl
        | succ k => simp at a2
      | succ j => simp at a1
  have back : ∀ {F' H' : Hp} {o' : D} {os : Fm}, SR K ⟨F, H, fun a => a ∈ ft i, parOf (.ref q :: vs)⟩ F' H' ((V.ref q :: vs).map some) (.ow (some 0) o' fs :: os) → SR K B F' H' σ (fput env i (.ow t o' fs)) := fun {F' H' o' os} r => by
    obtain ⟨ft', hf'⟩ := r.own
    obtain ⟨q2, g1, g2, g3, g4⟩ := hf'.ow 0 (some 0) o' fs rfl
    have : some (some (V.ref q)) = some (some (V.ref q2)) := g1
    cases this
    obtain ⟨p3, S3, k1, k2, k3, k4⟩ := s.chg hi
    rw [hp] at k1
    cases k1
    have hS : S3 = ft i := foot_same k2 (Ex.refl _) h2
    subst hS
    refine k4 F' H' o' fs (ft' 0) r.ex0 (fun a o h => ?_) r.ex (fun a o hna h => r.keep a o h hna) g2 fun a ha => ⟨?_, (g3 a ha).1⟩
    · rcases r.newF a o h with z | z | z
      · cases w : F a with
        | none => exact absurd w z
        | some u =>
          have := r.ex0 a u w
          rw [h] at this
          cases this
          exact .inl rfl
      · exact .inr (.inl z)
      · exact .inr (.inr z)
    · rcases (g3 a ha).2 with z | z
      · exact .inr z
      · exact .inl z
  refine ⟨by simp [hA.length, hn], F, o :: ds, fun a => a ∈ ft i, by simp [hn], ?_, ?_⟩
  · rw [hargs]
    exact s0
  · cases hm : mL (o :: ds) with
    | no => exact hno hm
    | ex y os =>
      rcases hex y os hm with ⟨o', rfl, hq⟩ | ⟨rfl, hq⟩
      · exact fun c dd F' H' e1 s1 x1 => hq c dd F' H' e1 (back s1) x1
      · refine fun c dd F' H' e1 s1 x1 => hq c dd F' H' e1 ((s.wk (Wk.un env i)).afterS (S := ft i) h3 (fun ft' hf' a ha z => ?_) s1 rfl rfl fun _ z => z) x1
        obtain ⟨j, t2, d2, f2, g1, g2⟩ := z
        have hij : i ≠ j := fun z => by
          subst z
          rcases fget_eq env (i := i) .un with z | z <;> (rw [z] at g1; cases g1)
        have g3 := g1
        rw [fget_ne _ _ hij] at g3
        obtain ⟨q2, q3, q4, _⟩ := hf.ow j t2 d2 f2 g3
        obtain ⟨q5, q6, q7, _⟩ := hf'.ow j t2 d2 f2 g1
        rw [q3] at q6
        cases q6
        rw [← foot_same q4 (Ex.refl _) q7] at g2
        exact hf.dis i j t t2 o d2 fs f2 hij hi g3 a ha g2
    | ok r =>
      obtain ⟨d, os⟩ := r
      obtain ⟨o', rfl, hq⟩ := hok d os hm
      exact fun v F' H' e1 s1 r1 => hq v F' H' e1 (back s1) r1
end

/-! ### the rule for a body -/
/-- the ends of a def that is handed nothing of the caller's own; n slots -/
def kP (n : Nat) (nw : Option (List Str)) : Kt Unit D where
  fx := fun _ => List.replicate n .un
  Sn := Unit
  fn := fun _ => List.replicate n .un
  kn := fun _ => match nw with
    | none => .ok .non
    | some _ => .no
  Sb := Empty
  fb := fun z => z.elim
  kb := fun z => z.elim
  Sc := Empty
  fc := fun z => z.elim
  kc := fun z => z.elim
  Sr := Unit
  fr := fun _ => List.replicate n .un
  kr := fun d _ => .ok d
  nw := nw
/-- .. of a def whose first parameter is the caller's own -/
def kR (n : Nat) (fs : List Str) : Kt D (D × D) where
  fx := fun o => .ow (some 0) o fs :: List.replicate n .un
  Sn := D
  fn := fun o => .ow (some 0) o fs :: List.replicate n .un
  kn := fun o => .ok (.non, o)
  Sb := Empty
  fb := fun z => z.elim
  kb := fun z => z.elim
  Sc := Empty
  fc := fun z => z.elim
  kc := fun z => z.elim
  Sr := D
  fr := fun o => .ow (some 0) o fs :: List.replicate n .un
  kr := fun d o => .ok (d, o)
  nw := none
/-- .. and that raises nothing -/
def kR0 (n : Nat) (fs : List Str) : Kt Unit (D × D) where
  fx := fun _ => List.replicate (n + 1) .un
  Sn := D
  fn := fun o => .ow (some 0) o fs :: List.replicate n .un
  kn := fun o => .ok (.non, o)
  Sb := Empty
  fb := fun z => z.elim
  kb := fun z => z.elim
  Sc := Empty
  fc := fun z => z.elim
  kc := fun z => z.elim
  Sr := D
  fr := fun o => .ow (some 0) o fs :: List.replicate n .un
  kr := fun d o => .ok (d, o)
  nw := none
section
variable {P : Program} {w : World} {K : PySem.W.Frag} {mg : Str → Option Value} {base : Heap}
theorem fget_app : ∀ (as bs : Fm) (i : Nat), i < as.length → fget (as ++ bs) i = fget as i
  | [], _, _, h => by simp at h
  | _ :: _, _, 0, _ => rfl
  | _ :: as, bs, i + 1, h => fget_app as bs i (by simpa using h)
theorem fget_rep : ∀ (n i : Nat), fget (List.replicate n .un) i = .un
  | 0, _ => rfl
  | n + 1, 0 => rfl
  | n + 1, i + 1 => fget_rep n i
theorem fget_apu : ∀ (as : Fm) (n i : Nat) {x : Sl}, fget (as ++ List.replicate n .un) i = x → x ≠ .un → fget as i = x
  | [], n, i, x, h, hn => absurd (h.symm.trans (fget_rep n i)) hn
  | _ :: _, _, 0, _, h, _ => h
  | _ :: as, n, i + 1, x, h, hn => fget_apu as n i h hn
/-- the frame at the start: more slots of which nothing is known -/
theorem SR.start {B : Bs} {F H : Hp} {vs : List V} {as : Fm} (s : SR K B F H (vs.map some) as) (n : Nat) : SR K B F H (vs.map some ++ List.replicate n none) (as ++ List.replicate n .un) where
  ex := s.ex
  ex0 := s.ex0
  keep := s.keep
  newF := s.newF
  len := by rw [List.length_append, List.length_append, List.length_replicate, List.length_replicate, s.len]
  fz := fun i d e => by
    have e := fget_apu as n i e fun z => nomatch z
    obtain ⟨v, h1, h2⟩ := s.fz i d e
    exact ⟨v, by rw [List.getElem?_append_left (by rw [s.len]; exact fget_lt e fun z => nomatch z)]; exact h1, h2⟩
  xc := fun i a d gs e => by
    have e := fget_apu as n i e fun z => nomatch z
    obtain ⟨h1, h2⟩ := s.xc i a d gs e
    exact ⟨by rw [List.getElem?_append_left (by rw [s.len]; exact fget_lt e fun z => nomatch z)]; exact h1, h2⟩
  own := by
    obtain ⟨ft, hf⟩ := s.own
    refine ⟨ft, fun i t d fs e => ?_, fun i j t u d e fs gs hij e1 e2 => hf.dis i j t u d e fs gs hij (fget_apu as n i e1 fun z => nomatch z) (fget_apu as n j e2 fun z => nomatch z)⟩
    have e := fget_apu as n i e fun z => nomatch z
    obtain ⟨q, h1, h2⟩ := hf.ow i t d fs e
    exact ⟨q, by rw [List.getElem?_append_left (by rw [s.len]; exact fget_lt e fun z => nomatch z)]; exact h1, h2⟩
/-- at the end nothing is known of the slots -/
theorem SR.unAll {B : Bs} {F H : Hp} {σ σ' : L2.St} {env env' : Fm} (s : SR K B F H σ env) (hu : ∀ i, fget env' i = .un) (hl : σ'.length = env'.length) : SR K B F H σ' env' where
  ex := s.ex
  ex0 := s.ex0
  keep := s.keep
  newF := s.newF
  len := hl
  fz := fun i d e => by rw [hu i] at e; cases e
  xc := fun i a d gs e => by rw [hu i] at e; cases e
  own := ⟨fun _ => [], ⟨fun i t d fs e => (by rw [hu i] at e; cases e), fun i j t u d e fs gs _ e1 => (by rw [hu i] at e1; cases e1)⟩⟩
theorem outs_len : ∀ (n j : Nat), (mkOuts [] (mk0 n) j).length = n
  | 0, _ => rfl
  | n + 1, j => by show (Sl.un :: mkOuts [] (mk0 n) (j + 1)).length = n + 1; rw [List.length_cons, outs_len n]
abbrev TakesE (X : Cx) (E : XE) : Prop := Takes X (fun c d σ H => E σ c d H)
/-- a body that keeps a promise -/
def Bod (P : Program) (w : World) (K : PySem.W.Frag) (mg : Str → Option Value) (base : Heap) (N : List Str) (qual : Str) (st : Stmt) (f : Addr) (k : Nat) (sp : Sp) : Prop :=
  ∀ (cdv : Value) (A : Around) (os : List Env) (s : Shared) (H : Hp) (vs : List V) (Q : VK) (E : XK), Room k (A.deeper (envOfC qual (defScope st) s.heap.objs.size f cdv)) → Quiet (A.deeper (envOfC qual (defScope st) s.heap.objs.size f cdv)) → sp vs H Q E →
    ∃ t, PSs (cxOf (L2.CX P w) P w K mg base N qual (defScope st) f cdv A os s H E) (defBody st) t ∧ t { nx := fun _ H' => Q .non H', rt := Q } (L2.start N vs) H
/-- a def that is handed nothing of the caller's own -/
theorem okP_b {qual : Str} {st : Stmt} {f : Addr} {N ps : List Str} {k n : Nat} {nw : Option (List Str)} {mf : List D → R Unit D} (S : FnScope N ps (defScope st)) (hn : ps.length = n)
    (hbody : ∀ (cdv : Value) (A : Around) (outer : List Env) (s : Shared) (H : Hp) (E : XK), Room k (A.deeper (envOfC qual (defScope st) s.heap.objs.size f cdv)) → Quiet (A.deeper (envOfC qual (defScope st) s.heap.objs.size f cdv)) →
      TakesE (cxOf (L2.CX P w) P w K mg base N qual (defScope st) f cdv A outer s H E) (fun _ => E) → (∀ σ, PassesAt (L2.CX P w) (cxOf (L2.CX P w) P w K mg base N qual (defScope st) f cdv A outer s H E) σ E) → PassesOwn (model P w) (A.deeper (envOfC qual (defScope st) s.heap.objs.size f cdv)) (cxOf (L2.CX P w) P w K mg base N qual (defScope st) f cdv A outer s H E).env (cxOf (L2.CX P w) P w K mg base N qual (defScope st) f cdv A outer s H E).xe →
      ∀ ds, ds.length = n → AB (cxOf (L2.CX P w) P w K mg base N qual (defScope st) f cdv A outer s H E) K (fun _ => E) (kP N.length nw) (ds.map .fz ++ List.replicate (N.length - n) .un) (defBody st) (mf ds)) :
    Bod P w K mg base N qual st f k (spM K (mk0 n) nw (Lp mf)) := by
  intro cdv A outer s H vs Q E hr hG0 h
  obtain ⟨hl, F, ds, q, hdl, sr, hq⟩ := h
  rw [List.length_replicate] at hl hdl
  rw [mk0_fz hdl] at sr
  have tk : Takes (cxOf (L2.CX P w) P w K mg base N qual (defScope st) f cdv A outer s H E) (fun cls d _ H => E cls d H) := takes_of rfl rfl rfl rfl
  have key : tsC (cxOf (L2.CX P w) P w K mg base N qual (defScope st) f cdv A outer s H E) (defBody st) { nx := fun _ H' => Q .non H', rt := Q } (vs.map some ++ List.replicate (N.length - n) none) H := by
    refine (hbody cdv A outer s H E hr hG0 tk (fun σ => passAt tk σ) (passes_of rfl) ds hdl).2 ⟨F, H, q, parOf vs⟩ F H (vs.map some ++ List.replicate (N.length - n) none) { nx := fun _ H' => Q .non H', rt := Q }
      (fun m => PostM K ⟨F, H, q, parOf vs⟩ F (vs.map some) E nw (mk0 n) Q (match m with
        | .ok d => .ok (d, [])
        | .ex x _ => .ex x []
        | .no => .no)) (sr.start _) ⟨fun z => z, fun y b hy c dd F' H' σ' e1 s1 x1 => hy c dd F' H' e1 (s1.unAll (outs_un n 0) (by rw [outs_len, List.length_map]; exact hl)) x1, fun z hz F' H' σ' e1 s1 => ?_, fun z => z.elim, fun z => z.elim, fun d z hz v F' H' σ' e1 s1 r1 => ?_⟩ hq
    · cases nw with
      | none => exact hz .non F' H' e1 (s1.unAll (outs_un n 0) (by rw [outs_len, List.length_map]; exact hl)) .non
      | some fs => exact hz.elim
    · refine hz v F' H' e1 (s1.unAll (outs_un n 0) (by rw [outs_len, List.length_map]; exact hl)) ?_
      cases nw with
      | none => exact r1
      | some fs =>
        obtain ⟨p, S, h1, h2, h3, h4⟩ := r1
        exact ⟨p, S, h1, h2, h3, fun ft hf a ha z => by obtain ⟨i, t, d, fs, e, _⟩ := z; rw [outs_un n 0 i] at e; cases e⟩
  obtain ⟨t, h1, h2⟩ := key
  refine ⟨t, h1, ?_⟩
  have hst : L2.start N vs = vs.map some ++ List.replicate (N.length - n) none := by unfold L2.start; rw [hl]
  rw [hst]
  exact h2
/-- a def that is handed nothing of the caller's own -/
theorem okP {x qual : Str} {st : Stmt} {f : Addr} {fd : FuncData} {N ps : List Str} {k n : Nat} {nw : Option (List Str)} {mf : List D → R Unit D} (Fn : Fun K x qual st f fd) (S : FnScope N ps (defScope st)) (hn : ps.length = n)
    (hbody : ∀ (cdv : Value) (A : Around) (outer : List Env) (s : Shared) (H : Hp) (E : XK), Room k (A.deeper (envOfC qual (defScope st) s.heap.objs.size f cdv)) → Quiet (A.deeper (envOfC qual (defScope st) s.heap.objs.size f cdv)) →
      TakesE (cxOf (L2.CX P w) P w K mg base N qual (defScope st) f cdv A outer s H E) (fun _ => E) → (∀ σ, PassesAt (L2.CX P w) (cxOf (L2.CX P w) P w K mg base N qual (defScope st) f cdv A outer s H E) σ E) → PassesOwn (model P w) (A.deeper (envOfC qual (defScope st) s.heap.objs.size f cdv)) (cxOf (L2.CX P w) P w K mg base N qual (defScope st) f cdv A outer s H E).env (cxOf (L2.CX P w) P w K mg base N qual (defScope st) f cdv A outer s H E).xe →
      ∀ ds, ds.length = n → AB (cxOf (L2.CX P w) P w K mg base N qual (defScope st) f cdv A outer s H E) K (fun _ => E) (kP N.length nw) (ds.map .fz ++ List.replicate (N.length - n) .un) (defBody st) (mf ds)) :
    FnG P w K mg base (L2.CX P w) (k + 1) f fd ps (spM K (mk0 n) nw (Lp mf)) := by
  exact okGX Fn S (fun vs H Q E h => h.1.trans (by rw [List.length_replicate]; exact hn.symm)) (okP_b (ps := ps) S hn hbody)
/-- a def whose first parameter is the caller's own thing -/
theorem okR {x qual : Str} {st : Stmt} {f : Addr} {fd : FuncData} {N ps : List Str} {k n m : Nat} {fs : List Str} {mf : List D → R D (D × D)} (Fn : Fun K x qual st f fd) (S : FnScope N ps (defScope st)) (hn : ps.length = n + 1) (hm : N.length = m + 1)
    (hbody : ∀ (cdv : Value) (A : Around) (outer : List Env) (s : Shared) (H : Hp) (E : XK), Room k (A.deeper (envOfC qual (defScope st) s.heap.objs.size f cdv)) → Quiet (A.deeper (envOfC qual (defScope st) s.heap.objs.size f cdv)) →
      TakesE (cxOf (L2.CX P w) P w K mg base N qual (defScope st) f cdv A outer s H E) (fun _ => E) → (∀ σ, PassesAt (L2.CX P w) (cxOf (L2.CX P w) P w K mg base N qual (defScope st) f cdv A outer s H E) σ E) → PassesOwn (model P w) (A.deeper (envOfC qual (defScope st) s.heap.objs.size f cdv)) (cxOf (L2.CX P w) P w K mg base N qual (defScope st) f cdv A outer s H E).env (cxOf (L2.CX P w) P w K mg base N qual (defScope st) f cdv A outer s H E).xe →
      ∀ o ds, ds.length = n → AB (cxOf (L2.CX P w) P w K mg base N qual (defScope st) f cdv A outer s H E) K (fun _ => E) (kR m fs) (.ow (some 0) o fs :: (ds.map .fz ++ List.replicate (N.length - (n + 1)) .un)) (defBody st) (mf (o :: ds))) :
    FnG P w K mg base (L2.CX P w) (k + 1) f fd ps (spM K (some fs :: mk0 n) none (L1 mf)) := by
  refine okGX Fn S (fun vs H Q E h => h.1.trans (by rw [List.length_cons, List.length_replicate]; exact hn.symm)) (fun cdv A outer s H vs Q E hr hG0 h => ?_)
  obtain ⟨hl, F, ds0, q, hdl, sr, hq⟩ := h
  cases ds0 with
  | nil => cases hdl
  | cons o ds =>
    rw [List.length_cons, List.length_replicate] at hl
    have hdl : ds.length = n := by simpa using hdl
    have hargs : mkArgs (o :: ds) (some fs :: mk0 n) 0 = .ow (some 0) o fs :: ds.map .fz := by
      show .ow (some 0) o fs :: mkArgs ds (mk0 n) 1 = _
      rw [mk0_fz hdl]
    rw [hargs] at sr
    have tk : Takes (cxOf (L2.CX P w) P w K mg base N qual (defScope st) f cdv A outer s H E) (fun cls d _ H => E cls d H) := takes_of rfl rfl rfl rfl
    have fin : ∀ {F' H' : Hp} {σ' : L2.St} {o' : D}, SR K ⟨F, H, q, parOf vs⟩ F' H' σ' (.ow (some 0) o' fs :: List.replicate m .un) → SR K ⟨F, H, q, parOf vs⟩ F' H' (vs.map some) (mkOuts [o'] (some fs :: mk0 n) 0) := fun {F' H' σ' o'} r => by
      obtain ⟨ft', hf'⟩ := r.own
      obtain ⟨p, g1, g2, g3, g4⟩ := hf'.ow 0 (some 0) o' fs rfl
      have g5 : parOf vs 0 = some p := g4 0 rfl
      have hv0 : (vs.map some)[0]? = some (some (V.ref p)) := by
        unfold parOf at g5
        split at g5
        · rename_i e
          cases g5
          rw [List.getElem?_map, e]
          rfl
        · cases g5
      have hu : ∀ j, j ≠ 0 → fget (mkOuts [o'] (some fs :: mk0 n) 0) j = .un := fun j hj => by
        cases j with
        | zero => exact absurd rfl hj
        | succ j => exact outs_un n 1 j
      refine ⟨r.ex, r.ex0, r.keep, r.newF, ?_, fun j d h => ?_, fun j a d gs h => ?_, ft', fun j t' d f' h => ?_, fun j k t1 t2 d1 d2 f1 f2 hjk e1 e2 => ?_⟩
      · show _ = (Sl.ow (some 0) o' fs :: mkOuts [] (mk0 n) 1).length
        rw [List.length_map, List.length_cons, outs_len]; exact hl
      · cases j with
        | zero => cases h
        | succ j => rw [hu _ (Nat.succ_ne_zero j)] at h; cases h
      · cases j with
        | zero => cases h
        | succ j => rw [hu _ (Nat.succ_ne_zero j)] at h; cases h
      · cases j with
        | zero => cases h; exact ⟨p, hv0, g2, g3, g4⟩
        | succ j => rw [hu _ (Nat.succ_ne_zero j)] at h; cases h
      · cases j with
        | succ j => rw [hu _ (Nat.succ_ne_zero j)] at e1; cases e1
        | zero =>
          cases k with
          | zero => exact absurd rfl hjk
          | succ k => rw [hu _ (Nat.succ_ne_zero k)] at e2; cases e2
    have key : tsC (cxOf (L2.CX P w) P w K mg base N qual (defScope st) f cdv A outer s H E) (defBody st) { nx := fun _ H' => Q .non H', rt := Q } (vs.map some ++ List.replicate (N.length - (n + 1)) none) H := by
      refine (hbody cdv A outer s H E hr hG0 tk (fun σ => passAt tk σ) (passes_of rfl) o ds hdl).2 ⟨F, H, q, parOf vs⟩ F H (vs.map some ++ List.replicate (N.length - (n + 1)) none) { nx := fun _ H' => Q .non H', rt := Q }
        (fun m => PostM K ⟨F, H, q, parOf vs⟩ F (vs.map some) E none (some fs :: mk0 n) Q (match m with
          | .ok (d, o) => .ok (d, [o])
          | .ex x o => .ex x [o]
          | .no => .no)) (sr.start _) ⟨fun z => z, fun y b hy c dd F' H' σ' e1 s1 x1 => hy c dd F' H' e1 (fin s1) x1, fun z hz F' H' σ' e1 s1 => hz .non F' H' e1 (fin s1) .non, fun z => z.elim, fun z => z.elim, fun d z hz v F' H' σ' e1 s1 r1 => hz v F' H' e1 (fin s1) r1⟩ hq
    obtain ⟨t, h1, h2⟩ := key
    refine ⟨t, h1, ?_⟩
    have hst : L2.start N vs = vs.map some ++ List.replicate (N.length - (n + 1)) none := by unfold L2.start; rw [hl]
    rw [hst]
    exact h2
/-- .. that raises nothing -/
theorem okR0_b {qual : Str} {st : Stmt} {f : Addr} {N ps : List Str} {k n m : Nat} {fs : List Str} {mf : List D → R Unit (D × D)} (S : FnScope N ps (defScope st)) (hn : ps.length = n + 1) (hm : N.length = m + 1)
    (hbody : ∀ (cdv : Value) (A : Around) (outer : List Env) (s : Shared) (H : Hp) (E : XK), Room k (A.deeper (envOfC qual (defScope st) s.heap.objs.size f cdv)) → Quiet (A.deeper (envOfC qual (defScope st) s.heap.objs.size f cdv)) →
      TakesE (cxOf (L2.CX P w) P w K mg base N qual (defScope st) f cdv A outer s H E) (fun _ => E) → (∀ σ, PassesAt (L2.CX P w) (cxOf (L2.CX P w) P w K mg base N qual (defScope st) f cdv A outer s H E) σ E) → PassesOwn (model P w) (A.deeper (envOfC qual (defScope st) s.heap.objs.size f cdv)) (cxOf (L2.CX P w) P w K mg base N qual (defScope st) f cdv A outer s H E).env (cxOf (L2.CX P w) P w K mg base N qual (defScope st) f cdv A outer s H E).xe →
      ∀ o ds, ds.length = n → AB (cxOf (L2.CX P w) P w K mg base N qual (defScope st) f cdv A outer s H E) K (fun _ => E) (kR0 m fs) (.ow (some 0) o fs :: (ds.map .fz ++ List.replicate (N.length - (n + 1)) .un)) (defBody st) (mf (o :: ds))) :
    Bod P w K mg base N qual st f k (spM K (some fs :: mk0 n) none (L1e mf)) := by
  intro cdv A outer s H vs Q E hr hG0 h
  obtain ⟨hl, F, ds0, q, hdl, sr, hq⟩ := h
  cases ds0 with
  | nil => cases hdl
  | cons o ds =>
    rw [List.length_cons, List.length_replicate] at hl
    have hdl : ds.length = n := by simpa using hdl
    have hargs : mkArgs (o :: ds) (some fs :: mk0 n) 0 = .ow (some 0) o fs :: ds.map .fz := by
      show .ow (some 0) o fs :: mkArgs ds (mk0 n) 1 = _
      rw [mk0_fz hdl]
    rw [hargs] at sr
    have tk : Takes (cxOf (L2.CX P w) P w K mg base N qual (defScope st) f cdv A outer s H E) (fun cls d _ H => E cls d H) := takes_of rfl rfl rfl rfl
    have fin : ∀ {F' H' : Hp} {σ' : L2.St} {o' : D}, SR K ⟨F, H, q, parOf vs⟩ F' H' σ' (.ow (some 0) o' fs :: List.replicate m .un) → SR K ⟨F, H, q, parOf vs⟩ F' H' (vs.map some) (mkOuts [o'] (some fs :: mk0 n) 0) := fun {F' H' σ' o'} r => by
      obtain ⟨ft', hf'⟩ := r.own
      obtain ⟨p, g1, g2, g3, g4⟩ := hf'.ow 0 (some 0) o' fs rfl
      have g5 : parOf vs 0 = some p := g4 0 rfl
      have hv0 : (vs.map some)[0]? = some (some (V.ref p)) := by
        unfold parOf at g5
        split at g5
        · rename_i e
          cases g5
          rw [List.getElem?_map, e]
          rfl
        · cases g5
      have hu : ∀ j, j ≠ 0 → fget (mkOuts [o'] (some fs :: mk0 n) 0) j = .un := fun j hj => by
        cases j with
        | zero => exact absurd rfl hj
        | succ j => exact outs_un n 1 j
      refine ⟨r.ex, r.ex0, r.keep, r.newF, ?_, fun j d h => ?_, fun j a d gs h => ?_, ft', fun j t' d f' h => ?_, fun j k t1 t2 d1 d2 f1 f2 hjk e1 e2 => ?_⟩
      · show _ = (Sl.ow (some 0) o' fs :: mkOuts [] (mk0 n) 1).length
        rw [List.length_map, List.length_cons, outs_len]; exact hl
      · cases j with
        | zero => cases h
        | succ j => rw [hu _ (Nat.succ_ne_zero j)] at h; cases h
      · cases j with
        | zero => cases h
        | succ j => rw [hu _ (Nat.succ_ne_zero j)] at h; cases h
      · cases j with
        | zero => cases h; exact ⟨p, hv0, g2, g3, g4⟩
        | succ j => rw [hu _ (Nat.succ_ne_zero j)] at h; cases h
      · cases j with
        | succ j => rw [hu _ (Nat.succ_ne_zero j)] at e1; cases e1
        | zero =>
          cases k with
          | zero => exact absurd rfl hjk
          | succ k => rw [hu _ (Nat.succ_ne_zero k)] at e2; cases e2
    have key : tsC (cxOf (L2.CX P w) P w K mg base N qual (defScope st) f cdv A outer s H E) (defBody st) { nx := fun _ H' => Q .non H', rt := Q } (vs.map some ++ List.replicate (N.length - (n + 1)) none) H := by
      refine (hbody cdv A outer s H E hr hG0 tk (fun σ => passAt tk σ) (passes_of rfl) o ds hdl).2 ⟨F, H, q, parOf vs⟩ F H (vs.map some ++ List.replicate (N.length - (n + 1)) none) { nx := fun _ H' => Q .non H', rt := Q }
        (fun m => PostM K ⟨F, H, q, parOf vs⟩ F (vs.map some) E none (some fs :: mk0 n) Q (match m with
          | .ok (d, o) => .ok (d, [o])
          | .ex x _ => .ex x []
          | .no => .no)) (sr.start _) ⟨fun z => z, fun y b hy c dd F' H' σ' e1 s1 x1 => hy c dd F' H' e1 (s1.unAll (fun j => by cases j with | zero => rfl | succ j => exact outs_un n 1 j) (by show _ = (Sl.un :: mkOuts [] (mk0 n) 1).length; rw [List.length_map, List.length_cons, outs_len]; exact hl)) x1, fun z hz F' H' σ' e1 s1 => hz .non F' H' e1 (fin s1) .non, fun z => z.elim, fun z => z.elim, fun d z hz v F' H' σ' e1 s1 r1 => hz v F' H' e1 (fin s1) r1⟩ hq
    obtain ⟨t, h1, h2⟩ := key
    refine ⟨t, h1, ?_⟩
    have hst : L2.start N vs = vs.map some ++ List.replicate (N.length - (n + 1)) none := by unfold L2.start; rw [hl]
    rw [hst]
    exact h2
/-- .. that raises nothing -/
theorem okR0 {x qual : Str} {st : Stmt} {f : Addr} {fd : FuncData} {N ps : List Str} {k n m : Nat} {fs : List Str} {mf : List D → R Unit (D × D)} (Fn : Fun K x qual st f fd) (S : FnScope N ps (defScope st)) (hn : ps.length = n + 1) (hm : N.length = m + 1)
    (hbody : ∀ (cdv : Value) (A : Around) (outer : List Env) (s : Shared) (H : Hp) (E : XK), Room k (A.deeper (envOfC qual (defScope st) s.heap.objs.size f cdv)) → Quiet (A.deeper (envOfC qual (defScope st) s.heap.objs.size f cdv)) →
      TakesE (cxOf (L2.CX P w) P w K mg base N qual (defScope st) f cdv A outer s H E) (fun _ => E) → (∀ σ, PassesAt (L2.CX P w) (cxOf (L2.CX P w) P w K mg base N qual (defScope st) f cdv A outer s H E) σ E) → PassesOwn (model P w) (A.deeper (envOfC qual (defScope st) s.heap.objs.size f cdv)) (cxOf (L2.CX P w) P w K mg base N qual (defScope st) f cdv A outer s H E).env (cxOf (L2.CX P w) P w K mg base N qual (defScope st) f cdv A outer s H E).xe →
      ∀ o ds, ds.length = n → AB (cxOf (L2.CX P w) P w K mg base N qual (defScope st) f cdv A outer s H E) K (fun _ => E) (kR0 m fs) (.ow (some 0) o fs :: (ds.map .fz ++ List.replicate (N.length - (n + 1)) .un)) (defBody st) (mf (o :: ds))) :
    FnG P w K mg base (L2.CX P w) (k + 1) f fd ps (spM K (some fs :: mk0 n) none (L1e mf)) := by
  exact okGX Fn S (fun vs H Q E h => h.1.trans (by rw [List.length_cons, List.length_replicate]; exact hn.symm)) (okR0_b (ps := ps) S hn hm hbody)
end
end DM

/-! The end: the script that the law is handed is no object of the module's own. -/
namespace DM
open PySem PySem.Spec PyProof.Rows L2 DL
def intV : Value → Bool
  | .int _ _ => true
  | _ => false
/-- a list of whole numbers -/
def intL (o : Obj) : Bool := match o.data with
  | .seq its _ => match its.toList.all intV with
    | true => match o.cls with
      | .type t => t == "list"
      | _ => false
    | false => false
  | _ => false
def noL : PySem.W.Frag → Bool
  | [] => true
  | p :: r => match intL p.2 with
    | true => false
    | false => noL r
theorem noL_look {K : PySem.W.Frag} {a : Addr} {o : Obj} (h : noL K = true) (l : K.lookup a = some o) : intL o = false := by
  induction K with
  | nil => cases l
  | cons p r ih =>
    unfold noL at h
    split at h
    · cases h
    · rename_i hp
      obtain ⟨b, x⟩ := p
      simp only [List.lookup] at l
      split at l
      · cases l; exact hp
      · exact ih h l
theorem vals_int : ∀ {ns : List Int} {us : List Value}, Vals (ns.map V.int) us → us.all intV = true
  | [], _, .nil => rfl
  | n :: ns, _, .cons ⟨t, e⟩ h => by
    subst e
    rw [List.all_cons, vals_int h]; rfl
theorem sql_rd {K : PySem.W.Frag} {H : Hp} {a : Addr} {ns : List Int} (h : noL K = true) (s : SqL K H a (ns.map V.int)) : Rd H a (.lst (ns.map V.int)) := by
  rcases s with s | ⟨o, its, n, l, c, _, d, _, v⟩
  · exact s
  · have := noL_look h l
    unfold intL at this
    rw [d, c] at this
    simp only [vals_int v] at this
    cases this
theorem dra_ints (K : PySem.W.Frag) (F : Hp) : ∀ ns : List Int, DrA K F (ns.map V.int) (ns.map D.int)
  | [] => .nil
  | n :: ns => .cons (.int n) (dra_ints K F ns)
theorem law_sp {K : PySem.W.Frag} {H : Hp} {a : Addr} {ns : List Int} {mf : List D → R Unit D} (s : SqL K H a (ns.map V.int)) (h : noL K = true) (hm : mf [.lst (ns.map .int)] = .ok (.bl true)) : spM K (mk0 1) none (Lp mf) [.ref a] H (fun v _ => v = .bl true) fun _ _ _ => False := by
  refine ⟨rfl, H, [.lst (ns.map .int)], fun _ => False, rfl, ?_, ?_⟩
  · exact SR.args (ds := [.lst (ns.map .int)]) (Ex.refl H) (.cons (.lst (sql_rd h s) (dra_ints K H ns)) .nil) rfl rfl
  · unfold Lp
    rw [hm]
    intro v F' H' _ _ r
    have r : Dr K F' v (.bl true) := r
    cases r
    rfl
/-- the goal that k_head leaves, from the law's promise -/
theorem noL_none {K : PySem.W.Frag} {a : Addr} {vs : List Value} {ns : List Int} (h : noL K = true) (hi : IntsAre vs ns) {hp : Heap} (X : K.In hp) (ha : hp.get? a = some { cls := .type "list", data := .seq vs.toArray }) : K.lookup a = none := by
  cases e : K.lookup a with
  | none => rfl
  | some o =>
    have q := noL_look h e
    have q2 := X a o e
    rw [ha] at q2
    cases q2
    unfold intL at q
    have v := vals_int (vals_ints hi)
    simp only [List.toList_toArray, v] at q
    cases q
theorem walkM {l : PySem.W.OpenLaw} {n k : Nat} {q : Program} {loose : List Str} {XP : (Str → Option Value) → Heap → Prop} {YP : World → Heap → Prop} {d : DefRec} {K : Params → PySem.W.Frag} {mf : List D → R Unit D} {x : Str}
    (hn : l.most = some n) (hn2 : n ≤ sizeLine) (hdf : d.params.defaults = []) (hr : Room k callerA)
    (hY : ∀ (w : World) (h : Heap), YP w h → (K w.params).In h)
    (hL : ∀ w : World, noL (K w.params) = true)
    (hG : ∀ ns : List Int, ns.length ≤ n → mf [.lst (ns.map .int)] = .ok (.bl true))
    (F : ∀ (w : World) (mg : Str → Option Value) (fa : Addr) (h : Heap), (K w.params).In h → h.Ns mainGlobals mg → mg d.name = some (.ref fa) →
      ∃ fd : FuncData, (∀ (s : Shared) (u : Value), BindsTo s fd ⟨[u], []⟩ [(x, u)]) ∧
        ∀ base : Heap, (K w.params).In base → base.Ns mainGlobals mg → FnG l.prog w (K w.params) mg base (L2.CX l.prog w) k fa fd [x] (spM (K w.params) (mk0 1) none (Lp mf))) :
    PySem.W.WalkO q loose XP YP l.row.toRowW d [] (fun f vs => PySem.call f vs) := by
  refine Att.attach_call hn hdf fun w s₀ s₁ mg mb fa o pm cd doc a vs ns T Y ho hd hcd hmg hobj hints hlen hg => ?_
  have KX := hY w _ Y
  obtain ⟨fd, hb, hF⟩ := F w mg fa _ KX T.T.g hmg
  refine headG KX T.T.g T.T.b T.T.builtins T.T.nolimit hg hobj hints (Nat.le_trans hlen hn2) hr (noL_none (hL w) hints KX hobj) hF hb (fun ob => ?_) fun H e s' hc => ?_
  · exact law_sp (Or.inl (Or.inr ⟨ob, scrH_at a ob ns⟩)) (hL w) (hG ns hlen)
  · obtain ⟨_, _, _, _, _, _, _, _, _, _, _, _, z⟩ := hc
    exact z
end DM

/-! Expressions that change one slot's own thing. -/
namespace DM
open PySem PySem.Spec PyProof.Rows L2 DL
theorem fput_same : ∀ {env : Fm} {i : Nat} {x : Sl}, fget env i = x → x ≠ .un → fput env i x = env
  | [], _, _, h, n => absurd h.symm n
  | _ :: _, 0, _, h, _ => by cases h; rfl
  | y :: xs, i + 1, x, h, n => by show y :: _ = y :: _; rw [fput_same (env := xs) (i := i) h n]
theorem wk_un : ∀ {env : Fm} {n : Nat}, env.length = n → Wk env (List.replicate n .un)
  | [], 0, _ => .nil
  | _ :: xs, n + 1, h => .d (wk_un (by simpa using h))
theorem wk_un_of {env xF : Fm} {i : Nat} {tag : Option Nat} {fs : List Str} (h : ∀ w, Wk (fput env i (.ow tag w fs)) xF) : Wk (fput env i .un) xF := by
  have hu : fget xF i = .un := by
    rcases (h .non).get i with z | z
    · rcases (h (.bl true)).get i with z2 | z2
      · rcases fget_eq env (i := i) (.ow tag .non fs) with q | q
        · rcases fget_eq env (i := i) (.ow tag (.bl true) fs) with q2 | q2
          · rw [q] at z; rw [q2, z] at z2; cases z2
          · rw [q2] at z2; exact z2
        · rw [q] at z; exact z
      · exact z2
    · exact z
  have := (h .non).put i .un hu
  rw [fput_put] at this
  exact this
section
variable (K : PySem.W.Frag) (E : XE) {β γ b a : Type} (xF : Fm) (xb : β) (env : Fm) (i : Nat) (tag : Option Nat) (fs : List Str) (w : D)
def AFJ (t : TB b) (rel : Bs → Hp → Hp → L2.St → b → a → Prop) (c : (a → D → R β γ) → R β γ) : Prop :=
  ∀ B F H σ Q k (G : R β γ → Prop), SR K B F H σ (fput env i (.ow tag w fs)) → (∀ w, Wk (fput env i (.ow tag w fs)) xF) → Gx K B E F σ xF xb G →
    (∀ d w' v F' H', G (k d w') → Ex F F' → SR K B F' H' σ (fput env i (.ow tag w' fs)) → rel B F' H' σ v d → Q v H') → G (c k) → t σ H Q
end
section
variable (X : Cx) (K : PySem.W.Frag) (E : XE) {β γ : Type} (xF : Fm) (xb : β) (env : Fm) (i : Nat) (tag : Option Nat) (fs : List Str) (w : D)
def AF (e : Expr) (c : (D → D → R β γ) → R β γ) : Prop := X.K = K ∧ AFJ K E xF xb env i tag fs w (teC X e) (fun _ F _ _ v d => Dr K F v d) c
def AFT (e : Expr) (c : (Bool → D → R β γ) → R β γ) : Prop := X.K = K ∧ AFJ K E xF xb env i tag fs w (ttC X e) (fun _ _ _ _ v d => v = d) c
def AFW (e : Expr) (c : (Bool → D → R β γ) → R β γ) : Prop := X.K = K ∧ AFJ K E xF xb env i tag fs w (twC X e) (fun _ _ _ _ v d => v = d) c
def AFA (es : List Expr) (c : (List D → D → R β γ) → R β γ) : Prop := X.K = K ∧ AFJ K E xF xb env i tag fs w (taC X es) (fun _ F _ _ vs ds => DrA K F vs ds) c
def AFO (e : Option Expr) (c : (Option Int → D → R β γ) → R β γ) : Prop := X.K = K ∧ AFJ K E xF xb env i tag fs w (toC X e) (fun _ _ _ _ v d => v = d) c
def AFI (tg iter : Expr) (c : (List D → D → R β γ) → R β γ) : Prop := X.K = K ∧ AFJ K E xF xb env i tag fs w (tiC X tg iter) (fun _ F _ _ J ds => rI K F J ds) c
end
section
variable {X : Cx} {K : PySem.W.Frag} {E : XE} {β γ : Type} {xF : Fm} {xb : β} {env : Fm} {i : Nat} {tag : Option Nat} {fs : List Str} {w : D} {e a b c : Expr} {es : List Expr} {pos p : Pos} {c1 : (D → D → R β γ) → R β γ} {c2 : D → (D → D → R β γ) → R β γ}
theorem AJ.lift {b a : Type} {t : TB b} {rel : Bs → Hp → Hp → L2.St → b → a → Prop} {c : (a → R β γ) → R β γ} (h : AJ K E xF xb (fput env i (.ow tag w fs)) t rel c) : AFJ K E xF xb env i tag fs w t rel (fun k => c fun d => k d w) := fun B F H σ Q k G s wk gx hk hG =>
  h B F H σ Q _ G s (wk w) gx (fun d v F' H' g e eh s' r => hk d w v F' H' g e s' r) hG
theorem AE.lift {c : (D → R β γ) → R β γ} (h : AE X K E xF xb (fput env i (.ow tag w fs)) e c) : AF X K E xF xb env i tag fs w e (fun k => c fun d => k d w) := ⟨h.1, AJ.lift h.2⟩
theorem AT.lift {c : (Bool → R β γ) → R β γ} (h : AT X K E xF xb (fput env i (.ow tag w fs)) e c) : AFT X K E xF xb env i tag fs w e (fun k => c fun d => k d w) := ⟨h.1, AJ.lift h.2⟩
theorem AA.lift {c : (List D → R β γ) → R β γ} (h : AA X K E xF xb (fput env i (.ow tag w fs)) es c) : AFA X K E xF xb env i tag fs w es (fun k => c fun d => k d w) := ⟨h.1, AJ.lift h.2⟩
theorem AO.lift {e : Option Expr} {c : (Option Int → R β γ) → R β γ} (h : AO X K E xF xb (fput env i (.ow tag w fs)) e c) : AFO X K E xF xb env i tag fs w e (fun k => c fun d => k d w) := ⟨h.1, AJ.lift h.2⟩
theorem AI.lift {tg : Expr} {c : (List D → R β γ) → R β γ} (h : AI X K E xF xb (fput env i (.ow tag w fs)) tg e c) : AFI X K E xF xb env i tag fs w tg e (fun k => c fun d => k d w) := ⟨h.1, AJ.lift h.2⟩

/-! ### operators -/
theorem afj_op {r : R2} {g : D → D → Option D} (hg : OpD K r g) (ha : AF X K E xF xb env i tag fs w a c1) (hb : ∀ w, AF X K E xF xb env i tag fs w b (c2 w)) :
    AFJ K E xF xb env i tag fs w (tOp r (teC X a) (teC X b)) (fun _ F _ _ v d => Dr K F v d) (fun (k : D → D → R β γ) => c1 fun x w1 => c2 w1 fun y w2 => R.lft (g x y) fun z => k z w2) := fun B F H σ Q k G s wk gx hk hG =>
  ha.2 B F H σ _ _ G s wk gx (fun x w1 v F1 H1 h1 e1 s1 d1 => (hb w1).2 B F1 H1 σ _ _ G s1 wk (gx.mono e1) (fun y w2 u F2 H2 h2 e2 s2 d2 => by
    cases hc : g x y with
    | none => rw [hc] at h2; exact (gx.no h2).elim
    | some z =>
      rw [hc] at h2
      exact hg B F2 H2 σ _ v u x y z Q s2 (.inl (d1.mono e2)) (.inl d2) hc fun v' F' H' e' _ s' d' => hk z w2 v' F' H' h2 (e1.trans (e2.trans e')) s' d') h1) hG
theorem af_op {op : Operator} {r : R2} {g : D → D → Option D} (ho : OpR X (binaryOp op) r) (hg : OpD K r g) (ha : AF X K E xF xb env i tag fs w a c1) (hb : ∀ w, AF X K E xF xb env i tag fs w b (c2 w)) : AF X K E xF xb env i tag fs w (.BinOp a op b pos) (fun (k : D → D → R β γ) => c1 fun x w1 => c2 w1 fun y w2 => R.lft (g x y) fun z => k z w2) :=
  ⟨ha.1, fun B F H σ Q k G s wk gx hk hG => ⟨_, pe_op ho pe_C pe_C, afj_op hg ha hb B F H σ Q k G s wk gx hk hG⟩⟩
theorem af_cmp {op : CmpOp} {r : R2} {g : D → D → Option D} (ho : OpR X (compareOp op) r) (hg : OpD K r g) (ha : AF X K E xF xb env i tag fs w a c1) (hb : ∀ w, AF X K E xF xb env i tag fs w b (c2 w)) (hm : behindInMarks op b = false) : AF X K E xF xb env i tag fs w (.Compare a [op] [b] pos) (fun (k : D → D → R β γ) => c1 fun x w1 => c2 w1 fun y w2 => R.lft (g x y) fun z => k z w2) :=
  ⟨ha.1, fun B F H σ Q k G s wk gx hk hG => ⟨_, pe_cmpR ho pe_C pe_C hm, afj_op hg ha hb B F H σ Q k G s wk gx hk hG⟩⟩
theorem af_ix (ha : AF X K E xF xb env i tag fs w a c1) (hb : ∀ w, AF X K E xF xb env i tag fs w b (c2 w)) (hs : PlainIx b := by exact fun _ _ => rfl) : AF X K E xF xb env i tag fs w (.Subscript a b pos) (fun (k : D → D → R β γ) => c1 fun x w1 => c2 w1 fun y w2 => R.lft (ixG x y) fun z => k z w2) :=
  ⟨ha.1, fun B F H σ Q k G s wk gx hk hG => ⟨_, pe_ix ix_seq pe_C pe_C hs, afj_op (ha.1 ▸ od_ix) ha hb B F H σ Q k G s wk gx hk hG⟩⟩
theorem afj_test {t : TE} (h : AFJ K E xF xb env i tag fs w t (fun _ F _ _ v d => Dr K F v d) c1) : AFJ K E xF xb env i tag fs w (tTest t) (fun _ _ _ _ v d => v = d) (fun (k : Bool → D → R β γ) => c1 fun d w1 => R.asB d fun b => k b w1) := fun B F H σ Q k G s wk gx hk hG =>
  h B F H σ _ _ G s wk gx (fun d w1 v F1 H1 h1 e1 s1 d1 => by
    cases d <;> first | exact (gx.no h1).elim | skip
    cases d1
    exact ⟨_, rfl, hk _ w1 _ F1 H1 h1 e1 s1 rfl⟩) hG
theorem aft_cmp {op : CmpOp} {r : R2} {g : D → D → Option D} (ho : OpR X (compareOp op) r) (hg : OpD K r g) (ha : AF X K E xF xb env i tag fs w a c1) (hb : ∀ w, AF X K E xF xb env i tag fs w b (c2 w)) (hm : behindInMarks op b = false) : AFT X K E xF xb env i tag fs w (.Compare a [op] [b] pos) (fun (k : Bool → D → R β γ) => c1 fun x w1 => c2 w1 fun y w2 => R.lft (g x y) fun z => R.asB z fun b => k b w2) :=
  ⟨ha.1, fun B F H σ Q k G s wk gx hk hG => ⟨_, pt_cmpR ho pe_C pe_C hm, afj_test (afj_op hg ha hb) B F H σ Q k G s wk gx hk hG⟩⟩
theorem aft_val (h : AF X K E xF xb env i tag fs w e c1) (he : ∀ whole, isTrue e X.env whole = (do let v ← whole; standAt e.pos; holding [v] (truthy v)) := by intro _; rfl) : AFT X K E xF xb env i tag fs w e (fun (k : Bool → D → R β γ) => c1 fun d w1 => R.asB d fun b => k b w1) :=
  ⟨h.1, fun B F H σ Q k G s wk gx hk hG => ⟨_, pt_val pe_C he, afj_test h.2 B F H σ Q k G s wk gx hk hG⟩⟩
theorem aft_not {ct : (Bool → D → R β γ) → R β γ} (h : AFT X K E xF xb env i tag fs w e ct) : AFT X K E xF xb env i tag fs w (.UnaryOp .Not e pos) (fun (k : Bool → D → R β γ) => ct fun b w1 => k (!b) w1) :=
  ⟨h.1, fun B F H σ Q k G s wk gx hk hG => ⟨_, pt_not pt_C, h.2 B F H σ _ _ G s wk gx (fun d w1 v F1 H1 h1 e1 s1 d1 => by subst d1; exact hk _ w1 _ F1 H1 h1 e1 s1 rfl) hG⟩⟩
/-- a direct value and what the thing is then, and on -/
def R.bind2 {β α γ : Type} (m : R β (α × D)) (k : α → D → R β γ) : R β γ := match m with
  | .ok (a, w) => k a w
  | .ex x b => .ex x b
  | .no => .no
def Gd2 {β α γ : Type} (G : R β γ → Prop) (k : α → D → R β γ) : R β (α × D) → Prop := fun m => G (R.bind2 m k)
theorem Gd2.gx {B : Bs} {F : Hp} {σ : L2.St} {α : Type} {G : R β γ → Prop} {k : α → D → R β γ} (g : Gx K B E F σ xF xb G) : Gx K B E F σ xF xb (Gd2 G k) := ⟨g.no, g.ex⟩
theorem afw_and1 {ct : (Bool → D → R β γ) → R β γ} (h : AFT X K E xF xb env i tag fs w a ct) : AFW X K E xF xb env i tag fs w (.BoolOp .And [a] pos) ct :=
  ⟨h.1, fun B F H σ Q k G s wk gx hk hG => ⟨_, pw_and1 pt_C, h.2 B F H σ Q k G s wk gx hk hG⟩⟩
theorem afw_or1 {ct : (Bool → D → R β γ) → R β γ} (h : AFT X K E xF xb env i tag fs w a ct) : AFW X K E xF xb env i tag fs w (.BoolOp .Or [a] pos) ct :=
  ⟨h.1, fun B F H σ Q k G s wk gx hk hG => ⟨_, pw_or1 pt_C, h.2 B F H σ Q k G s wk gx hk hG⟩⟩
theorem afw_and {ct : (Bool → D → R β (Bool × D)) → R β (Bool × D)} {cu : D → (Bool → D → R β (Bool × D)) → R β (Bool × D)} {rest : List Expr} (h : AFT X K E xF xb env i tag fs w a ct) (h' : ∀ w, AFW X K E xF xb env i tag fs w (.BoolOp .And (b :: rest) pos) (cu w)) :
    AFW X K E xF xb env i tag fs w (.BoolOp .And (a :: b :: rest) pos) (fun (k : Bool → D → R β γ) => R.bind2 (ct fun x w1 => if x then cu w1 fun b w => .ok (b, w) else .ok (false, w1)) k) :=
  ⟨h.1, fun B F H σ Q k G s wk gx hk hG => ⟨_, pw_and pt_C pw_C, h.2 B F H σ _ _ (Gd2 G k) s wk (Gd2.gx gx) (fun d w1 v F1 H1 h1 e1 s1 d1 => by
    subst d1
    cases v with
    | true => exact iteT ((h' w1).2 B F1 H1 σ _ (fun b w => .ok (b, w)) (Gd2 G k) s1 wk ((Gd2.gx gx).mono e1) (fun d w2 v F2 H2 h2 e2 s2 d2 => hk d w2 v F2 H2 h2 (e1.trans e2) s2 d2) h1)
    | false => exact iteF (hk _ w1 _ F1 H1 h1 e1 s1 rfl)) hG⟩⟩
theorem afw_or {ct : (Bool → D → R β (Bool × D)) → R β (Bool × D)} {cu : D → (Bool → D → R β (Bool × D)) → R β (Bool × D)} {rest : List Expr} (h : AFT X K E xF xb env i tag fs w a ct) (h' : ∀ w, AFW X K E xF xb env i tag fs w (.BoolOp .Or (b :: rest) pos) (cu w)) :
    AFW X K E xF xb env i tag fs w (.BoolOp .Or (a :: b :: rest) pos) (fun (k : Bool → D → R β γ) => R.bind2 (ct fun x w1 => if x then .ok (true, w1) else cu w1 fun b w => .ok (b, w)) k) :=
  ⟨h.1, fun B F H σ Q k G s wk gx hk hG => ⟨_, pw_or pt_C pw_C, h.2 B F H σ _ _ (Gd2 G k) s wk (Gd2.gx gx) (fun d w1 v F1 H1 h1 e1 s1 d1 => by
    subst d1
    cases v with
    | false => exact iteF ((h' w1).2 B F1 H1 σ _ (fun b w => .ok (b, w)) (Gd2 G k) s1 wk ((Gd2.gx gx).mono e1) (fun d w2 v F2 H2 h2 e2 s2 d2 => hk d w2 v F2 H2 h2 (e1.trans e2) s2 d2) h1)
    | true => exact iteT (hk _ w1 _ F1 H1 h1 e1 s1 rfl)) hG⟩⟩
theorem AFW.at {ct : (Bool → D → R β γ) → R β γ} (h : AFW X K E xF xb env i tag fs w e ct) : AFT X K E xF xb env i tag fs w e ct :=
  ⟨h.1, fun B F H σ Q k G s wk gx hk hG => ⟨_, PW.pt pw_C, h.2 B F H σ Q k G s wk gx hk hG⟩⟩
theorem af_if {ct : (Bool → D → R β (D × D)) → R β (D × D)} {d1 d2 : D → (D → D → R β (D × D)) → R β (D × D)} (h : AFT X K E xF xb env i tag fs w c ct) (ha : ∀ w, AF X K E xF xb env i tag fs w a (d1 w)) (hb : ∀ w, AF X K E xF xb env i tag fs w b (d2 w)) :
    AF X K E xF xb env i tag fs w (.IfExp c a b pos) (fun (k : D → D → R β γ) => R.bind2 (ct fun x w1 => if x then d1 w1 fun d w => .ok (d, w) else d2 w1 fun d w => .ok (d, w)) k) :=
  ⟨h.1, fun B F H σ Q k G s wk gx hk hG => ⟨_, pe_ifExp pt_C pe_C pe_C, h.2 B F H σ _ _ (Gd2 G k) s wk (Gd2.gx gx) (fun d w1 v F1 H1 h1 e1 s1 r1 => by
    subst r1
    cases v with
    | true => exact iteT ((ha w1).2 B F1 H1 σ _ (fun b w => .ok (b, w)) (Gd2 G k) s1 wk ((Gd2.gx gx).mono e1) (fun d w2 v F2 H2 h2 e2 s2 d2 => hk d w2 v F2 H2 h2 (e1.trans e2) s2 d2) h1)
    | false => exact iteF ((hb w1).2 B F1 H1 σ _ (fun b w => .ok (b, w)) (Gd2 G k) s1 wk ((Gd2.gx gx).mono e1) (fun d w2 v F2 H2 h2 e2 s2 d2 => hk d w2 v F2 H2 h2 (e1.trans e2) s2 d2) h1)) hG⟩⟩

/-! ### several items, displays -/
theorem afa_cons {cs : D → (List D → D → R β γ) → R β γ} (ha : AF X K E xF xb env i tag fs w e c1) (hr : ∀ w, AFA X K E xF xb env i tag fs w es (cs w)) (hs : starEach (e :: es) X.env = (false, eval e X.env) :: starEach es X.env := by rfl) : AFA X K E xF xb env i tag fs w (e :: es) (fun (k : List D → D → R β γ) => c1 fun d w1 => cs w1 fun ds w2 => k (d :: ds) w2) :=
  ⟨ha.1, fun B F H σ Q k G s wk gx hk hG => ⟨_, pa_cons pe_C pa_C hs, ha.2 B F H σ _ _ G s wk gx (fun d w1 v F1 H1 h1 e1 s1 d1 => (hr w1).2 B F1 H1 σ _ _ G s1 wk (gx.mono e1) (fun ds w2 vs F2 H2 h2 e2 s2 d2 =>
    hk (d :: ds) w2 (v :: vs) F2 H2 h2 (e1.trans e2) s2 (.cons (d1.mono e2) d2)) h1) hG⟩⟩
theorem af_lst {cs : (List D → D → R β γ) → R β γ} (h : AFA X K E xF xb env i tag fs w es cs) : AF X K E xF xb env i tag fs w (.List es pos) (fun (k : D → D → R β γ) => cs fun ds w1 => R.few ds fun ds => k (.lst ds) w1) :=
  ⟨h.1, fun B F H σ Q k G s wk gx hk hG => ⟨_, pe_lst pa_C, h.2 B F H σ _ _ G s wk gx (fun ds w1 vs F1 H1 h1 e1 s1 d1 => by
    unfold R.few at h1
    split at h1
    · rename_i hz
      refine ⟨by rw [d1.length]; exact of_decide_eq_true hz, fun p hp => ?_⟩
      obtain ⟨s2, n2⟩ := s1.newN hp (Do.lst d1)
      obtain ⟨F5, e5, d5, s5⟩ := s2.frzN n2
      exact hk _ w1 _ F5 _ h1 (e1.trans e5) s5 d5
    · exact (gx.no h1).elim) hG⟩⟩
theorem af_tup {x1} {cs : (List D → D → R β γ) → R β γ} (h : AFA X K E xF xb env i tag fs w es cs) : AF X K E xF xb env i tag fs w (.Tuple es x1 pos) (fun (k : D → D → R β γ) => cs fun ds w1 => R.few ds fun ds => k (.tup ds) w1) :=
  ⟨h.1, fun B F H σ Q k G s wk gx hk hG => ⟨_, pe_tupZ pa_C, h.2 B F H σ _ _ G s wk gx (fun ds w1 vs F1 H1 h1 e1 s1 d1 => by
    unfold R.few at h1
    split at h1
    · rename_i hz
      refine ⟨by rw [d1.length]; exact of_decide_eq_true hz, fun p o hp ho => ?_⟩
      obtain ⟨e2, s2, d2⟩ := s1.newT hp ho d1
      exact hk _ w1 _ _ _ h1 (e1.trans e2) s2 d2
    · exact (gx.no h1).elim) hG⟩⟩
theorem afo_some (h : AF X K E xF xb env i tag fs w e c1) : AFO X K E xF xb env i tag fs w (some e) (fun (k : Option Int → D → R β γ) => c1 fun d w1 => R.asI d fun j => k (some j) w1) :=
  ⟨h.1, fun B F H σ Q k G s wk gx hk hG => ⟨_, po_some pe_C, h.2 B F H σ _ _ G s wk gx (fun d w1 v F1 H1 h1 e1 s1 d1 => by
    cases d <;> first | exact (gx.no h1).elim | skip
    cases d1
    exact ⟨_, rfl, hk _ w1 _ F1 H1 h1 e1 s1 rfl⟩) hG⟩⟩
theorem af_sl {lo hi : Option Expr} {p2 : Pos} {cl ch : D → (Option Int → D → R β γ) → R β γ} (ha : AF X K E xF xb env i tag fs w e c1) (hl : ∀ w, AFO X K E xF xb env i tag fs w lo (cl w)) (hh : ∀ w, AFO X K E xF xb env i tag fs w hi (ch w)) :
    AF X K E xF xb env i tag fs w (.Subscript e (.Slice lo hi none p2) pos) (fun (k : D → D → R β γ) => c1 fun x w1 => cl w1 fun l w2 => ch w2 fun h w3 => R.lft (slG x l h) fun z => k z w3) :=
  ⟨ha.1, fun B F H σ Q k G s wk gx hk hG => ⟨_, pe_slice ((sl_list.or sl_tupZ).or C8.sl_txt) pe_C po_C po_C, ha.2 B F H σ _ _ G s wk gx (fun x w1 v F1 H1 h1 e1 s1 d1 =>
    (hl w1).2 B F1 H1 σ _ _ G s1 wk (gx.mono e1) (fun l w2 l' F2 H2 h2 e2 s2 d2 => (hh w2).2 B F2 H2 σ _ _ G s2 wk (gx.mono (e1.trans e2)) (fun h w3 h' F3 H3 h3 e3 s3 d3 => by
      subst d2
      subst d3
      cases hc : slG x l' h' with
      | none => rw [hc] at h3; exact (gx.no h3).elim
      | some d =>
        rw [hc] at h3
        have hK := ha.1
        subst hK
        exact sl_core s3 (.inl (d1.mono (e2.trans e3))) hc fun v F4 H4 e4 _ s4 d4 => hk d w3 v F4 H4 h3 (e1.trans (e2.trans (e3.trans e4))) s4 d4) h2) h1) hG⟩⟩

/-! ### calls of built-ins, of own defs -/
theorem DrA.dh {F H : Hp} : ∀ {vs : List V} {ds : List D}, DrA K F vs ds → DhA K F H vs ds
  | _, _, .nil => trivial
  | _, _, .cons h t => ⟨.inl h, DrA.dh t⟩
theorem afj_call {r : List V → Hp → VK → Prop} {g : List D → Option D} {cs : (List D → D → R β γ) → R β γ} (hg : CallD K r g) (ha : AFA X K E xF xb env i tag fs w es cs) :
    AFJ K E xF xb env i tag fs w (tCB r (taC X es)) (fun _ F _ _ v d => Dr K F v d) (fun (k : D → D → R β γ) => cs fun ds w1 => R.lft (g ds) fun z => k z w1) := fun B F H σ Q k G s wk gx hk hG =>
  ha.2 B F H σ _ _ G s wk gx (fun ds w1 vs F1 H1 h1 e1 s1 d1 => by
    cases hc : g ds with
    | none => rw [hc] at h1; exact (gx.no h1).elim
    | some z =>
      rw [hc] at h1
      exact hg B F1 H1 σ _ vs ds z Q s1 d1.dh hc fun v' F' H' e' _ s' d' => hk z w1 v' F' H' h1 (e1.trans e') s' d') hG
section
variable {r : List V → Hp → VK → Prop} {g : List D → Option D} {cs : (List D → D → R β γ) → R β γ} {x : Str} {id T : String}
theorem af_callB (hc : CallR X (.builtin id) r) (hd : CallD K r g) (hv : bootBuiltins x = some (.builtin id)) (hm : X.mg x = none) (hg : Gl X x) (ha : AFA X K E xF xb env i tag fs w (e :: es) cs) (hn : x ≠ "__name__" := by decide) (hdb : (x == ("__debug__" : Str)) = false := by decide)
    (he : starEach (e :: es) X.env = (false, eval e X.env) :: starEach es X.env := by rfl) (hpl : (backTo pos (starEach es X.env)).any (·.1) = false := by rfl) : AF X K E xF xb env i tag fs w (.Call (.Name x p) (e :: es) [] pos) (fun (k : D → D → R β γ) => cs fun ds w1 => R.lft (g ds) fun z => k z w1) :=
  ⟨ha.1, fun B F H σ Q k G s wk gx hk hG => ⟨_, pe_callB hc hg hm hv pa_C hn hdb he hpl, afj_call hd ha B F H σ Q k G s wk gx hk hG⟩⟩
theorem af_callT (hc : CallR X (.type T) r) (hd : CallD K r g) (hv : bootBuiltins x = some (.type T)) (hm : X.mg x = none) (hg : Gl X x) (ha : AFA X K E xF xb env i tag fs w (e :: es) cs) (hn : x ≠ "__name__" := by decide) (hdb : (x == ("__debug__" : Str)) = false := by decide)
    (he : starEach (e :: es) X.env = (false, eval e X.env) :: starEach es X.env := by rfl) (hpl : (backTo pos (starEach es X.env)).any (·.1) = false := by rfl) : AF X K E xF xb env i tag fs w (.Call (.Name x p) (e :: es) [] pos) (fun (k : D → D → R β γ) => cs fun ds w1 => R.lft (g ds) fun z => k z w1) :=
  ⟨ha.1, fun B F H σ Q k G s wk gx hk hG => ⟨_, pe_callTy hc hg hm hv pa_C hn hdb he hpl, afj_call hd ha B F H σ Q k G s wk gx hk hG⟩⟩
/-- an own def, what is handed stands still -/
theorem af_call {n k : Nat} {mf : List D → R Unit D} (F : Dfn X.prog X.w K X.mg X.base k x (mk0 n) none (Lp mf)) (hl : ∀ ds, mf ds ≠ .no → ds.length = n) (ha : AFA X K E xF xb env i tag fs w (e :: es) cs) (hr : Room k X.A) (hG : Quiet X.A) (hx : ∀ σ, PassesAt (L2.CX X.prog X.w) X σ (E σ)) (hg : Gl X x)
    (hdb : (x == ("__debug__" : Str)) = false := by decide) (he : starEach (e :: es) X.env = (false, eval e X.env) :: starEach es X.env := by rfl) (hpl : (backTo pos (starEach es X.env)).any (·.1) = false := by rfl) :
    AF X K E xF xb env i tag fs w (.Call (.Name x p) (e :: es) [] pos) (fun (k : D → D → R β γ) => cs fun ds w1 => R.call (mf ds) xb fun z => k z w1) := by
  have hK := ha.1
  subst hK
  obtain ⟨f, fd, ps, h1, h2, h3, h4⟩ := F.ex
  exact ⟨rfl, fun B F H σ Q k G s wk gx hk hG' => ⟨_, pe_callGS h1 hr hG hg h2 h3 h4 .nil hx pa_C hdb he hpl, ha.2 B F H σ _ _ G s wk gx (fun ds w1 vs F1 H1 g1 e1 s1 d1 => by
    show spM X.K (mk0 n) none (Lp mf) (vs ++ []) H1 Q (E σ)
    rw [List.append_nil]
    exact callP_core (nw := none) s1 (wk w1) (gx.mono e1) d1 (hl ds) (fun d v F' H' g e2 _ s2 r2 => hk d w1 v F' H' g (e1.trans e2) s2 r2) g1) hG'⟩⟩
/-- f(x, a, ..), x the slot's own thing -/
theorem af_ref {n k : Nat} {mf : List D → R D (D × D)} {y : Str} {p2 : Pos} (F : Dfn X.prog X.w K X.mg X.base k x (some fs :: mk0 n) none (L1 mf)) (hl : ∀ o ds, mf (o :: ds) ≠ .no → ds.length = n) (ha : AFA X K E xF xb env i tag fs w es cs) (hltB : Nat.blt i env.length = true) (hr : Room k X.A) (hG : Quiet X.A) (hx : ∀ σ, PassesAt (L2.CX X.prog X.w) X σ (E σ)) (hg : Gl X x)
    (hN : X.N[i]? = some y := by rfl) (hv : Vis X.env.scope y := by first | exact Or.inl rfl | exact Or.inr (Or.inl rfl) | exact Or.inr (Or.inr rfl)) (hd : (y == ("__debug__" : Str)) = false := by decide) (hcd : (y == ("__classdict__" : Str)) = false := by decide)
    (hdb : (x == ("__debug__" : Str)) = false := by decide) (he : starEach (.Name y p2 :: es) X.env = (false, eval (.Name y p2) X.env) :: starEach es X.env := by rfl) (hpl : (backTo pos (starEach es X.env)).any (·.1) = false := by rfl) :
    AF X K E xF xb env i tag fs w (.Call (.Name x p) (.Name y p2 :: es) [] pos) (fun (k : D → D → R β γ) => cs fun ds w1 => R.call1 (mf (w1 :: ds)) (fun _ => xb) k) := by
  have hK := ha.1
  subst hK
  obtain ⟨f, fd, ps, h1, h2, h3, h4⟩ := F.ex
  refine ⟨rfl, fun B F H σ Q k G s wk gx hk hG' => ⟨_, pe_callGS h1 hr hG hg h2 h3 h4 .nil hx (pa_cons (pe_var hN hv hd hcd) pa_C he) hdb he hpl, ?_⟩⟩
  have hlt : i < env.length := Nat.blt_eq.mp hltB
  have hq : ∀ {w : D} {F H : Hp}, SR X.K B F H σ (fput env i (.ow tag w fs)) → ∃ q, σ[i]? = some (some (.ref q)) := fun {w F H} s => by
    obtain ⟨ft, hf⟩ := s.own
    obtain ⟨q, g1, _⟩ := hf.ow i tag w fs (fget_self hlt)
    exact ⟨q, g1⟩
  obtain ⟨q, g0⟩ := hq s
  refine ⟨_, g0, ha.2 B F H σ _ _ G s wk gx (fun ds w1 vs F1 H1 g1 e1 s1 d1 => ?_) hG'⟩
  show spM X.K (some fs :: mk0 n) none (L1 mf) ((.ref q :: vs) ++ []) H1 Q (E σ)
  rw [List.append_nil]
  have hno : mf (w1 :: ds) ≠ .no := fun z => by rw [z] at g1; exact gx.no g1
  refine sp_ref s1 (fget_self hlt) g0 d1 (hl w1 ds hno) (fun d os hm => ?_) (fun y os hm => ?_) (fun z => ?_)
  · unfold L1 at hm
    cases hq : mf (w1 :: ds) with
    | no => exact absurd hq hno
    | ex _ _ => rw [hq] at hm; cases hm
    | ok r =>
      obtain ⟨d', o'⟩ := r
      rw [hq] at hm g1
      cases hm
      refine ⟨o', rfl, fun v F' H' e2 s2 d2 => hk d o' v F' H' g1 (e1.trans e2) ?_ d2⟩
      rw [fput_put] at s2
      exact s2
  · unfold L1 at hm
    cases hq : mf (w1 :: ds) with
    | no => exact absurd hq hno
    | ok _ => rw [hq] at hm; cases hm
    | ex y' o' =>
      rw [hq] at hm g1
      cases hm
      refine .inl ⟨o', rfl, fun c dd F' H' e2 s2 x2 => gx.ex y g1 c dd F' H' (e1.trans e2) ?_ x2⟩
      rw [fput_put] at s2
      exact s2.wk (wk o')
  · unfold L1 at z
    cases hq : mf (w1 :: ds) with
    | no => exact hno hq
    | ok _ => rw [hq] at z; cases z
    | ex _ _ => rw [hq] at z; cases z
/-- .. a def that raises nothing -/
theorem af_ref0 {n k : Nat} {mf : List D → R Unit (D × D)} {y : Str} {p2 : Pos} (F : Dfn X.prog X.w K X.mg X.base k x (some fs :: mk0 n) none (L1e mf)) (hl : ∀ o ds, mf (o :: ds) ≠ .no → ds.length = n) (ha : AFA X K E xF xb env i tag fs w es cs) (hltB : Nat.blt i env.length = true) (hr : Room k X.A) (hG : Quiet X.A) (hx : ∀ σ, PassesAt (L2.CX X.prog X.w) X σ (E σ)) (hg : Gl X x)
    (hN : X.N[i]? = some y := by rfl) (hv : Vis X.env.scope y := by first | exact Or.inl rfl | exact Or.inr (Or.inl rfl) | exact Or.inr (Or.inr rfl)) (hd : (y == ("__debug__" : Str)) = false := by decide) (hcd : (y == ("__classdict__" : Str)) = false := by decide)
    (hdb : (x == ("__debug__" : Str)) = false := by decide) (he : starEach (.Name y p2 :: es) X.env = (false, eval (.Name y p2) X.env) :: starEach es X.env := by rfl) (hpl : (backTo pos (starEach es X.env)).any (·.1) = false := by rfl) :
    AF X K E xF xb env i tag fs w (.Call (.Name x p) (.Name y p2 :: es) [] pos) (fun (k : D → D → R β γ) => cs fun ds w1 => R.call1e (mf (w1 :: ds)) xb k) := by
  have hK := ha.1
  subst hK
  obtain ⟨f, fd, ps, h1, h2, h3, h4⟩ := F.ex
  refine ⟨rfl, fun B F H σ Q k G s wk gx hk hG' => ⟨_, pe_callGS h1 hr hG hg h2 h3 h4 .nil hx (pa_cons (pe_var hN hv hd hcd) pa_C he) hdb he hpl, ?_⟩⟩
  have hlt : i < env.length := Nat.blt_eq.mp hltB
  have hq : ∀ {w : D} {F H : Hp}, SR X.K B F H σ (fput env i (.ow tag w fs)) → ∃ q, σ[i]? = some (some (.ref q)) := fun {w F H} s => by
    obtain ⟨ft, hf⟩ := s.own
    obtain ⟨q, g1, _⟩ := hf.ow i tag w fs (fget_self hlt)
    exact ⟨q, g1⟩
  obtain ⟨q, g0⟩ := hq s
  refine ⟨_, g0, ha.2 B F H σ _ _ G s wk gx (fun ds w1 vs F1 H1 g1 e1 s1 d1 => ?_) hG'⟩
  show spM X.K (some fs :: mk0 n) none (L1e mf) ((.ref q :: vs) ++ []) H1 Q (E σ)
  rw [List.append_nil]
  have hno : mf (w1 :: ds) ≠ .no := fun z => by rw [z] at g1; exact gx.no g1
  refine sp_ref s1 (fget_self hlt) g0 d1 (hl w1 ds hno) (fun d os hm => ?_) (fun y os hm => ?_) (fun z => ?_)
  · unfold L1e at hm
    cases hq : mf (w1 :: ds) with
    | no => exact absurd hq hno
    | ex _ _ => rw [hq] at hm; cases hm
    | ok r =>
      obtain ⟨d', o'⟩ := r
      rw [hq] at hm g1
      cases hm
      refine ⟨o', rfl, fun v F' H' e2 s2 d2 => hk d o' v F' H' g1 (e1.trans e2) ?_ d2⟩
      rw [fput_put] at s2
      exact s2
  · unfold L1e at hm
    cases hq : mf (w1 :: ds) with
    | no => exact absurd hq hno
    | ok _ => rw [hq] at hm; cases hm
    | ex y' u =>
      rw [hq] at hm g1
      cases hm
      refine .inr ⟨rfl, fun c dd F' H' e2 s2 x2 => gx.ex y g1 c dd F' H' (e1.trans e2) ?_ x2⟩
      rw [fput_put] at s2
      exact s2.wk (wk_un_of wk)
  · unfold L1e at z
    cases hq : mf (w1 :: ds) with
    | no => exact hno hq
    | ok _ => rw [hq] at z; cases z
    | ex _ _ => rw [hq] at z; cases z
end
/-! ### walks -/
theorem afi_items {tg : Expr} (h : AF X K E xF xb env i tag fs w e c1) : AFI X K E xF xb env i tag fs w tg e (fun (k : List D → D → R β γ) => c1 fun d w1 => R.items d fun ds => k ds w1) := by
  have hK := h.1
  subst hK
  refine ⟨rfl, fun B F H σ Q k G s wk gx hk hG => ⟨_, pi_by pe_C (itR_list.or (itR_tup.or itR_str)), ?_⟩⟩
  refine h.2 B F H σ _ _ G s wk gx (fun d w1 v F1 H1 h1 e1 s1 d1 => ?_) hG
  cases d <;> first | exact (gx.no h1).elim | skip
  · cases d1
    exact .inr (.inr ⟨_, rfl, hk _ w1 _ F1 H1 h1 e1 s1 (rI_str _)⟩)
  · cases d1 with
    | lst h2 h3 => exact .inl ⟨_, rfl, ⟨_, .inl (s1.ex.rd h2)⟩, hk _ w1 _ F1 H1 h1 e1 s1 (rI_lst h2 h3)⟩
  · cases d1 with
    | tup h2 h3 => exact .inr (.inl ⟨_, rfl, ⟨_, s1.ex.st h2.sq⟩, hk _ w1 _ F1 H1 h1 e1 s1 (rI_tup h2.sq h3)⟩)
theorem afi_rng1 {tg : Expr} (hm : X.mg "range" = none) (hg : Gl X "range") (ha : AF X K E xF xb env i tag fs w a c1) (hs : starEach [a] X.env = [(false, eval a X.env)] := by rfl) : AFI X K E xF xb env i tag fs w tg (.Call (.Name "range" p) [a] [] pos) (fun (k : List D → D → R β γ) => c1 fun d w1 => R.rng1 d fun ds => k ds w1) :=
  ⟨ha.1, fun B F H σ Q k G s wk gx hk hG => ⟨_, pi_range1 hg hm (pa_cons pe_C pa_nil hs) hs, ha.2 B F H σ _ _ G s wk gx (fun d w1 v F1 H1 h1 e1 s1 d1 => by
    cases d <;> first | exact (gx.no h1).elim | skip
    rename_i j
    have h1 : G (if -(2 ^ 62) ≤ j ∧ j < 2 ^ 62 then k (rngD 0 j.toNat) w1 else .no) := h1
    cases d1
    split at h1
    · rename_i hj
      exact ⟨j, rfl, hj.1, hj.2, hk _ w1 _ F1 H1 h1 e1 s1 (rI_rng 0 j.toNat)⟩
    · exact (gx.no h1).elim) hG⟩⟩
/-! ### comprehensions whose items change the slot's thing -/
theorem af_lc {elt tg iter : Expr} {ifs : List Expr} {scope : Scope} {ci : (List D → D → R β γ) → R β γ} {mb : D → D → R Unit (Option D × D)} (own : List (Str × Nat)) (hi : AFI X K E xF xb env i tag fs w tg iter ci)
    (hb : ∀ (bi : BI) (z : D) (d : D), AG (Xb X scope bi) K (own.map (·.2)) (fput env i (.ow tag z fs)) tg d (fun env' m' => AEl (Xb X scope) K (fun z => fput env i (.ow tag z fs)) false env' ifs elt m') (mb d z)) (hc : X.calm = true) (hN : X.N.Nodup) (ok : BlkOk X.N X.env.scope scope own)
    (hu : ∀ z, ∀ j ∈ own.map (·.2), fget (fput env i (.ow tag z fs)) j = .un) (hs : ∀ x, foldedSetIterable iter X.env x = pure x := by intro _; rfl) :
    AF X K E xF xb env i tag fs w (.ListComp elt [⟨tg, iter, ifs, 0⟩] scope pos) (fun (k : D → D → R β γ) => ci fun ds w1 => R.few ds fun ds => R.lst (R.fmapS mb ds w1) k) :=
  ⟨hi.1, fun B F H σ Q k G s wk gx hk hG => ⟨_, pe_lcB hc hN ok hs, hi.2 B F H σ _ _ G s wk gx (fun ds w1 J F1 H1 h1 e1 s1 r1 => by
    unfold R.few at h1
    split at h1
    · rename_i hz
      have h1 : G (R.lst (R.fmapS mb ds w1) k) := h1
      cases hm : R.fmapS mb ds w1 with
      | no => rw [hm] at h1; exact (gx.no h1).elim
      | ex x b => rw [hm] at h1; exact (gx.no h1).elim
      | ok q =>
        obtain ⟨ys, u⟩ := q
        rw [hm] at h1
        exact lc_all (f := fun z => fput env i (.ow tag z fs)) (s0 := w1) hb hu s1 r1 hm (of_decide_eq_true hz) fun v F' H' e2 _ s2 r2 => by
          obtain ⟨F3, e3, d3, s3⟩ := s2.frzN r2
          exact hk _ u v F3 H' h1 (e1.trans (e2.trans e3)) s3 d3
    · exact (gx.no h1).elim) hG⟩⟩
end
section
variable {Xs : BI → Cx} {K : PySem.W.Frag} {env env0 : Fm} {elt t : Expr} {i : Nat} {tag : Option Nat} {fs : List Str} {w : D}
/-- an item that changes the thing; its own names are set in env -/
theorem ael_f1 {c : (D → D → R Unit (Option D × D)) → R Unit (Option D × D)} (h : ∀ bi, AF (Xs bi) K E0x (List.replicate env.length .un) () env i tag fs w elt c) (hlt : ∀ z, Wk (fput env i (.ow tag z fs)) (fput env0 i (.ow tag z fs))) : AEl Xs K (fun z => fput env0 i (.ow tag z fs)) false (fput env i (.ow tag w fs)) [] elt (c fun y w1 => .ok (some y, w1)) :=
  fun B F H σ P0 P1 G s hno hex h0 h1 hG bi => ⟨_, pts_nil, by
    show if true = true then ∀ j, teC (Xs j) elt σ H P1 else P0 H
    rw [if_pos rfl]
    exact fun j => (h j).2 B F H σ P1 _ G s (fun z => wk_un (fput_length _ _ _)) ⟨hno, fun x z => (hex x _ z).elim⟩ (fun d w' v F' H' g e s' d' => h1 d w' v F' H' g e (fun q => nomatch q) (s'.wk (hlt w')) d') hG⟩
end
section
variable {X : Cx} {K : PySem.W.Frag} {E : XE} {β ω : Type} {κ : Kt β ω} {env : Fm} {pos : Pos} {rest : List Stmt} {tag : Option Nat} {fs : List Str} {w : D} {e : Expr} {c : (D → D → R β ω) → R β ω}
/-! ### statements -/
theorem Gs.afj {b a : Type} {t : TB b} {rel : Bs → Hp → Hp → L2.St → b → a → Prop} {c : (a → D → R β ω) → R β ω} {i : Nat} {xb : β} (h : AFJ K E (κ.fx xb) xb env i tag fs w t rel c) (hi : fget env i = .ow tag w fs) (hx : ∀ w, Wk (fput env i (.ow tag w fs)) (κ.fx xb)) {B : Bs} {F H : Hp} {σ : L2.St} {Dn : Ends} {G : R β ω → Prop} (sr : SR K B F H σ env) (gs : Gs K B E κ F Dn G) {k : a → D → R β ω} (hG : G (c k)) {Q : b → Hp → Prop}
    (hk : ∀ d w' v F' H', G (k d w') → Ex F F' → SR K B F' H' σ (fput env i (.ow tag w' fs)) → rel B F' H' σ v d → Q v H') : t σ H Q :=
  h B F H σ Q k G (by rw [fput_same hi (fun z => nomatch z)]; exact sr) hx (gs.gx xb) hk hG
theorem ab_exprF (i : Nat) (hi : fget env i = .ow tag w fs) {m : D → R β ω} (xb : β) (he : AF X K E (κ.fx xb) xb env i tag fs w e c) (hx : ∀ w, Wk (fput env i (.ow tag w fs)) (κ.fx xb)) (hr : ∀ w, AB X K E κ (fput env i (.ow tag w fs)) rest (m w)) (hs : swapsWith e none pos.line X.env = pure false := by rfl) : AB X K E κ env (.Expr e pos :: rest) (c fun _ w1 => m w1) :=
  ⟨he.1, fun B F H σ Dn G sr gs hG => ⟨_, pss_cons (ps_expr pe_C hs) ps_C, Gs.afj he.2 hi hx sr gs hG fun d w1 v F1 H1 h1 e1 s1 d1 => (hr w1).2 B F1 H1 σ Dn G s1 (gs.mono e1) h1⟩⟩
theorem ab_setF (i j : Nat) (hi : fget env i = .ow tag w fs) {x : Str} {p2 : Pos} {m : D → D → R β ω} (xb : β) (he : AF X K E (κ.fx xb) xb env i tag fs w e c) (hx : ∀ w, Wk (fput env i (.ow tag w fs)) (κ.fx xb)) (hr : ∀ d w, AB X K E κ (fput (fput env i (.ow tag w fs)) j (.fz d)) rest (m d w)) (hN : X.N.Nodup) (hl : Loc X.env.scope x) (hj : X.N[j]? = some x := by rfl)
    (hs : swapsWith e (some (.Name x p2)) pos.line X.env = pure false := by rfl) (hf : X.fn x = true ∨ X.env.scope.names.lookup x = some .local := by first | exact .inl rfl | exact .inr rfl | assumption) : AB X K E κ env (.Assign [.Name x p2] e pos :: rest) (c fun d w1 => m d w1) :=
  ⟨he.1, fun B F H σ Dn G sr gs hG => ⟨_, pss_cons (ps_set hN hj hl pe_C hs hf) ps_C, Gs.afj he.2 hi hx sr gs hG fun d w1 v F1 H1 h1 e1 s1 d1 => (hr d w1).2 B F1 H1 _ Dn G (s1.setF d1) (gs.mono e1) h1⟩⟩
theorem ab_asgF (i : Nat) (hi : fget env i = .ow tag w fs) {tg : Expr} {own : List Nat} {m : D → D → R β ω} (xb : β) (he : AF X K E (κ.fx xb) xb env i tag fs w e c) (hx : ∀ w, Wk (fput env i (.ow tag w fs)) (κ.fx xb)) (hg : ∀ d w, AG X K own (fput env i (.ow tag w fs)) tg d (fun env' m' => AB X K E κ env' rest m') (m d w))
    (hs : swapsWithSole [tg] e pos.line X.env = pure false := by rfl) (hw : swappedStores [tg] e X.env = pure none := by rfl) (h1 : (assignEach [tg] X.env).map (·.2) = [assign tg X.env] := by rfl) : AB X K E κ env (.Assign [tg] e pos :: rest) (c fun d w1 => m d w1) :=
  ⟨he.1, fun B F H σ Dn G sr gs hG => ⟨_, pss_cons (ps_asg pe_C pg_C hs hw h1) ps_C, Gs.afj he.2 hi hx sr gs hG fun d w1 v F1 H1 g1 e1 s1 d1 => (hg d w1).2 B F1 H1 σ v _ G s1 d1 gs.no g1 fun env' m' σ' hy s' _ _ hG' => hy.2 B F1 H1 σ' Dn G s' (gs.mono e1) hG'⟩⟩
theorem ab_retF {mE : R β ω} (i : Nat) (hi : fget env i = .ow tag w fs) (xb : β) (s : D → κ.Sr) (he : AF X K E (κ.fx xb) xb env i tag fs w e c) (hx : ∀ w, Wk (fput env i (.ow tag w fs)) (κ.fx xb)) (hw : ∀ w, Wk (fput env i (.ow tag w fs)) (κ.fr (s w))) (eE : (c fun d w1 => κ.kr d (s w1)) = mE) (hn : κ.nw = none := by rfl) : AB X K E κ env [.Return (some e) pos] mE := by
  subst eE
  exact ⟨he.1, fun B F H σ Dn G sr gs hG => ⟨_, pss_one (ps_ret pe_C), Gs.afj he.2 hi hx sr gs hG fun d w1 v F1 H1 h1 e1 s1 d1 => gs.rt d (s w1) h1 v F1 H1 σ e1 (s1.wk (hw w1)) (by unfold rR; rw [hn]; exact d1)⟩⟩
theorem ab_ifF (i : Nat) (hi : fget env i = .ow tag w fs) {q : Expr} {a b : List Stmt} {ct : (Bool → D → R β ω) → R β ω} {S : Type} (f : S → Fm) {ma mb : D → (S → R β ω) → R β ω} {k : S → R β ω} (xb : β) (hc : AFT X K E (κ.fx xb) xb env i tag fs w q ct) (hx : ∀ w, Wk (fput env i (.ow tag w fs)) (κ.fx xb))
    (ha : ∀ w k, AB X K E (κ.join S f k) (fput env i (.ow tag w fs)) a (ma w k)) (hb : ∀ w k, AB X K E (κ.join S f k) (fput env i (.ow tag w fs)) b (mb w k)) (hr : ∀ s, AB X K E κ (f s) rest (k s)) : AB X K E κ env (.If q a b pos :: rest) (R.join k fun k => ct fun x w1 => if x then ma w1 k else mb w1 k) :=
  ⟨hc.1, fun B F H σ Dn G sr gs hG => ⟨_, pss_cons (ps_if pt_C ps_C ps_C) ps_C, Gs.afj hc.2 hi hx sr gs hG fun d w1 v F1 H1 h1 e1 s1 d1 => by
    subst d1
    cases v with
    | true => exact iteT ((ha w1 k).2 B F1 H1 σ _ G s1 ((gs.join hr).mono e1) h1)
    | false => exact iteF ((hb w1 k).2 B F1 H1 σ _ G s1 ((gs.join hr).mono e1) h1)⟩⟩
theorem ab_ifTF (i : Nat) (hi : fget env i = .ow tag w fs) {q : Expr} {a : List Stmt} {ct : (Bool → D → R β ω) → R β ω} {ma mb : D → R β ω} (xb : β) (hc : AFT X K E (κ.fx xb) xb env i tag fs w q ct) (hx : ∀ w, Wk (fput env i (.ow tag w fs)) (κ.fx xb)) (ha : ∀ w, AB X K E κ.stop (fput env i (.ow tag w fs)) a (ma w)) (hb : ∀ w, AB X K E κ (fput env i (.ow tag w fs)) rest (mb w)) : AB X K E κ env (.If q a [] pos :: rest) (ct fun x w1 => if x then ma w1 else mb w1) :=
  ⟨hc.1, fun B F H σ Dn G sr gs hG => ⟨_, pss_cons (ps_if pt_C ps_C pss_nil) ps_C, Gs.afj hc.2 hi hx sr gs hG fun d w1 v F1 H1 h1 e1 s1 d1 => by
    subst d1
    cases v with
    | true => exact iteT ((ha w1).2 B F1 H1 σ _ G s1 (gs.stop.mono e1) h1)
    | false => exact iteF ((hb w1).2 B F1 H1 σ Dn G s1 (gs.mono e1) h1)⟩⟩
end
end DM

/-! A slot's own list changed; a written list times a number. -/
namespace DM
open PySem PySem.Spec PyProof.Rows L2 DL
def repG : D → D → Option D := fun a b => match a, b with
  | .lst ds, .int k => if -(2 ^ 63) ≤ k ∧ k < 2 ^ 63 ∧ ds.length * k.toNat ≤ sizeLine then some (.lst (List.replicate k.toNat ds).flatten) else none
  | _, _ => none
section
variable {X : Cx} {K : PySem.W.Frag} {E : XE} {β γ : Type} {xF : Fm} {xb : β} {env : Fm} {a b e : Expr} {pos : Pos}
theorem rep_core {B : Bs} {F H : Hp} {σ : L2.St} {p : Addr} {o : HO} {x y z : D} {w : V} {Q : VK} (s : SR K B F H σ env) (hp : H p = some o) (hd : Do K F o x) (hy : Dh K F H w y) (hc : repG x y = some z)
    (hk : ∀ v F' H', Ex F F' → Ex H H' → SR K B F' H' σ env → rN K B F' H' σ env v z [] → Q v H') : rRep (.ref p) w H Q := by
  unfold repG at hc
  split at hc
  · split at hc
    · rename_i hz
      cases hc
      cases hd with
      | lst hA =>
        refine ⟨p, _, _, rfl, hy.int, hp, hz.1, hz.2.1, by rw [hA.length]; exact hz.2.2, fun q hq0 => ?_⟩
        obtain ⟨s3, n3⟩ := s.newN hq0 (Do.lst (hA.rep _))
        exact hk _ F _ (Ex.refl F) (Ex.new hq0) s3 n3
    · cases hc
  · cases hc
theorem a_rep {c1 c2 : (D → R β γ) → R β γ} (ha : AN X K E xF xb env [] a c1) (hb : AL X K E xF xb env b c2) : AN X K E xF xb env [] (.BinOp a .Mult b pos) (fun (k : D → R β γ) => c1 fun x => c2 fun y => R.lft (repG x y) k) :=
  ⟨ha.1, fun B F H σ Q k G s w gx hk hG => ⟨_, pe_op op_rep pe_C pe_C, ha.2 B F H σ _ _ G s w gx (fun x v F1 H1 h1 e1 eh1 s1 r1 => hb.2 B F1 H1 σ _ _ G s1 w (gx.mono e1) (fun y u F2 H2 h2 e2 eh2 s2 d2 => by
    cases hc : repG x y with
    | none => rw [hc] at h2; exact (gx.no h2).elim
    | some z =>
      rw [hc] at h2
      obtain ⟨p, S, rfl, o1, _⟩ := r1
      obtain ⟨_, o, g1, g2⟩ := o1.plain
      exact rep_core s2 (eh2 _ _ g1) (g2.mono e2) d2 hc fun v' F' H' e' eh' s' r' => hk z v' F' H' h2 (e1.trans (e2.trans e')) (eh1.trans (eh2.trans eh')) s' r') h1) hG⟩⟩
theorem af_rep {i : Nat} {tag : Option Nat} {fs : List Str} {w : D} {c1 : (D → R β γ) → R β γ} {c2 : (D → D → R β γ) → R β γ} (ha : AN X K E xF xb (fput env i (.ow tag w fs)) [] a c1) (hb : AF X K E xF xb env i tag fs w b c2) :
    AF X K E xF xb env i tag fs w (.BinOp a .Mult b pos) (fun (k : D → D → R β γ) => c1 fun x => c2 fun y w1 => R.lft (repG x y) fun z => k z w1) :=
  ⟨ha.1, fun B F H σ Q k G s wk gx hk hG => ⟨_, pe_op op_rep pe_C pe_C, ha.2 B F H σ _ _ G s (wk w) gx (fun x v F1 H1 h1 e1 eh1 s1 r1 => by
    obtain ⟨ft, hf⟩ := s1.own
    obtain ⟨p, S, rfl, o1, o2, o3⟩ := r1
    obtain ⟨rfl, o, g1, g2⟩ := o1.plain
    · refine hb.2 (B.at F1 H1 (fput env i (.ow tag w fs)) ft) F1 H1 σ _ _ G (s1.rebase hf) wk ⟨gx.no, fun y hy c dd F' H' e' s' x' => gx.ex y hy c dd F' H' (e1.trans e') (s1.unbase hf (fun _ _ z => z) s') x'⟩ (fun y w1 u F2 H2 h2 e2 s2 d2 => ?_) h1
      cases hc : repG x y with
      | none => rw [hc] at h2; exact (gx.no h2).elim
      | some z =>
        rw [hc] at h2
        obtain ⟨k1, _, _⟩ := s2.off (p := p) g1 (o2 p List.mem_cons_self).1 (o3 ft hf p List.mem_cons_self)
        exact rep_core (s1.unbase hf (fun _ _ z => z) s2) k1 (g2.mono e2) (.inl d2) hc fun v' F' H' e' _ s' r' => by
          obtain ⟨F5, e5, d5, s5⟩ := s'.frzN r'
          exact hk z w1 v' F5 H' h2 (e1.trans (e2.trans (e'.trans e5))) s5 d5) hG⟩⟩
end
section
variable {X : Cx} {K : PySem.W.Frag} {E : XE} {β ω : Type} {κ : Kt β ω} {env : Fm} {pos : Pos} {rest : List Stmt} {tag : Option Nat} {e : Expr}
def R.push (ds : List D) (y : D) (k : D → R β ω) : R β ω := if ds.length < sizeLine then k (.lst (ds ++ [y])) else .no
def R.ext (ds ys : List D) (k : D → R β ω) : R β ω := if ds.length + ys.length ≤ sizeLine then k (.lst (ds ++ ys)) else .no
def R.setAt (ds : List D) (i y : D) (k : D → R β ω) : R β ω := match i with
  | .int i => match ixN ds.length i with
    | some j => k (.lst (ds.set j y))
    | none => .no
  | _ => .no
/-- one cell of a slot changes -/
theorem SR.cell {B : Bs} {F H : Hp} {σ : L2.St} {i : Nat} {d d' : D} {o' : HO} (s : SR K B F H σ env) (hi : fget env i = .ow tag d []) (hd : Do K F o' d') : ∃ p o, σ[i]? = some (some (.ref p)) ∧ H p = some o ∧ Do K F o d ∧ SR K B F (upd H p o') σ (fput env i (.ow tag d' [])) := by
  obtain ⟨p, S, h1, h2, h3, h4⟩ := s.chg hi
  obtain ⟨rfl, o, g1, g2⟩ := h2.plain
  refine ⟨p, o, h1, g1, g2, h4 F (upd H p o') d' [] [p] (Ex.refl F) (fun _ _ h => .inl h) (fun a o h => ?_) (fun a o hn h => ?_) (.ce upd_same hd) fun a ha => ⟨.inl ha, h3 a ha⟩⟩
  · rw [upd_ne fun z => by rw [z, h3 p List.mem_cons_self] at h; cases h]; exact s.ex a o h
  · rw [upd_ne fun z => hn (by rw [z]; exact List.mem_cons_self)]; exact h
theorem SR.cell0 {B : Bs} {F H : Hp} {σ : L2.St} {i : Nat} {d : D} (s : SR K B F H σ env) (hi : fget env i = .ow tag d []) : ∃ p o, σ[i]? = some (some (.ref p)) ∧ H p = some o ∧ Do K F o d := by
  obtain ⟨ft, hf⟩ := s.own
  obtain ⟨p, h1, h2, _⟩ := hf.ow i tag d [] hi
  obtain ⟨_, o, h3, h4⟩ := h2.plain
  exact ⟨p, o, h1, h3, h4⟩
/-- x.append(e) -/
theorem ab_app (i : Nat) {x : Str} {d : D} (hi : fget env i = .ow tag d []) {c : (D → R β ω) → R β ω} {m : D → R β ω} {p1 p2 p3 : Pos} (xb : β) (he : AE X K E (κ.fx xb) xb env e c) (hx : Wk env (κ.fx xb)) (hr : ∀ d, AB X K E κ (fput env i (.ow tag d [])) rest (m d))
    (hN : X.N[i]? = some x := by rfl) (hv : Vis X.env.scope x := by first | exact Or.inl rfl | exact Or.inr (Or.inl rfl) | exact Or.inr (Or.inr rfl)) (hd : (x == ("__debug__" : Str)) = false := by decide) (hcd : (x == ("__classdict__" : Str)) = false := by decide)
    (hst : starEach [e] X.env = [(false, eval e X.env)] := by rfl)
    (hbase : attributeBase (.Name x p1) "append" X.env (eval (.Name x p1) X.env) = eval (.Name x p1) X.env := by rfl)
    (hfew : ((backTo p3 (starEach [e] X.env)).all (fun x => !x.1) && (backToKw p3 (keywordEach [] X.env)).all (fun x => x.1.isSome)
      && decide (([e] : List Expr).length + ([] : List Keyword).length + (if ([] : List Keyword).isEmpty then 0 else 1) < 30)) = true := by rfl)
    (hline : (p2.endLine == p3.line) = true := by rfl)
    (hs : swapsWith (.Call (.Attribute (.Name x p1) "append" p2) [e] [] p3) none pos.line X.env = pure false := by rfl) :
    AB X K E κ env (.Expr (.Call (.Attribute (.Name x p1) "append" p2) [e] [] p3) pos :: rest) (R.asL d fun ds => c fun y => R.push ds y m) := by
  have hK := he.1
  subst hK
  refine ⟨rfl, fun B F H σ Dn G sr gs hG => ⟨_, pss_cons (ps_expr (pe_bm PySem.F.plainAttrs_list PySem.F.slot_list_append PySem.F.type_list_append mt_append (pe_var hN hv hd hcd) (pa_cons pe_C pa_nil hst) hbase hfew hline hst rfl) hs) ps_C, ?_⟩⟩
  cases d <;> first | exact (gs.no hG).elim | skip
  rename_i ds
  obtain ⟨p, o, h1, h2, h3⟩ := sr.cell0 hi
  cases h3
  refine ⟨.ref p, h1, Or.inl ⟨rfl, _, SqL.of h2⟩, he.2 B F H σ _ _ G sr hx (gs.gx xb) (fun y v F1 H1 g1 e1 eh1 s1 d1 => ?_) hG⟩
  unfold R.push at g1
  split at g1
  · rename_i hz
    obtain ⟨p', o', k1, k2, k3⟩ := s1.cell0 hi
    rw [h1] at k1
    cases k1
    cases k3 with
    | lst hA =>
      obtain ⟨p4, o4, k4, k5, k6, k7⟩ := s1.cell (d' := .lst (ds ++ [y])) hi (.lst (hA.append (.one d1)))
      rw [h1] at k4
      cases k4
      exact ⟨p, _, v, rfl, rfl, k2, by rw [hA.length]; exact hz, (hr _).2 B F1 _ σ Dn G k7 (gs.mono e1) g1⟩
  · exact (gs.no g1).elim
/-- x[k] = e -/
theorem ab_setIx (i : Nat) {x : Str} {d : D} (hi : fget env i = .ow tag d []) {k e : Expr} {c ck : (D → R β ω) → R β ω} {m : D → R β ω} {p1 p2 : Pos} (xb : β) (hk : AL X K E (κ.fx xb) xb env k ck) (he : AE X K E (κ.fx xb) xb env e c) (hx : Wk env (κ.fx xb)) (hr : ∀ d, AB X K E κ (fput env i (.ow tag d [])) rest (m d))
    (hN : X.N[i]? = some x := by rfl) (hv : Vis X.env.scope x := by first | exact Or.inl rfl | exact Or.inr (Or.inl rfl) | exact Or.inr (Or.inr rfl)) (hd : (x == ("__debug__" : Str)) = false := by decide) (hcd : (x == ("__classdict__" : Str)) = false := by decide)
    (hs : swapsWithSole [.Subscript (.Name x p1) k p2] e pos.line X.env = pure false := by rfl) (hw : swappedStores [.Subscript (.Name x p1) k p2] e X.env = pure none := by rfl)
    (h1 : (assignEach [.Subscript (.Name x p1) k p2] X.env).map (·.2) = [assign (.Subscript (.Name x p1) k p2) X.env] := by rfl)
    (ha : ∀ v, assign (.Subscript (.Name x p1) k p2) X.env v = (do
      let ov ← holding [v] (eval (.Name x p1) X.env)
      let iv ← holding [v, ov] (eval k X.env)
      standAt p2
      holding [v, ov, iv] (setItem ov iv v)
      release [v, ov, iv] []) := by intro _; rfl) :
    AB X K E κ env (.Assign [.Subscript (.Name x p1) k p2] e pos :: rest) (R.asL d fun ds => c fun y => ck fun j => R.setAt ds j y m) := by
  refine ⟨he.1, fun B F H σ Dn G sr gs hG => ⟨_, pss_cons (ps_asg pe_C (pg_sub (pe_var hN hv hd hcd) pe_C set_list ha) hs hw h1) ps_C, ?_⟩⟩
  cases d <;> first | exact (gs.no hG).elim | skip
  rename_i ds
  refine he.2 B F H σ _ _ G sr hx (gs.gx xb) (fun y v F1 H1 g1 e1 eh1 s1 d1 => ?_) hG
  obtain ⟨p, o, q1, q2, q3⟩ := s1.cell0 hi
  refine ⟨.ref p, q1, hk.2 B F1 H1 σ _ _ G s1 hx ((gs.mono e1).gx xb) (fun j u F2 H2 g2 e2 eh2 s2 d2 => ?_) g1⟩
  unfold R.setAt at g2
  split at g2
  · rename_i kk
    split at g2
    · rename_i jj hj
      obtain ⟨p', o', k1, k2, k3⟩ := s2.cell0 hi
      rw [q1] at k1
      cases k1
      cases k3 with
      | lst hA =>
        obtain ⟨p4, o4, k4, k5, k6, k7⟩ := s2.cell (d' := .lst (ds.set jj y)) hi (.lst (hA.set jj (d1.mono e2)))
        rw [q1] at k4
        cases k4
        exact ⟨p, _, kk, jj, rfl, d2.int, k2, by rw [hA.length]; exact hj, (hr _).2 B F2 _ σ Dn G k7 (gs.mono (e1.trans e2)) g2⟩
    · exact (gs.no g2).elim
  · exact (gs.no g2).elim
/-- x op= e, whole numbers -/
theorem ab_augI (i : Nat) {x : Str} {e : Expr} {d : D} (hi : fget env i = .fz d) {op : Operator} {f : Int → Int → Int} {p2 : Pos} {c : (D → R β ω) → R β ω} {m : D → R β ω} (xb : β) (he : AL X K E (κ.fx xb) xb env e c) (ho : PIp X op (ipI f)) (hx : Wk env (κ.fx xb)) (hr : ∀ d, AB X K E κ (fput env i (.fz d)) rest (m d)) (hN : X.N.Nodup) (hl : Loc X.env.scope x) (hj : X.N[i]? = some x := by rfl)
    (hf : X.fn x = true ∨ X.env.scope.names.lookup x = some .local := by first | exact .inl rfl | exact .inr rfl | assumption) : AB X K E κ env (.AugAssign (.Name x p2) op e pos :: rest) (c fun y => R.lft (intG (fun _ _ => true) (fun a b => .int (f a b)) d y) m) :=
  ⟨he.1, fun B F H σ Dn G sr gs hG => by
    obtain ⟨v, h1, h2⟩ := sr.fz i d hi
    refine ⟨_, pss_cons (ps_aug hN hj hl pe_C ho hf) ps_C, v, h1, he.2 B F H σ _ _ G sr hx (gs.gx xb) (fun y u F1 H1 g1 e1 eh1 s1 d1 => ?_) hG⟩
    unfold intG at g1
    cases d <;> first | exact (gs.no g1).elim | skip
    cases y <;> first | exact (gs.no g1).elim | skip
    cases h2
    exact ⟨_, _, rfl, d1.int, (hr _).2 B F1 H1 _ Dn G (s1.setF (.int _)) (gs.mono e1) g1⟩⟩
end
end DM

/-! Classes: promises by place, star parameters, fields, methods, making. -/
namespace DM
open PySem PySem.Spec PyProof.Rows L2 DL

/-- a promise over the values handed by place -/
def FnP (P : Program) (w : World) (K : PySem.W.Frag) (mg : Str → Option Value) (base : Heap) (k : Nat) (f : Addr) (sp : Sp) : Prop :=
  ∀ (A : Around) (os : List Env) (s : Shared) (H : Hp) (us : List Value) (vs : List V) (Q : VK) (E : XK), Room k A → Quiet A → Env0 P w K mg base A os s H → Vals vs us → sp vs H Q E →
    codeAny (model P w) A (.call (.ref f) ⟨us, []⟩) (CR (L2.CX P w) os P w H s Q E) s
section
variable {P : Program} {w : World} {K : PySem.W.Frag} {mg : Str → Option Value} {base : Heap} {k j : Nat} {f : Addr} {sp sp' : Sp}
theorem FnP.up (F : FnP P w K mg base j f sp) (h : j ≤ k) : FnP P w K mg base k f sp := fun A os s H us vs Q E r => F A os s H us vs Q E (r.mono h)
theorem FnP.to (F : FnP P w K mg base k f sp) (h : ∀ vs H Q E, sp' vs H Q E → sp vs H Q E) : FnP P w K mg base k f sp' := fun A os s H us vs Q E r q e v z => F A os s H us vs Q E r q e v (h vs H Q E z)
theorem fnP_of {fd : FuncData} {ps : List Str} (F : FnG P w K mg base (L2.CX P w) k f fd ps sp) (hb : Binds K fd ps []) : FnP P w K mg base k f sp := fun A os s H us vs Q E r q e0 v z => by
  have hl : (us ++ []).length = ps.length := by rw [List.append_nil, ← v.length]; exact F.ln _ _ _ _ z
  have hb' := hb s us (e0.mod.kin.keeps fun b o e => (e0.bs b o e).1) hl
  rw [List.append_nil] at hb'
  exact F.go A os s H ⟨us, []⟩ us vs Q E r q e0 hb' v z
def spStar (n : Nat) (sp : Sp) : Sp := fun vs H Q E => ∃ ws rest, vs = ws ++ rest ∧ ws.length = n ∧ rest.length ≤ sizeLine ∧ ∀ p o, H p = none → o.dict = none → sp (ws ++ [V.ref p]) (upd H p (.frz o (.tup rest))) Q E
/-- def f(a, .., *v) -/
theorem fnP_star {x qual : Str} {st : Stmt} {fd : FuncData} {N ps : List Str} {pv : Str} (Fn : Fun K x qual st f fd) (S : FnScope N (ps ++ [pv]) (defScope st))
    (hb : ∀ us rest : List Value, us.length = ps.length → bindArgs fd ⟨us ++ rest, []⟩ = (newTuple rest >>= fun t => pure (ps.zip us ++ [(pv, t)])))
    (hbody : Bod P w K mg base N qual st f k sp) : FnP P w K mg base (k + 1) f (spStar ps.length sp) := by
  obtain ⟨v1, a1, v2, v3, v4, a2, cdv, v5, sl, rfl, lk, hcd⟩ := Fn.ex
  intro A os s H us vs Q E hr hq e0 r hsp
  obtain ⟨ws, rest, rfl, hl, hz, hs⟩ := hsp
  obtain ⟨u1, u2, rfl, r1, r2⟩ := StX.vals_split r
  have hn : H s.heap.objs.size = none := e0.hok.fresh (Nat.le_refl _)
  have hl1 : u1.length = ps.length := r1.length.symm.trans hl
  have hl2 : u2.length ≤ sizeLine := by rw [← r2.length]; exact hz
  refine StX.run_bnd lk hcd S hr e0 (G := fun xs H2 => ∃ p o, H p = none ∧ o.dict = none ∧ xs = ws ++ [V.ref p] ∧ H2 = upd H p (.frz o (.tup rest))) (fun A' Ex Q' h => ?_) (fun s2 H2 xs ⟨p, o, hp, ho, ex, eH⟩ hr' => ?_)
  · rw [hb u1 u2 hl1]
    refine wpAny_bind (wpAny_newTuple (wpAny_pure ?_) hl2)
    have hg : (s.heap.push ({ cls := .type "tuple", data := .seq u2.toArray } : Obj)).get? s.heap.objs.size = some { cls := .type "tuple", data := .seq u2.toArray } := Heap.get?_push_size _ rfl
    have new : ObjOk P w (upd H s.heap.objs.size (.frz { cls := .type "tuple", data := .seq u2.toArray } (.tup rest))) (s.heap.push ({ cls := .type "tuple", data := .seq u2.toArray } : Obj)) s.heap.objs.size (.frz { cls := .type "tuple", data := .seq u2.toArray } (.tup rest)) := And.intro hg (And.intro hz ⟨u2, r2, _, hg, rfl, _, rfl⟩)
    have un := StX.un_laid (fs := frs os) (s := s) (o := ({ cls := .type "tuple", data := .seq u2.toArray } : Obj)) (u := .frz { cls := .type "tuple", data := .seq u2.toArray } (.tup rest)) hn
    have z := h _ _ (ws ++ [V.ref s.heap.objs.size]) (u1 ++ [Value.ref s.heap.objs.size]) (StX.env0_laid e0 new) un rfl (fun e s' => StX.cxUp os s H _ _ E e s' un (fun b o q => Heap.get?_push_of_some _ q) rfl) (r1.append (.cons rfl .nil))
      (by rw [List.length_append, List.length_append, hl]; rfl) ⟨_, _, hn, rfl, rfl, rfl⟩
    rw [List.zip_append hl1.symm] at z
    exact z
  · subst ex eH
    exact hbody cdv A os s2 _ _ Q E hr' (hq.deeper _) (hs p o hp ho)
theorem bind_star3 {B : List Value → Sem (List (Str × Value))} {p1 p2 p3 pv : Str} (h0 : ∀ a b c, B [a, b, c] = (newTuple [] >>= fun t => pure [(p1, a), (p2, b), (p3, c), (pv, t)])) (h1 : ∀ a b c r rs, B (a :: b :: c :: r :: rs) = (newTuple (r :: rs) >>= fun t => pure [(p1, a), (p2, b), (p3, c), (pv, t)])) :
    ∀ us rest : List Value, us.length = [p1, p2, p3].length → B (us ++ rest) = (newTuple rest >>= fun t => pure ([p1, p2, p3].zip us ++ [(pv, t)]))
  | [a, b, c], [], _ => h0 a b c
  | [a, b, c], r :: rs, _ => h1 a b c r rs
end

/-! ### the values over a star parameter are a tuple -/
/-- what a def with a star parameter does, told by what its body does -/
def starM {β α : Type} (n : Nat) (mf : List D → R β α) : List D → R β α := fun ds => if n ≤ ds.length && few (ds.length - n) then mf (ds.take n ++ [.tup (ds.drop n)]) else .no
theorem fget_appL : ∀ (A B : Fm) {i : Nat}, i < A.length → fget (A ++ B) i = fget A i
  | [], _, _, h => absurd h (Nat.not_lt_zero _)
  | _ :: _, _, 0, _ => rfl
  | _ :: A, B, i + 1, h => fget_appL A B (by simpa using h)
theorem fget_appR : ∀ (A B : Fm) (j : Nat), fget (A ++ B) (A.length + j) = fget B j
  | [], B, j => by simp
  | _ :: A, B, j => by
    rw [List.length_cons, Nat.add_right_comm]
    exact fget_appR A B j
section
variable {K : PySem.W.Frag} {B : Bs} {F H F' H' : Hp} {σ σ' : L2.St} {env as A : Fm} {ft : Nat → List Addr} {ws rest vs : List V} {ds2 : List D} {p : Addr}
theorem drA_fz : ∀ {rest : List V} {ds2 : List D}, rest.length = ds2.length → (∀ (i : Nat) (d : D), ds2[i]? = some d → ∃ v, rest[i]? = some v ∧ Dr K F v d) → DrA K F rest ds2
  | [], [], _, _ => .nil
  | v :: rest, d :: ds2, hl, h => by
    obtain ⟨v', h1, h2⟩ := h 0 d rfl
    cases h1
    exact .cons h2 (drA_fz (by simpa using hl) fun i d h3 => h (i + 1) d h3)
  | [], _ :: _, hl, _ => by cases hl
  | _ :: _, [], hl, _ => by cases hl
theorem fz_at : ∀ {ds : List D} {i : Nat} {d : D}, ds[i]? = some d → fget (ds.map Sl.fz) i = .fz d
  | _ :: _, 0, _, h => by cases h; rfl
  | _ :: ds, i + 1, _, h => fz_at (ds := ds) (i := i) (by simpa using h)
theorem SR.par {par par' : Nat → Option Addr} {F0 H0 : Hp} {ps : Addr → Prop} (s : SR K ⟨F0, H0, ps, par⟩ F H σ env) (h : ∀ i k d fs, fget env i = .ow (some k) d fs → ∀ q, par k = some q → par' k = some q) : SR K ⟨F0, H0, ps, par'⟩ F H σ env where
  ex := s.ex
  ex0 := s.ex0
  keep := s.keep
  newF := s.newF
  len := s.len
  fz := s.fz
  xc := s.xc
  own := by
    obtain ⟨ft, hf⟩ := s.own
    refine ⟨ft, fun i t d fs e => ?_, hf.dis⟩
    obtain ⟨p, h1, h2, h3, h4⟩ := hf.ow i t d fs e
    exact ⟨p, h1, h2, h3, fun k hk => h i k d fs (by rw [← hk]; exact e) p (h4 k hk)⟩
/-- the frame's end changed, of which only what stands still is told -/
theorem SR.tail {us us' : List (Option V)} {C C' : Fm} (s : SR K B F H (us ++ σ) (A ++ C)) (hl : us.length = A.length) (hC : ∀ i x, fget C' i = x → x = .un ∨ ∃ d v, x = .fz d ∧ us'[i]? = some (some v) ∧ Dr K F v d) (hC0 : ∀ i x, fget C i = x → x = .un ∨ ∃ d, x = .fz d) (hl' : us'.length = C'.length) : SR K B F H (us ++ us') (A ++ C') := by
  have sp : ∀ {i : Nat} {x : Sl}, fget (A ++ C') i = x → x ≠ .un → (i < A.length ∧ fget (A ++ C) i = x) ∨ ∃ d v, x = .fz d ∧ (us ++ us')[i]? = some (some v) ∧ Dr K F v d := fun {i x} e hx => by
    rcases Nat.lt_or_ge i A.length with q | q
    · exact .inl ⟨q, by rw [fget_appL _ _ q]; rw [fget_appL _ _ q] at e; exact e⟩
    · obtain ⟨j, rfl⟩ := Nat.exists_eq_add_of_le q
      rw [fget_appR] at e
      rcases hC j x e with z | ⟨d, v, z, h1, h2⟩
      · exact absurd z hx
      · exact .inr ⟨d, v, z, by rw [← hl, List.getElem?_append_right (Nat.le_add_right _ _), Nat.add_sub_cancel_left]; exact h1, h2⟩
  have σl : ∀ {i : Nat}, i < A.length → (us ++ us')[i]? = (us ++ σ)[i]? := fun {i} q => by rw [List.getElem?_append_left (by rw [hl]; exact q), List.getElem?_append_left (by rw [hl]; exact q)]
  refine ⟨s.ex, s.ex0, s.keep, s.newF, by rw [List.length_append, List.length_append, hl, hl'], fun i d e => ?_, fun i a d gs e => ?_, ?_⟩
  · rcases sp e (fun z => nomatch z) with ⟨q, e2⟩ | ⟨d', v, z, h1, h2⟩
    · obtain ⟨v, h1, h2⟩ := s.fz i d e2
      exact ⟨v, by rw [σl q]; exact h1, h2⟩
    · cases z; exact ⟨v, h1, h2⟩
  · rcases sp e (fun z => nomatch z) with ⟨q, e2⟩ | ⟨d', v, z, h1, h2⟩
    · obtain ⟨h1, h2⟩ := s.xc i a d gs e2
      exact ⟨by rw [σl q]; exact h1, h2⟩
    · cases z
  · obtain ⟨ft, hf⟩ := s.own
    refine ⟨ft, fun i t d fs e => ?_, fun i j t u d e fs gs hij e1 e2 => ?_⟩
    · rcases sp e (fun z => nomatch z) with ⟨q, e2⟩ | ⟨d', v, z, h1, h2⟩
      · obtain ⟨p, h1, h2⟩ := hf.ow i t d fs e2
        exact ⟨p, by rw [σl q]; exact h1, h2⟩
      · cases z
    · rcases sp e1 (fun z => nomatch z) with ⟨q, e3⟩ | ⟨d', v, z, h1, h2⟩
      · rcases sp e2 (fun z => nomatch z) with ⟨q', e4⟩ | ⟨d', v, z, h1, h2⟩
        · exact hf.dis i j t u d e fs gs hij e3 e4
        · cases z
      · cases z
theorem rep_un : ∀ (n i : Nat) (x : Sl), fget (List.replicate n Sl.un) i = x → x = .un ∨ ∃ d, x = .fz d := fun n i x h => .inl (h.symm.trans (fget_rep n i))
theorem fz_only {ds : List D} (i : Nat) (x : Sl) (h : fget (ds.map Sl.fz) i = x) : x = .un ∨ ∃ d, x = .fz d := by
  by_cases q : x = .un
  · exact .inl q
  · obtain ⟨d, _, h2⟩ := fz_get h q
    exact .inr ⟨d, h2⟩
theorem outs_rep : ∀ (n j : Nat), mkOuts [] (mk0 n) j = List.replicate n .un
  | 0, _ => rfl
  | n + 1, j => by show Sl.un :: mkOuts [] (mk0 n) (j + 1) = _; rw [outs_rep n]; rfl
theorem outsx_rep : ∀ (os : List D) (n j : Nat), mkOuts os (mk0 n) j = List.replicate n .un
  | _, 0, _ => by unfold mk0 mkOuts; rfl
  | os, n + 1, j => by
    show mkOuts os (none :: mk0 n) j = _
    have : mkOuts os (none :: mk0 n) j = .un :: mkOuts os (mk0 n) (j + 1) := by cases os <;> rfl
    rw [this, outsx_rep os n]; rfl
theorem map_split {vs : List V} {n : Nat} : vs.map some = (vs.take n).map some ++ (vs.drop n).map some := by rw [← List.map_append, List.take_append_drop]
/-- the heart: a star parameter's tuple is laid; M: the parameters ahead -/
theorem star_core {M : Mask} {mL : List D → R (List D) (D × List D)} {n m : Nat} {Q : VK} {E : XK} (hM : M = [] ∨ ∃ fs, M = [some fs]) (h : spM K (M ++ mk0 m) none (starM (M.length + n) mL) vs H Q E) : spStar (M.length + n) (spM K (M ++ mk0 (n + 1)) none mL) vs H Q E := by
  obtain ⟨hl, F, ds, ps, hdl, sr, hq⟩ := h
  unfold starM at hq
  split at hq
  case isFalse => exact hq.elim
  rename_i hc
  rw [Bool.and_eq_true] at hc
  obtain ⟨hc1, hc2⟩ := hc
  have hc1 : M.length + n ≤ ds.length := of_decide_eq_true hc1
  have hc2 : ds.length - (M.length + n) ≤ sizeLine := of_decide_eq_true hc2
  have hdl' : ds.length = M.length + m := by rw [hdl, List.length_append, List.length_replicate]
  have hvl : vs.length = ds.length := by rw [hl, hdl]
  refine ⟨vs.take (M.length + n), vs.drop (M.length + n), (List.take_append_drop _ _).symm, by rw [List.length_take, hvl]; omega, by rw [List.length_drop, hvl]; exact hc2, fun p o hp ho => ?_⟩
  -- the arguments' frame, split
  have hA : ∀ (es : List D) (r : Nat), es.length = M.length + r → ∃ A0 : Fm, mkArgs es (M ++ mk0 r) 0 = A0 ++ (es.drop M.length).map .fz ∧ A0.length = M.length ∧ (A0 = mkArgs (es.take M.length) M 0) := by
    intro es r hr
    rcases hM with rfl | ⟨fs, rfl⟩
    · refine ⟨[], ?_, rfl, ?_⟩
      · show mkArgs es (mk0 r) 0 = _
        rw [mk0_fz (by simpa using hr)]; rfl
      · rfl
    · cases es with
      | nil => simp at hr; omega
      | cons o es =>
        refine ⟨[.ow (some 0) o fs], ?_, rfl, rfl⟩
        show .ow (some 0) o fs :: mkArgs es (mk0 r) 1 = _
        rw [mk0_fz (by simp at hr; omega)]; rfl
  obtain ⟨A0, a1, a2, a3⟩ := hA ds m hdl'
  rw [a1] at sr
  have hsplit : (ds.drop M.length) = (ds.drop M.length).take n ++ ds.drop (M.length + n) := by
    rw [← List.drop_drop]; exact (List.take_append_drop _ _).symm
  have sr0 : SR K ⟨F, H, ps, parOf vs⟩ F H ((vs.take (M.length + n)).map some ++ (vs.drop (M.length + n)).map some) ((A0 ++ ((ds.drop M.length).take n).map .fz) ++ (ds.drop (M.length + n)).map .fz) := by
    have : (A0 ++ ((ds.drop M.length).take n).map .fz) ++ (ds.drop (M.length + n)).map .fz = A0 ++ (ds.drop M.length).map Sl.fz := by
      rw [List.append_assoc, ← List.map_append, ← hsplit]
    rw [this, ← map_split]
    exact sr
  have lA : ((vs.take (M.length + n)).map some).length = (A0 ++ ((ds.drop M.length).take n).map Sl.fz).length := by
    rw [List.length_map, List.length_take, List.length_append, List.length_map, List.length_take, List.length_drop, a2, hvl]; omega
  have hdr : DrA K F (vs.drop (M.length + n)) (ds.drop (M.length + n)) := drA_fz (by rw [List.length_drop, List.length_drop, hvl]) fun i d hi => by
    obtain ⟨v, h1, h2⟩ := sr0.fz ((A0 ++ ((ds.drop M.length).take n).map Sl.fz).length + i) d (by rw [fget_appR]; exact fz_at hi)
    rw [← lA, List.getElem?_append_right (Nat.le_add_right _ _), Nat.add_sub_cancel_left, List.getElem?_map] at h1
    cases q : (vs.drop (M.length + n))[i]? with
    | none => rw [q] at h1; cases h1
    | some u => rw [q] at h1; cases h1; exact ⟨_, rfl, h2⟩
  have g := sr0.grow (o := .frz o (.tup (vs.drop (M.length + n)))) hp
  have eF : Ex F (upd F p (.frz o (.tup (vs.drop (M.length + n))))) := Ex.new (sr0.ex.none hp)
  have dT : Dr K (upd F p (.frz o (.tup (vs.drop (M.length + n))))) (.ref p) (.tup (ds.drop (M.length + n))) := .tup (Or.inl ⟨o, upd_same, ho⟩) (hdr.mono eF)
  obtain ⟨ft, hf⟩ := g.own
  have tagA : ∀ (C : Fm), (∀ i x, fget C i = x → x = .un ∨ ∃ d, x = .fz d) → ∀ i k d fs, fget ((A0 ++ ((ds.drop M.length).take n).map Sl.fz) ++ C) i = .ow (some k) d fs → k = 0 ∧ M ≠ [] := fun C hC i k d fs e => by
    rcases Nat.lt_or_ge i (A0 ++ ((ds.drop M.length).take n).map Sl.fz).length with q | q
    · rw [fget_appL _ _ q] at e
      rcases Nat.lt_or_ge i A0.length with q2 | q2
      · rw [fget_appL _ _ q2, a3] at e
        rcases hM with rfl | ⟨gs, rfl⟩
        · rw [a2] at q2; exact absurd q2 (Nat.not_lt_zero _)
        · cases hds : ds.take 1 with
          | nil => rw [show ds.take [some gs].length = [] from hds] at e; cases e
          | cons o r =>
            rw [show ds.take [some gs].length = o :: r from hds] at e
            cases i with
            | zero => cases e; exact ⟨rfl, fun z => nomatch z⟩
            | succ i => rw [a2] at q2; simp at q2
      · obtain ⟨j, rfl⟩ := Nat.exists_eq_add_of_le q2
        rw [fget_appR] at e
        rcases fz_only _ _ e with z | ⟨d, z⟩ <;> cases z
    · obtain ⟨j, rfl⟩ := Nat.exists_eq_add_of_le q
      rw [fget_appR] at e
      rcases hC _ _ e with z | ⟨d, z⟩ <;> cases z
  have par0 : ∀ (n0 : Nat), M ≠ [] → parOf (vs.take (M.length + n) ++ [V.ref p]) 0 = parOf vs 0 := fun _ hMn => by
    have hpos : 0 < M.length := by cases M with | nil => exact absurd rfl hMn | cons _ _ => exact Nat.succ_pos _
    unfold parOf
    rw [List.getElem?_append_left (by rw [List.length_take, hvl]; omega), List.getElem?_take_of_lt (by omega)]
  have s1 : SR K ⟨upd F p (.frz o (.tup (vs.drop (M.length + n)))), upd H p (.frz o (.tup (vs.drop (M.length + n)))), owned ((A0 ++ ((ds.drop M.length).take n).map .fz) ++ (ds.drop (M.length + n)).map .fz) ft, parOf (vs.take (M.length + n) ++ [V.ref p])⟩ (upd F p (.frz o (.tup (vs.drop (M.length + n))))) (upd H p (.frz o (.tup (vs.drop (M.length + n))))) ((vs.take (M.length + n)).map some ++ [some (.ref p)]) ((A0 ++ ((ds.drop M.length).take n).map .fz) ++ [.fz (.tup (ds.drop (M.length + n)))]) := by
    have z := ((g.rebase hf).tail (us' := [some (V.ref p)]) (C' := [.fz (.tup (ds.drop (M.length + n)))]) lA (fun i x e => by
      cases i with
      | zero => exact .inr ⟨_, _, e.symm, rfl, dT⟩
      | succ i => exact .inl e.symm) (fun i x e => fz_only i x e) rfl)
    refine SR.par z fun i k d fs e q hq => ?_
    obtain ⟨rfl, hMn⟩ := tagA [.fz (.tup (ds.drop (M.length + n)))] (fun i x e => by cases i with | zero => exact .inr ⟨_, e.symm⟩ | succ i => exact .inl e.symm) i k d fs e
    rw [par0 0 hMn]
    exact hq
  -- what is behind
  have back : ∀ {os : List D} {F' H' : Hp}, SR K ⟨upd F p (.frz o (.tup (vs.drop (M.length + n)))), upd H p (.frz o (.tup (vs.drop (M.length + n)))), owned ((A0 ++ ((ds.drop M.length).take n).map .fz) ++ (ds.drop (M.length + n)).map .fz) ft, parOf (vs.take (M.length + n) ++ [V.ref p])⟩ F' H' ((vs.take (M.length + n) ++ [V.ref p]).map some) (mkOuts os (M ++ mk0 (n + 1)) 0) →
      SR K ⟨F, H, ps, parOf vs⟩ F' H' (vs.map some) (mkOuts os (M ++ mk0 m) 0) := fun {os F' H'} r => by
    have hO : ∀ r0 : Nat, ∃ O0 : Fm, (∀ r1, mkOuts os (M ++ mk0 r1) 0 = O0 ++ List.replicate r1 .un) ∧ O0.length = M.length ∧ ∀ i k d fs, fget O0 i = .ow (some k) d fs → k = 0 ∧ M ≠ [] := fun _ => by
      rcases hM with rfl | ⟨fs, rfl⟩
      · exact ⟨[], fun r1 => outsx_rep os r1 0, rfl, fun i k d fs e => by cases i <;> cases e⟩
      · cases os with
        | nil => exact ⟨[.un], fun r1 => by show Sl.un :: mkOuts [] (mk0 r1) 1 = _; rw [outsx_rep]; rfl, rfl, fun i k d fs e => by cases i with | zero => cases e | succ i => cases i <;> cases e⟩
        | cons o os => exact ⟨[.ow (some 0) o fs], fun r1 => by show Sl.ow (some 0) o fs :: mkOuts os (mk0 r1) 1 = _; rw [outsx_rep]; rfl, rfl, fun i k d fs e => by cases i with | zero => cases e; exact ⟨rfl, fun z => nomatch z⟩ | succ i => cases i <;> cases e⟩
    obtain ⟨O0, o1, o2, o3⟩ := hO 0
    rw [o1] at r ⊢
    have tagO : ∀ (r1 : Nat) i k d fs, fget (O0 ++ List.replicate r1 Sl.un) i = .ow (some k) d fs → k = 0 ∧ M ≠ [] := fun r1 i k d fs e => by
      rcases Nat.lt_or_ge i O0.length with q | q
      · rw [fget_appL _ _ q] at e
        exact o3 i k d fs e
      · obtain ⟨j, rfl⟩ := Nat.exists_eq_add_of_le q
        rw [fget_appR] at e
        rcases rep_un _ _ _ e with z | ⟨d, z⟩ <;> cases z
    have r2 := SR.par (par' := parOf vs) r (fun i k d fs e q hq => by
      obtain ⟨rfl, hMn⟩ := tagO _ i k d fs e
      rw [par0 0 hMn] at hq
      exact hq)
    have r3 := g.unbase hf (fun _ _ h => h) r2
    have hv1 : (vs.take (M.length + n) ++ [V.ref p]).map some = (vs.take M.length).map some ++ (((vs.drop M.length).take n).map some ++ [some (V.ref p)]) := by
      rw [List.map_append, show vs.take (M.length + n) = vs.take M.length ++ (vs.drop M.length).take n from List.take_add, List.map_append, List.append_assoc]; rfl
    rw [hv1] at r3
    have hv2 : vs.map some = (vs.take M.length).map some ++ (vs.drop M.length).map some := map_split
    rw [hv2]
    refine r3.tail (by rw [List.length_map, List.length_take, o2, hvl]; omega) (fun i x e => ?_) (fun i x e => rep_un _ i x e) (by rw [List.length_map, List.length_drop, List.length_replicate, hvl]; omega)
    rcases rep_un _ i x e with z | ⟨d, z⟩
    · exact .inl z
    · rw [fget_rep] at e; subst e; cases z
  have hds : mkArgs (ds.take (M.length + n) ++ [.tup (ds.drop (M.length + n))]) (M ++ mk0 (n + 1)) 0 = (A0 ++ ((ds.drop M.length).take n).map .fz) ++ [.fz (.tup (ds.drop (M.length + n)))] := by
    have hlen : (ds.take (M.length + n) ++ [D.tup (ds.drop (M.length + n))]).length = M.length + (n + 1) := by rw [List.length_append, List.length_take]; simp; omega
    obtain ⟨A1, b1, b2, b3⟩ := hA _ (n + 1) hlen
    rw [b1, b3, a3, List.drop_append, List.length_take, List.drop_take, List.take_append, List.take_take]
    have e1 : min M.length (M.length + n) = M.length := by omega
    have e2 : M.length - min (M.length + n) ds.length = 0 := by omega
    rw [e1, List.length_take, e2]
    simp
  refine ⟨by rw [List.length_append, List.length_take, hvl, List.length_append, List.length_replicate]; simp; omega, _, ds.take (M.length + n) ++ [.tup (ds.drop (M.length + n))], _, by rw [List.length_append, List.length_take, List.length_append, List.length_replicate]; simp; omega, by rw [hds, List.map_append]; exact s1, ?_⟩
  generalize hmm : mL (ds.take (M.length + n) ++ [.tup (ds.drop (M.length + n))]) = mm at hq ⊢
  cases mm with
  | no => exact hq.elim
  | ex x os => exact fun c dd F' H' e1 s2 x2 => hq c dd F' H' (eF.trans e1) (back s2) x2
  | ok q =>
    obtain ⟨d, os⟩ := q
    exact fun v F' H' e1 s2 d2 => hq v F' H' (eF.trans e1) (back s2) d2
end
end DM

/-! Calls of defs and methods by place; fields; properties; making. -/
namespace DM
open PySem PySem.Spec PyProof.Rows L2 DL

/-! ### promises for any number of values -/
abbrev PrP (P : Program) (w : World) (K : PySem.W.Frag) (mg : Str → Option Value) (base : Heap) (k : Nat) (f : Addr) (nw : Option (List Str)) (mf : List D → R Unit D) : Prop := ∀ n, FnP P w K mg base k f (spM K (mk0 n) nw (Lp mf))
abbrev PrR (P : Program) (w : World) (K : PySem.W.Frag) (mg : Str → Option Value) (base : Heap) (k : Nat) (f : Addr) (fs : List Str) (mf : List D → R Unit (D × D)) : Prop := ∀ n, FnP P w K mg base k f (spM K (some fs :: mk0 n) none (L1e mf))
section
variable {P : Program} {w : World} {K : PySem.W.Frag} {mg : Str → Option Value} {base : Heap} {k j n : Nat} {f : Addr} {fd : FuncData} {ps : List Str} {nw : Option (List Str)} {fs : List Str}
theorem prP_plain {mf : List D → R Unit D} (F : FnG P w K mg base (L2.CX P w) k f fd ps (spM K (mk0 n) nw (Lp mf))) (hb : Binds K fd ps []) (hl : ∀ ds, mf ds ≠ .no → ds.length = n) : PrP P w K mg base k f nw mf := fun m =>
  (fnP_of F hb).to fun vs H Q E h => by
    have h0 := h
    obtain ⟨h1, F, ds, q, h2, h3, h4⟩ := h
    have hne : mf ds ≠ .no := fun z => by
      have : Lp mf ds = .no := by unfold Lp; rw [z]
      rw [this] at h4
      exact h4
    have := hl ds hne
    rw [List.length_replicate] at h2
    rw [← this, h2]
    exact h0
theorem prR_plain {mf : List D → R Unit (D × D)} (F : FnG P w K mg base (L2.CX P w) k f fd ps (spM K (some fs :: mk0 n) none (L1e mf))) (hb : Binds K fd ps []) (hl : ∀ ds, mf ds ≠ .no → ds.length = n + 1) : PrR P w K mg base k f fs mf := fun m =>
  (fnP_of F hb).to fun vs H Q E h => by
    have h0 := h
    obtain ⟨h1, F, ds, q, h2, h3, h4⟩ := h
    have hne : mf ds ≠ .no := fun z => by
      have : L1e mf ds = .no := by unfold L1e; rw [z]
      rw [this] at h4
      exact h4
    have := hl ds hne
    rw [List.length_cons, List.length_replicate] at h2
    have : n = m := by omega
    rw [this]
    exact h0
theorem lp_star (mf : List D → R Unit D) : Lp (starM n mf) = starM n (Lp mf) := funext fun ds => by
  unfold Lp starM
  split <;> rename_i h <;> split at h <;> simp_all
theorem l1_star (mf : List D → R Unit (D × D)) : L1e (starM n mf) = starM n (L1e mf) := funext fun ds => by
  unfold L1e starM
  split <;> rename_i h <;> split at h <;> simp_all
theorem prP_star {x qual : Str} {st : Stmt} {N : List Str} {pv : Str} {mf : List D → R Unit D} (Fn : Fun K x qual st f fd) (S : FnScope N (ps ++ [pv]) (defScope st)) (hn : ps.length = n)
    (hb : ∀ us rest : List Value, us.length = ps.length → bindArgs fd ⟨us ++ rest, []⟩ = (newTuple rest >>= fun t => pure (ps.zip us ++ [(pv, t)])))
    (hbody : Bod P w K mg base N qual st f k (spM K (mk0 (n + 1)) none (Lp mf))) : PrP P w K mg base (k + 1) f none (starM n mf) := fun m =>
  (fnP_star Fn S hb hbody).to fun vs H Q E h => by
    rw [lp_star] at h
    have := star_core (M := []) (n := n) (m := m) (Or.inl rfl) (by rw [show ([] : Mask).length + n = n by simp]; exact h)
    rw [show ([] : Mask).length + n = n by simp] at this
    rw [hn]
    exact this
theorem prR_star {x qual : Str} {st : Stmt} {N : List Str} {pv : Str} {mf : List D → R Unit (D × D)} (Fn : Fun K x qual st f fd) (S : FnScope N (ps ++ [pv]) (defScope st)) (hn : ps.length = n + 1)
    (hb : ∀ us rest : List Value, us.length = ps.length → bindArgs fd ⟨us ++ rest, []⟩ = (newTuple rest >>= fun t => pure (ps.zip us ++ [(pv, t)])))
    (hbody : Bod P w K mg base N qual st f k (spM K (some fs :: mk0 (n + 1)) none (L1e mf))) : PrR P w K mg base (k + 1) f fs (starM (n + 1) mf) := fun m =>
  (fnP_star Fn S hb hbody).to fun vs H Q E h => by
    rw [l1_star] at h
    have := star_core (M := [some fs]) (n := n) (m := m) (Or.inr ⟨fs, rfl⟩) (by rw [show ([some fs] : Mask).length + n = n + 1 by simp; omega]; exact h)
    rw [show ([some fs] : Mask).length + n = n + 1 by simp; omega] at this
    rw [hn]
    exact this
end

/-! ### the arguments of a call -/
def CallW (X : Cx) (es : List Expr) (t : TA) : Prop := ∀ (pos : Pos) (fv : Value) (first : List Value) (pins : List (Addr × Obj)) (s : Shared) (σ : L2.St) (H : Hp) (Q : List V → Hp → Prop) (Qf : Value → Shared → Prop), PySem.W.keepIn X.K fv = true → Inv X pins σ H s → t σ H Q →
  (∀ us vs H1 s1, Inv X pins σ H1 s1 → Vals vs us → Q vs H1 → wpAny (model X.prog X.w) X.A (call fv (first ++ us)) Qf X.xe s1) → wpAny (model X.prog X.w) X.A (callWith pos fv first (backTo pos (starEach es X.env)) []) Qf X.xe s
def tcC (X : Cx) (es : List Expr) : TA := fun σ H Q => ∃ t, CallW X es t ∧ t σ H Q
theorem cw_C {X : Cx} {es : List Expr} : CallW X es (tcC X es) := fun pos fv first pins s σ H Q Qf hk I ⟨_, h, ht⟩ hq => h pos fv first pins s σ H Q Qf hk I ht hq
def AC (X : Cx) (K : PySem.W.Frag) (E : XE) {β γ : Type} (xF : Fm) (xb : β) (env : Fm) (es : List Expr) (c : (List D → R β γ) → R β γ) : Prop := X.K = K ∧ AJ K E xF xb env (tcC X es) (fun _ F _ _ vs ds => DrA K F vs ds) c
section
variable {X : Cx} {K : PySem.W.Frag} {E : XE} {β γ : Type} {xF : Fm} {xb : β} {env : Fm} {e : Expr} {es : List Expr} {p pos : Pos} {k n : Nat} {x : Str} {c1 : (D → R β γ) → R β γ} {cs : (List D → R β γ) → R β γ}
theorem ac_nil (hK : X.K = K := by rfl) : AC X K E xF xb env [] (fun (k : List D → R β γ) => k []) :=
  ⟨hK, fun B F H σ Q k G s w gx hk hG => ⟨tNil, fun pos fv first pins s σ H Q Qf hkp I h hq => PySem.W.callWith_K0 I.kIn hkp (hq [] [] H s I .nil h), hk [] [] F H hG (Ex.refl F) (Ex.refl H) s .nil⟩⟩
theorem ac_pos (h : AA X K E xF xb env (e :: es) cs) (he : starEach (e :: es) X.env = (false, eval e X.env) :: starEach es X.env := by rfl) (hpl : ∀ pos, (backTo pos (starEach es X.env)).any (·.1) = false := by intro _; rfl) : AC X K E xF xb env (e :: es) cs :=
  ⟨h.1, fun B F H σ Q k G s w gx hk hG => ⟨taC X (e :: es), fun pos fv first pins s σ H Q Qf hkp I h1 hq => PySem.W.callWith_K (h₀ := X.base) I.ok.mod.kin hkp (thn (pa_C.run pos pins s σ H _ I h1) fun us s1 ⟨vs, H1, I1, r, q⟩ => ⟨I1.kIn, hq us vs H1 s1 I1 r q⟩) he (hpl pos), h.2 B F H σ Q k G s w gx hk hG⟩⟩
theorem ac_s2 (h : AA X K E xF xb env (e :: es) cs) (he : starEach (e :: es) X.env = (false, eval e X.env) :: starEach es X.env := by rfl) (hst : ∀ pos, (backTo pos (starEach es X.env)).any (·.1) = true := by intro _; rfl) : AC X K E xF xb env (e :: es) cs :=
  ⟨h.1, fun B F H σ Q k G s w gx hk hG => ⟨taC X (e :: es), fun pos fv first pins s σ H Q Qf hkp I h1 hq => PySem.W.callWith_S2 (h₀ := X.base) I.ok.mod.kin hkp (thn (pa_C.run pos pins s σ H _ I h1) fun us s1 ⟨vs, H1, I1, r, q⟩ => ⟨I1.kIn, hq us vs H1 s1 I1 r q⟩) he (hst pos), h.2 B F H σ Q k G s w gx hk hG⟩⟩
def tS1 (K : PySem.W.Frag) (te : TE) : TA := fun σ H Q => te σ H fun y H1 => ∃ a xs, y = V.ref a ∧ (SqT K H1 a xs ∨ SqL K H1 a xs) ∧ Q xs H1
theorem ac_s1 (h : AL X K E xF xb env e c1) (hst : starEach [.Starred e p] X.env = [(true, eval e X.env)] := by rfl) : AC X K E xF xb env [.Starred e p] (fun (k : List D → R β γ) => c1 fun d => R.asQ d k) :=
  ⟨h.1, fun B F H σ Q k G s w gx hk hG => ⟨tS1 X.K (teC X e), fun pos fv first pins s σ H Q Qf hkp I h1 hq => PySem.W.callWith_S (h₀ := X.base) I.ok.mod.kin hkp (thn (pe_C.run pins s σ H _ I h1) fun v s1 ⟨y, H1, I1, ry, a, xs, ey, hxs, q⟩ => by
      subst ey
      obtain rfl : v = Value.ref a := ry
      exact StX.star_any I1 hxs fun us s2 I2 rv => ⟨I2.kIn, hq us xs H1 s2 I2 rv q⟩) hst, h.2 B F H σ _ _ G s w gx (fun d v F1 H1 h1 e1 eh1 s1 d1 => by
    have hK := h.1
    subst hK
    cases d <;> first | exact (gx.no h1).elim | skip
    · obtain ⟨q, xs, rfl, h2, h3⟩ := d1.lstR s1.ex
      exact ⟨q, xs, rfl, .inr (.inl h2), hk _ xs F1 H1 h1 e1 eh1 s1 h3⟩
    · obtain ⟨q, xs, rfl, h2, h3⟩ := d1.tup s1.ex
      exact ⟨q, xs, rfl, .inl h2, hk _ xs F1 H1 h1 e1 eh1 s1 h3⟩) hG⟩⟩

/-! ### calls -/
theorem runP {f : Addr} {sp : Sp} {Ek : XK} {pins : List (Addr × Obj)} {σ : L2.St} {H : Hp} {s : Shared} {Q : VK} {us : List Value} {vs : List V} (F : FnP X.prog X.w X.K X.mg X.base k f sp) (hr : Room k X.A) (hG : Quiet X.A) (hx : PassesAt (L2.CX X.prog X.w) X σ Ek) (I : Inv X pins σ H s) (r : Vals vs us)
    (h : sp vs H Q Ek) : wpAny (model X.prog X.w) X.A (call (.ref f) us) (EP X pins σ Q) X.xe s := by
  refine wpAny_call (codeAny_mono (F X.A X.stack s H us vs Q Ek hr hG I.env0 r h) fun z s' hq => ?_)
  match z, hq with
  | .error e, hq => exact hx pins H s e s' I hq
  | .ok (.ret u), hq => exact I.after hq
  | .ok .next, hq | .ok .brk, hq | .ok .cont, hq => exact False.elim hq
/-- a def of the module, called by place -/
structure DfnC (P : Program) (w : World) (K : PySem.W.Frag) (mg : Str → Option Value) (base : Heap) (k : Nat) (x : Str) (nw : Option (List Str)) (mf : List D → R Unit D) : Prop where
  ex : ∃ f : Addr, PrP P w K mg base k f nw mf ∧ mg x = some (.ref f) ∧ PySem.W.keepIn K (.ref f) = true
theorem aj_callC {mf : List D → R Unit D} {nw : Option (List Str)} {f : Addr} (F : PrP X.prog X.w K X.mg X.base k f nw mf) (hm : X.mg x = some (.ref f)) (hkp : PySem.W.keepIn K (.ref f) = true) (ha : AC X K E xF xb env es cs) (hr : Room k X.A) (hG : Quiet X.A) (hx : ∀ σ, PassesAt (L2.CX X.prog X.w) X σ (E σ)) (hg : Gl X x)
    (hdb : (x == ("__debug__" : Str)) = false) : AJ K E xF xb env (teC X (.Call (.Name x p) es [] pos)) (fun B F H σ v d => rR K nw B F H σ env v d) (fun (k : D → R β γ) => cs fun ds => R.call (mf ds) xb k) := by
  have hK := ha.1
  subst hK
  intro B F0 H σ Q k2 G s w gx hk hG'
  refine ⟨fun σ' H' Q' => σ' = σ ∧ tcC X es σ H' fun vs H1 => ∃ n, spM X.K (mk0 n) nw (Lp mf) vs H1 Q' (E σ), ⟨fun pins s' σ' H' Q' I ⟨e1, h⟩ => ?_⟩, rfl, ?_⟩
  · subst e1
    refine wpAny_Call_Name_kw (ld_glob I hg hm ?_ hdb)
    exact cw_C pos (.ref f) [] pins s' _ H' _ _ hkp I h fun us vs H1 s1 I1 r ⟨n, q⟩ => runP (F n) hr hG (hx _) I1 r q
  · exact ha.2 B F0 H σ _ _ G s w gx (fun ds vs F1 H1 h1 e1 eh1 s1 d1 => ⟨ds.length, callP_core s1 w (gx.mono e1) d1 (fun _ => rfl) (fun d v F' H' g e2 eh2 s2 r2 => hk d v F' H' g (e1.trans e2) (eh1.trans eh2) s2 r2) h1⟩) hG'
theorem a_callC {mf : List D → R Unit D} (F : DfnC X.prog X.w K X.mg X.base k x none mf) (ha : AC X K E xF xb env es cs) (hr : Room k X.A) (hG : Quiet X.A) (hx : ∀ σ, PassesAt (L2.CX X.prog X.w) X σ (E σ)) (hg : Gl X x)
    (hdb : (x == ("__debug__" : Str)) = false := by decide) : AE X K E xF xb env (.Call (.Name x p) es [] pos) (fun (k : D → R β γ) => cs fun ds => R.call (mf ds) xb k) := by
  obtain ⟨f, h1, h2, h3⟩ := F.ex
  exact ⟨ha.1, aj_callC h1 h2 h3 ha hr hG hx hg hdb⟩
theorem a_callCW {mf : List D → R Unit D} {fs : List Str} (F : DfnC X.prog X.w K X.mg X.base k x (some fs) mf) (ha : AC X K E xF xb env es cs) (hr : Room k X.A) (hG : Quiet X.A) (hx : ∀ σ, PassesAt (L2.CX X.prog X.w) X σ (E σ)) (hg : Gl X x)
    (hdb : (x == ("__debug__" : Str)) = false := by decide) : AN X K E xF xb env fs (.Call (.Name x p) es [] pos) (fun (k : D → R β γ) => cs fun ds => R.call (mf ds) xb k) := by
  obtain ⟨f, h1, h2, h3⟩ := F.ex
  exact ⟨ha.1, aj_callC h1 h2 h3 ha hr hG hx hg hdb⟩
end
end DM

/-! Methods, static methods, fields, properties, making. -/
namespace DM
open PySem PySem.Spec PyProof.Rows L2 DL

def R.prop {β α γ : Type} (m : R Unit α) (k : α → R β γ) : R β γ := match m with
  | .ok a => k a
  | _ => .no
/-- an attribute of an object of one of the classes cs -/
def R.fld {β γ : Type} (cs : Str → Bool) (f : Str) (d : D) (k : D → R β γ) : R β γ := match d with
  | .obj C gs => if cs C then R.lft (gs.lookup f) k else .no
  | _ => .no
/-- a method of an object: mt: by class -/
def R.meth {β γ : Type} (mt : Str → Option (List D → R Unit D)) (m : Str) (d : D) (k : (List D → R Unit D) → R β γ) : R β γ := match d with
  | .obj C gs => if (gs.lookup m).isNone then R.lft (mt C) k else .no
  | _ => .no
def R.propOf {β γ : Type} (mt : Str → Option (List D → R Unit D)) (d : D) (k : D → R β γ) : R β γ := match d with
  | .obj C gs => R.lft (mt C) fun mf => R.prop (mf [.obj C gs]) k
  | _ => .no
def putD (f : Str) (d : D) : List (Str × D) → List (Str × D)
  | [] => [(f, d)]
  | (g, x) :: r => if g = f then (g, d) :: r else (g, x) :: putD f d r
/-- what of the text a class must have for its fields -/
structure FldC (K : PySem.W.Frag) (C f : Str) : Prop where
  ex : ∀ c, Cl K C c → Cls K c ∧ NoAttr K c f
structure MethC (P : Program) (w : World) (K : PySem.W.Frag) (mg : Str → Option Value) (base : Heap) (k : Nat) (C m : Str) (nw : Option (List Str)) (mf : List D → R Unit D) : Prop where
  ex : ∀ c, Cl K C c → Cls K c ∧ ∃ f, Meth K c m f ∧ PrP P w K mg base k f nw mf
structure PropC (P : Program) (w : World) (K : PySem.W.Frag) (mg : Str → Option Value) (base : Heap) (k : Nat) (C f : Str) (mf : List D → R Unit D) : Prop where
  ex : ∀ c, Cl K C c → Cls K c ∧ ∃ p g, PropOf K c f p g ∧ PrP P w K mg base k g none mf
structure StatC (P : Program) (w : World) (K : PySem.W.Frag) (mg : Str → Option Value) (base : Heap) (k : Nat) (C m : Str) (nw : Option (List Str)) (mf : List D → R Unit D) : Prop where
  ex : ∃ c mc p f rest, mg C = some (.ref c) ∧ ClX.CRead K c mc ∧ PySem.W.findCls K (.ref c) mc m = some (.get (.builtin "staticmethod.__get__") (.ref p) .none (.ref c)) ∧ PySem.W.recIn K p "staticmethod" = some (.ref f :: rest) ∧ PySem.W.keepIn K (.ref f) = true ∧ PrP P w K mg base k f nw mf
/-- making: the class, its __init__ -/
structure MakeC (P : Program) (w : World) (K : PySem.W.Frag) (mg : Str → Option Value) (base : Heap) (k : Nat) (C : Str) (fs : List Str) (mf : List D → R Unit (D × D)) : Prop where
  ex : ∃ c f, mg C = some (.ref c) ∧ Cl K C c ∧ Mk K c f ∧ PrR P w K mg base k f fs mf
section
variable {K : PySem.W.Frag} {F : Hp}
theorem fld_get {f : Str} : ∀ {fs : List (Str × V)} {gs : List (Str × D)} {d : D}, fs.map (·.1) = gs.map (·.1) → DrA K F (fs.map (·.2)) (gs.map (·.2)) → gs.lookup f = some d → ∃ v, fs.lookup f = some v ∧ Dr K F v d
  | [], [], d, _, _, h => by cases h
  | (n, v) :: fs, (n', d') :: gs, d, hn, ha, h => by
    simp only [List.map_cons, List.cons.injEq] at hn
    obtain ⟨rfl, hn⟩ := hn
    cases ha with
    | cons h1 h2 =>
      by_cases q : (f == n) = true
      · simp only [List.lookup, q] at h ⊢
        cases h
        exact ⟨v, rfl, h1⟩
      · simp only [Bool.not_eq_true] at q
        simp only [List.lookup, q] at h ⊢
        exact fld_get hn h2 h
  | [], _ :: _, _, h, _, _ => by cases h
  | _ :: _, [], _, h, _, _ => by cases h
theorem fld_none {f : Str} : ∀ {fs : List (Str × V)} {gs : List (Str × D)}, fs.map (·.1) = gs.map (·.1) → (gs.lookup f).isNone = true → fs.lookup f = none
  | [], [], _, _ => rfl
  | (n, v) :: fs, (n', d') :: gs, hn, h => by
    simp only [List.map_cons, List.cons.injEq] at hn
    obtain ⟨rfl, hn⟩ := hn
    by_cases q : (f == n) = true
    · simp only [List.lookup, q] at h; cases h
    · simp only [Bool.not_eq_true] at q
      simp only [List.lookup, q] at h ⊢
      exact fld_none hn h
  | [], _ :: _, h, _ => by cases h
  | _ :: _, [], h, _ => by cases h
theorem fld_put {f : Str} {v : V} {d : D} (hv : Dr K F v d) : ∀ {fs : List (Str × V)} {gs : List (Str × D)}, fs.map (·.1) = gs.map (·.1) → DrA K F (fs.map (·.2)) (gs.map (·.2)) → (putF f v fs).map (·.1) = (putD f d gs).map (·.1) ∧ DrA K F ((putF f v fs).map (·.2)) ((putD f d gs).map (·.2))
  | [], [], _, _ => ⟨rfl, .cons hv .nil⟩
  | (n, u) :: fs, (n', d') :: gs, hn, ha => by
    simp only [List.map_cons, List.cons.injEq] at hn
    obtain ⟨rfl, hn⟩ := hn
    cases ha with
    | cons h1 h2 =>
      show ((if n = f then (n, v) :: fs else (n, u) :: putF f v fs).map (·.1)) = ((if n = f then (n, d) :: gs else (n, d') :: putD f d gs).map (·.1)) ∧ DrA K F ((if n = f then (n, v) :: fs else (n, u) :: putF f v fs).map (·.2)) ((if n = f then (n, d) :: gs else (n, d') :: putD f d gs).map (·.2))
      by_cases q : n = f
      · rw [if_pos q, if_pos q]
        exact ⟨by simp [hn], .cons hv h2⟩
      · rw [if_neg q, if_neg q]
        obtain ⟨k1, k2⟩ := fld_put hv hn h2
        exact ⟨by simp [k1], .cons h1 k2⟩
  | [], _ :: _, h, _ => by cases h
  | _ :: _, [], h, _ => by cases h
end
section
variable {X : Cx} {K : PySem.W.Frag} {E : XE} {β γ : Type} {xF : Fm} {xb : β} {env : Fm} {e o : Expr} {es : List Expr} {p pos apos : Pos} {k n : Nat} {x m f : Str} {c1 : (D → R β γ) → R β γ} {cs : (List D → R β γ) → R β γ}
/-- e.f, a field -/
theorem a_fld {cl : Str → Bool} (hF : ∀ C, cl C = true → FldC K C f) (h : AL X K E xF xb env e c1) (hb : attributeBase e f X.env (eval e X.env) = eval e X.env := by rfl) : AE X K E xF xb env (.Attribute e f pos) (fun (k : D → R β γ) => c1 fun d => R.fld cl f d k) :=
  ⟨h.1, fun B F H σ Q k G s w gx hk hG => ⟨_, pe_fld pe_C hb, h.2 B F H σ _ _ G s w gx (fun d v F1 H1 h1 e1 eh1 s1 d1 => by
    have hK := h.1
    subst hK
    cases d <;> first | exact (gx.no h1).elim | skip
    rename_i C gs
    obtain ⟨a, c, dx, fs, rfl, g1, g2, g3, g4⟩ := d1.obj s1.ex
    have h1 : G (if cl C then R.lft (gs.lookup f) k else .no) := h1
    split at h1
    · rename_i hc
      cases hg : gs.lookup f with
      | none => rw [hg] at h1; exact (gx.no h1).elim
      | some y =>
        rw [hg] at h1
        obtain ⟨v, k1, k2⟩ := fld_get g3 g4 hg
        obtain ⟨k3, k4⟩ := (hF C hc).ex c g2
        exact ⟨a, c, dx, fs, v, rfl, g1, k3, k4, k1, hk y v F1 H1 h1 e1 eh1 s1 k2⟩
    · exact (gx.no h1).elim) hG⟩⟩
theorem runPG {g : Addr} {pins : List (Addr × Obj)} {σ : L2.St} {H : Hp} {s : Shared} {Q : VK} {b : Bool} {E' : Value → Shared → Prop} {a C dx pp : Addr} {fs : List (Str × V)} {sp : Sp} (I : Inv X pins σ H s) (ea : H a = some (.ins C dx fs)) (c : Cls X.K C) (hp : PropOf X.K C f pp g)
    (F : FnP X.prog X.w X.K X.mg X.base k g sp) (hr : Room (k + 1) X.A) (hG : Quiet X.A) (h : sp [.ref a] H Q (fun _ _ _ => False)) : wpAny (model X.prog X.w) X.A (getAttr (.ref a) f b) (EP X pins σ Q) E' s := by
  obtain ⟨mA, O, _, _, _, _⟩ := ins_get I.hok ea
  obtain ⟨od, J, _⟩ := O.look
  obtain ⟨rest, hrec⟩ := hp.rec_
  have I1 := I.tok (s.toks + 1)
  have hc : (PySem.W.clsIn X.K C).isSome = true := by
    obtain ⟨cd, hc, _⟩ := PySem.W.any_some c.hd
    rw [hc]
    rfl
  refine PySem.W.get_bind I.kIn J (PySem.W.plainGet_of (c.get f)).1 (PySem.W.findObj_data hc hp.at_ hp.get hp.tak) (PySem.W.plainGet_of (c.get f)).2 (wpAny_call (PySem.W.prop_get (s := { s with toks := s.toks + 1 }) I.kIn hrec ?_))
  refine codeAny_mono (F X.A.in1 X.stack { s with toks := s.toks + 1 } H [.ref a] [.ref a] Q (fun _ _ _ => False) hr.in1 hG I1.env0.in1 (.cons rfl .nil) h) fun r s' hq => ?_
  match r, hq with
  | .error er, hq =>
    obtain ⟨_, _, _, _, _, _, _, _, _, _, _, _, he⟩ := hq
    exact he.elim
  | .ok (.ret u), hq =>
    obtain ⟨v, H', I3, rv, q3⟩ := I1.after hq
    show wpAny _ _ (handedOut u) _ _ _
    rw [PySem.W.handedOut_of (handed_of rv)]
    exact wpAny_pure ⟨v, H', I3, rv, q3⟩
  | .ok .next, hq | .ok .brk, hq | .ok .cont, hq => exact False.elim hq
/-- e.f, a property -/
theorem a_prop {mt : Str → Option (List D → R Unit D)} (hF : ∀ C mf, mt C = some mf → PropC X.prog X.w K X.mg X.base k C f mf) (h : AE X K E xF xb env e c1) (hr : Room (k + 1) X.A) (hG : Quiet X.A) (hb : attributeBase e f X.env (eval e X.env) = eval e X.env := by rfl) :
    AE X K E xF xb env (.Attribute e f pos) (fun (k : D → R β γ) => c1 fun d => R.propOf mt d k) :=
  ⟨h.1, fun B F H σ Q k2 G s w gx hk hG' => by
    have hK := h.1
    subst hK
    refine ⟨fun σ' H' Q' => teC X e σ' H' fun v H1 => ∃ a c dx fs pp g mf, v = .ref a ∧ H1 a = some (.ins c dx fs) ∧ Cls X.K c ∧ PropOf X.K c f pp g ∧ PrP X.prog X.w X.K X.mg X.base k g none mf ∧ spM X.K (mk0 1) none (Lp mf) [.ref a] H1 Q' (fun _ _ _ => False), ⟨fun pins s' σ' H' Q' I ht => ?_⟩, ?_⟩
    · refine attr_of hb (thn (pe_C.run pins s' σ' H' _ I ht) fun u s1 ⟨v, H1, I1, rx, a, c, dx, fs, pp, g, mf, ex, ea, k1, k2, k3, k4⟩ => ?_)
      subst ex
      obtain rfl : u = Value.ref a := rx
      exact runPG I1 ea k1 k2 (k3 1) hr hG k4
    · refine h.2 B F H σ _ _ G s w gx (fun d v F1 H1 h1 e1 eh1 s1 d1 => ?_) hG'
      cases d <;> first | exact (gx.no h1).elim | skip
      rename_i C gs
      have d0 := d1
      obtain ⟨a, c, dx, fs, rfl, g1, g2, g3, g4⟩ := (Dh.obj s1.ex (.inl d1))
      unfold R.propOf at h1
      cases hm : mt C with
      | none => simp only [hm] at h1; exact (gx.no h1).elim
      | some mf =>
        simp only [hm] at h1
        obtain ⟨k1, pp, g, k3, k4⟩ := (hF C mf hm).ex c g2
        refine ⟨a, c, dx, fs, pp, g, mf, rfl, g1, k1, k3, k4, sp_pure (ds := [.obj C gs]) s1 (.cons d0 .nil) rfl (fun d os hq v F' H' e2 eh2 s2 r2 => ?_) (fun y os hq => ?_) fun z => ?_⟩
        · unfold Lp at hq
          cases hmm : mf [.obj C gs] with
          | ok d' =>
            rw [hmm] at hq; cases hq
            have h1' : G (R.prop (mf [.obj C gs]) k2) := h1
            rw [hmm] at h1'
            exact hk d v F' H' h1' (e1.trans e2) (eh1.trans eh2) s2 r2
          | ex _ _ => rw [hmm] at hq; cases hq
          | no => rw [hmm] at hq; cases hq
        · have h1' : G (R.prop (mf [.obj C gs]) k2) := h1
          unfold Lp at hq
          cases hmm : mf [.obj C gs] with
          | ok d' => rw [hmm] at hq; cases hq
          | no => rw [hmm] at hq; cases hq
          | ex _ _ => rw [hmm] at h1'; exact (gx.no h1').elim
        · have h1' : G (R.prop (mf [.obj C gs]) k2) := h1
          unfold Lp at z
          cases hmm : mf [.obj C gs] with
          | ok d' => rw [hmm] at z; cases z
          | no => rw [hmm] at h1'; exact (gx.no h1').elim
          | ex _ _ => rw [hmm] at z; cases z⟩
/-- o.m(..) -/
theorem aj_meth {pl : Sem Bool} {nw : Option (List Str)} {mt : Str → Option (List D → R Unit D)} (hF : ∀ C mf, mt C = some mf → MethC X.prog X.w K X.mg X.base k C m nw mf) (h : AE X K E xF xb env o c1) (ha : AC X K E xF xb env es cs) (hr : Room k X.A) (hG : Quiet X.A) (hx : ∀ σ, PassesAt (L2.CX X.prog X.w) X σ (E σ))
    (ht : eval (.Call (.Attribute o m apos) es [] pos) X.env = (do
      let ov ← eval o X.env
      standAt apos.atName
      let (f, first) ← holding [ov] (getMethod ov m pl)
      callWith pos f first (backTo pos (starEach es X.env)) (backToKw pos (keywordEach [] X.env)))) :
    AJ K E xF xb env (teC X (.Call (.Attribute o m apos) es [] pos)) (fun B F H σ v d => rR K nw B F H σ env v d) (fun (k : D → R β γ) => c1 fun d => R.meth mt m d fun mf => cs fun ds => R.call (mf (d :: ds)) xb k) := fun B F H σ Q k2 G s w gx hk hG' => by
  have hK := h.1
  subst hK
  refine ⟨fun σ' H' Q' => σ' = σ ∧ teC X o σ H' fun v H1 => ∃ a c dx fs g mf, v = .ref a ∧ H1 a = some (.ins c dx fs) ∧ fs.lookup m = none ∧ Cls X.K c ∧ Meth X.K c m g ∧ PrP X.prog X.w X.K X.mg X.base k g nw mf ∧ tcC X es σ H1 fun vs H2 => ∃ n, spM X.K (mk0 n) nw (Lp mf) (.ref a :: vs) H2 Q' (E σ), ⟨fun pins s' σ' H' Q' I ⟨e1, h1⟩ => ?_⟩, rfl, ?_⟩
  · subst e1
    refine PySem.W.methodCall_KW (pl := pl) (thn (pe_C.run pins s' _ H' _ I h1) fun u s1 ⟨v, H1, I1, rx, a, c, dx, fs, g, mf, ex, ea, l, k1, k2, k3, k4⟩ => ?_) ht
    subst ex
    obtain rfl : u = Value.ref a := rx
    refine getmeth_ok I1 ea k1 k2 l ?_
    exact cw_C pos (.ref g) [.ref a] pins s1 _ H1 _ _ k2.kp I1 k4 fun us vs H2 s2 I2 r ⟨n, q⟩ => runP (us := .ref a :: us) (vs := .ref a :: vs) (k3 n) hr hG (hx _) I2 (.cons rfl r) q
  · refine h.2 B F H σ _ _ G s w gx (fun d v F1 H1 h1 e1 eh1 s1 d1 => ?_) hG'
    cases d <;> first | exact (gx.no h1).elim | skip
    rename_i C gs
    have h1 : G (if (gs.lookup m).isNone then R.lft (mt C) fun mf => cs fun ds => R.call (mf (.obj C gs :: ds)) xb k2 else .no) := h1
    split at h1
    case isFalse => exact (gx.no h1).elim
    rename_i l
    cases hm : mt C with
    | none => rw [hm] at h1; exact (gx.no h1).elim
    | some mf =>
      rw [hm] at h1
      have d0 := d1
      obtain ⟨a, c, dx, fs, rfl, g1, g2, g3, g4⟩ := (Dh.obj s1.ex (.inl d1))
      obtain ⟨k1, g, k3, k4⟩ := (hF C mf hm).ex c g2
      refine ⟨a, c, dx, fs, g, mf, rfl, g1, fld_none g3 l, k1, k3, k4, ha.2 B F1 H1 σ _ _ G s1 w (gx.mono e1) (fun ds vs F2 H2 h2 e2 eh2 s2 d2 => ?_) h1⟩
      exact ⟨ds.length + 1, callP_core (ds := .obj C gs :: ds) s2 w (gx.mono (e1.trans e2)) (.cons (d0.mono e2) d2) (fun _ => rfl) (fun d v F' H' g e3 eh3 s3 r3 => hk d v F' H' g (e1.trans (e2.trans e3)) (eh1.trans (eh2.trans eh3)) s3 r3) h2⟩
theorem a_meth {pl : Sem Bool} {mt : Str → Option (List D → R Unit D)} (hF : ∀ C mf, mt C = some mf → MethC X.prog X.w K X.mg X.base k C m none mf) (h : AE X K E xF xb env o c1) (ha : AC X K E xF xb env es cs) (hr : Room k X.A) (hG : Quiet X.A) (hx : ∀ σ, PassesAt (L2.CX X.prog X.w) X σ (E σ))
    (ht : eval (.Call (.Attribute o m apos) es [] pos) X.env = (do
      let ov ← eval o X.env
      standAt apos.atName
      let (f, first) ← holding [ov] (getMethod ov m pl)
      callWith pos f first (backTo pos (starEach es X.env)) (backToKw pos (keywordEach [] X.env))) := by rfl) :
    AE X K E xF xb env (.Call (.Attribute o m apos) es [] pos) (fun (k : D → R β γ) => c1 fun d => R.meth mt m d fun mf => cs fun ds => R.call (mf (d :: ds)) xb k) := ⟨h.1, aj_meth (nw := none) hF h ha hr hG hx ht⟩
theorem a_methW {pl : Sem Bool} {fs : List Str} {mt : Str → Option (List D → R Unit D)} (hF : ∀ C mf, mt C = some mf → MethC X.prog X.w K X.mg X.base k C m (some fs) mf) (h : AE X K E xF xb env o c1) (ha : AC X K E xF xb env es cs) (hr : Room k X.A) (hG : Quiet X.A) (hx : ∀ σ, PassesAt (L2.CX X.prog X.w) X σ (E σ))
    (ht : eval (.Call (.Attribute o m apos) es [] pos) X.env = (do
      let ov ← eval o X.env
      standAt apos.atName
      let (f, first) ← holding [ov] (getMethod ov m pl)
      callWith pos f first (backTo pos (starEach es X.env)) (backToKw pos (keywordEach [] X.env))) := by rfl) :
    AN X K E xF xb env fs (.Call (.Attribute o m apos) es [] pos) (fun (k : D → R β γ) => c1 fun d => R.meth mt m d fun mf => cs fun ds => R.call (mf (d :: ds)) xb k) := ⟨h.1, aj_meth (nw := some fs) hF h ha hr hG hx ht⟩
/-- C.m(..), a static method -/
theorem aj_stat {pl : Sem Bool} {nw : Option (List Str)} {mf : List D → R Unit D} (hF : StatC X.prog X.w K X.mg X.base k x m nw mf) (ha : AC X K E xF xb env es cs) (hr : Room k X.A) (hG : Quiet X.A) (hx : ∀ σ, PassesAt (L2.CX X.prog X.w) X σ (E σ)) (hg : Gl X x) (hdb : (x == ("__debug__" : Str)) = false)
    (ht : eval (.Call (.Attribute (.Name x p) m apos) es [] pos) X.env = (do
      let ov ← eval (.Name x p) X.env
      standAt apos.atName
      let (f, first) ← holding [ov] (getMethod ov m pl)
      callWith pos f first (backTo pos (starEach es X.env)) (backToKw pos (keywordEach [] X.env)))) :
    AJ K E xF xb env (teC X (.Call (.Attribute (.Name x p) m apos) es [] pos)) (fun B F H σ v d => rR K nw B F H σ env v d) (fun (k : D → R β γ) => cs fun ds => R.call (mf ds) xb k) := fun B F H σ Q k2 G s w gx hk hG' => by
  have hK := ha.1
  subst hK
  obtain ⟨c, mc, pp, f, rest, h1, h2, h3, h4, h5, h6⟩ := hF.ex
  refine ⟨fun σ' H' Q' => σ' = σ ∧ tcC X es σ H' fun vs H2 => ∃ n, spM X.K (mk0 n) nw (Lp mf) vs H2 Q' (E σ), ⟨fun pins s' σ' H' Q' I ⟨e1, ht'⟩ => ?_⟩, rfl, ?_⟩
  · subst e1
    refine PySem.W.methodCall_KW (pl := pl) (ld_glob I hg h1 ?_ hdb) ht
    refine PySem.W.method_cls I.kIn h2.ga (PySem.W.cls_bind I.kIn h2.rd h3 (wpAny_call (PySem.W.sm_get (s := { s' with toks := s'.toks + 1 }) I.kIn h4 (PySem.W.handed_on rfl ?_))))
    exact cw_C pos (.ref f) [] pins _ _ H' _ _ h5 (I.tok _) ht' fun us vs H2 s2 I2 r ⟨n, q⟩ => runP (h6 n) hr hG (hx _) I2 r q
  · exact ha.2 B F H σ _ _ G s w gx (fun ds vs F1 H1 h1 e1 eh1 s1 d1 => ⟨ds.length, callP_core s1 w (gx.mono e1) d1 (fun _ => rfl) (fun d v F' H' g e2 eh2 s2 r2 => hk d v F' H' g (e1.trans e2) (eh1.trans eh2) s2 r2) h1⟩) hG'
theorem a_stat {pl : Sem Bool} {mf : List D → R Unit D} (hF : StatC X.prog X.w K X.mg X.base k x m none mf) (ha : AC X K E xF xb env es cs) (hr : Room k X.A) (hG : Quiet X.A) (hx : ∀ σ, PassesAt (L2.CX X.prog X.w) X σ (E σ)) (hg : Gl X x) (hdb : (x == ("__debug__" : Str)) = false := by decide)
    (ht : eval (.Call (.Attribute (.Name x p) m apos) es [] pos) X.env = (do
      let ov ← eval (.Name x p) X.env
      standAt apos.atName
      let (f, first) ← holding [ov] (getMethod ov m pl)
      callWith pos f first (backTo pos (starEach es X.env)) (backToKw pos (keywordEach [] X.env))) := by rfl) :
    AE X K E xF xb env (.Call (.Attribute (.Name x p) m apos) es [] pos) (fun (k : D → R β γ) => cs fun ds => R.call (mf ds) xb k) := ⟨ha.1, aj_stat (nw := none) hF ha hr hG hx hg hdb ht⟩
theorem a_statW {pl : Sem Bool} {fs : List Str} {mf : List D → R Unit D} (hF : StatC X.prog X.w K X.mg X.base k x m (some fs) mf) (ha : AC X K E xF xb env es cs) (hr : Room k X.A) (hG : Quiet X.A) (hx : ∀ σ, PassesAt (L2.CX X.prog X.w) X σ (E σ)) (hg : Gl X x) (hdb : (x == ("__debug__" : Str)) = false := by decide)
    (ht : eval (.Call (.Attribute (.Name x p) m apos) es [] pos) X.env = (do
      let ov ← eval (.Name x p) X.env
      standAt apos.atName
      let (f, first) ← holding [ov] (getMethod ov m pl)
      callWith pos f first (backTo pos (starEach es X.env)) (backToKw pos (keywordEach [] X.env))) := by rfl) :
    AN X K E xF xb env fs (.Call (.Attribute (.Name x p) m apos) es [] pos) (fun (k : D → R β γ) => cs fun ds => R.call (mf ds) xb k) := ⟨ha.1, aj_stat (nw := some fs) hF ha hr hG hx hg hdb ht⟩

/-! ### making -/
theorem sp_own {B : Bs} {F H : Hp} {σ : L2.St} {vs : List V} {ds : List D} {Q : VK} {Ek : XK} {mf : List D → R Unit (D × D)} {C : Str} {c q dx : Addr} {fs : List Str} (s : SR K B F H σ env) (hq : H q = none) (hdx : H dx = none) (hne : dx ≠ q) (hC : Cl K C c) (hA : DrA K F vs ds) (hn : ds.length = n)
    (hok : ∀ d o', mf (.obj C [] :: ds) = .ok (d, o') → ∀ v F' H', Ex F F' → Ex H H' → SR K B F' H' σ env → Dr K F' v d → rN K B F' H' σ env (.ref q) o' fs → Q v H')
    (hex : ∀ x u, mf (.obj C [] :: ds) = .ex x u → ∀ cl dd F' H', Ex F F' → SR K B F' H' σ env → XR K F' x cl dd → Ek cl dd H') (hno : mf (.obj C [] :: ds) ≠ .no) : spM K (some fs :: mk0 n) none (L1e mf) (.ref q :: vs) (upd (upd H dx (.own q)) q (.ins c dx [])) Q Ek := by
  have hq1 : (upd H dx (HO.own q)) q = none := by rw [upd_ne (Ne.symm hne)]; exact hq
  have s1 := (s.growH (o := .own q) hdx).growH (o := .ins c dx []) hq1
  generalize hH1 : upd (upd H dx (.own q)) q (.ins c dx []) = H1 at s1 ⊢
  have hHq : H1 q = some (.ins c dx []) := by rw [← hH1, upd_same]
  have hFq : F q = none := s.ex.none hq
  have e01 : Ex H H1 := fun a o h => by
    have n1 : a ≠ q := fun z => by rw [z, hq] at h; cases h
    have n2 : a ≠ dx := fun z => by rw [z, hdx] at h; cases h
    rw [← hH1, upd_ne n1, upd_ne n2]
    exact h
  have sa := SR.args (B' := ⟨F, H1, fun a => a = q, parOf (.ref q :: vs)⟩) s1.ex hA rfl rfl
  have hargs : mkArgs (.obj C [] :: ds) (some fs :: mk0 n) 0 = .ow (some 0) (.obj C []) fs :: ds.map .fz := by
    show .ow (some 0) (.obj C []) fs :: mkArgs ds (mk0 n) 1 = _
    rw [mk0_fz hn]
  have s0 : SR K ⟨F, H1, fun a => a = q, parOf (.ref q :: vs)⟩ F H1 ((V.ref q :: vs).map some) (.ow (some 0) (.obj C []) fs :: ds.map .fz) := by
    refine ⟨s1.ex, Ex.refl F, fun _ _ h _ => h, fun a o h => Or.inl fun z => ?_, by simp [hA.length], fun j d h => ?_, fun j a d gs h => ?_, fun j => if j = 0 then [q] else [], fun j t' d f' h => ?_, fun j k t1 t2 d1 d2 f1 f2 hjk g1 g2 a a1 a2 => ?_⟩
    · have z' : F a = none := z
      rw [h] at z'; cases z'
    · cases j with
      | zero => cases h
      | succ j => exact sa.fz j d h
    · cases j with
      | zero => cases h
      | succ j => exact sa.xc j a d gs h
    · cases j with
      | zero =>
        cases h
        refine ⟨q, rfl, ?_, fun a ha => ?_, fun k hk => by cases hk; rfl⟩
        · exact Own.ob hHq hC OwF.nil
        · have ha : a ∈ [q] := ha
          cases ha with
          | head => exact ⟨hFq, Or.inr rfl⟩
          | tail _ h => cases h
      | succ j =>
        obtain ⟨d', _, z⟩ := fz_get (show fget (ds.map Sl.fz) j = _ from h) fun z => nomatch z
        cases z
    · cases j with
      | zero =>
        cases k with
        | zero => exact hjk rfl
        | succ k => simp at a2
      | succ j => simp at a1
  have hSq : ∀ a ∈ [q], F a = none ∧ (B.H0 a = none ∨ B.ps a) := fun a ha => by
    cases ha with
    | head => exact ⟨hFq, s.new_b hq⟩
    | tail _ h => cases h
  have hnq : ∀ ft, Hs K B F H1 σ env ft → ∀ a ∈ [q], ¬ owned env ft a := fun ft hf a ha z => by
    cases ha with
    | tail _ h => cases h
    | head =>
      obtain ⟨ft0, hf0⟩ := s.own
      obtain ⟨i, t, d2, f2, g1, g2⟩ := z
      obtain ⟨q0, q1, q2, _⟩ := hf0.ow i t d2 f2 g1
      obtain ⟨q', r1, r2, _⟩ := hf.ow i t d2 f2 g1
      rw [q1] at r1
      cases r1
      exact foot_eq q2 e01 r2 _ g2 hq
  have back : ∀ {F' H' : Hp} {as : Fm}, SR K ⟨F, H1, fun a => a = q, parOf (.ref q :: vs)⟩ F' H' ((V.ref q :: vs).map some) as → SR K B F' H' σ env := fun {F' H' as} r =>
    s1.afterS (S := [q]) hSq hnq r rfl rfl fun a z => by cases z; exact List.mem_cons_self
  have exH : ∀ {F' H' : Hp} {as : Fm}, SR K ⟨F, H1, fun a => a = q, parOf (.ref q :: vs)⟩ F' H' ((V.ref q :: vs).map some) as → Ex H H' := fun {F' H' as} r a o h => r.keep a o (e01 a o h) fun z => by
    have z : a = q := z
    rw [z, hq] at h; cases h
  refine ⟨by simp [hA.length, hn], F, .obj C [] :: ds, fun a => a = q, by simp [hn], by rw [hargs]; exact s0, ?_⟩
  cases hm : mf (.obj C [] :: ds) with
  | no => exact absurd hm hno
  | ex y u =>
    have : L1e mf (.obj C [] :: ds) = .ex y [] := by unfold L1e; rw [hm]
    rw [this]
    exact fun cl dd F' H' e1 r x1 => hex y u hm cl dd F' H' e1 (back r) x1
  | ok w =>
    obtain ⟨d, o'⟩ := w
    have : L1e mf (.obj C [] :: ds) = .ok (d, [o']) := by unfold L1e; rw [hm]
    rw [this]
    intro v F' H' e1 r d1
    have r' : SR K ⟨F, H1, fun a => a = q, parOf (.ref q :: vs)⟩ F' H' ((V.ref q :: vs).map some) (.ow (some 0) o' fs :: mkOuts [] (mk0 n) 1) := r
    refine hok d o' hm v F' H' e1 (exH r) (back r) d1 ?_
    obtain ⟨ft', hf'⟩ := r'.own
    obtain ⟨p3, g1, g2, g3, g4⟩ := hf'.ow 0 (some 0) o' fs rfl
    have : some (some (V.ref q)) = some (some (V.ref p3)) := g1
    cases this
    have hnew : ∀ a ∈ ft' 0, H a = none := fun a ha => by
      rcases (g3 a ha).2 with z | z
      · exact e01.none z
      · have z : a = q := z
        rw [z]; exact hq
    refine ⟨q, ft' 0, rfl, g2, fun a ha => ⟨(g3 a ha).1, s.new_b (hnew a ha)⟩, fun ft hf a ha z => ?_⟩
    obtain ⟨ft0, hf0⟩ := s.own
    obtain ⟨i, t, d2, f2, k1, k2⟩ := z
    obtain ⟨q0, q1, q2, _⟩ := hf0.ow i t d2 f2 k1
    obtain ⟨q', r1, r2, _⟩ := hf.ow i t d2 f2 k1
    rw [q1] at r1
    cases r1
    exact foot_eq q2 (exH r) r2 a k2 (hnew a ha)
theorem runM {C f : Addr} {sp : Sp} {Ek : XK} {pins : List (Addr × Obj)} {σ : L2.St} {H : Hp} {s : Shared} {Q : VK} {us : List Value} {vs : List V} (M : Mk X.K C f) (F : FnP X.prog X.w X.K X.mg X.base k f sp) (hr : Room (k + 1) X.A) (hG : Quiet X.A) (hx : PassesAt (L2.CX X.prog X.w) X σ Ek) (I : Inv X pins σ H s) (r : Vals vs us)
    (h : ∀ q dx, H q = none → H dx = none → dx ≠ q → sp (V.ref q :: vs) (upd (upd H dx (.own q)) q (.ins C dx [])) (fun v H2 => v = .non ∧ Q (.ref q) H2) Ek) : wpAny (model X.prog X.w) X.A (call (.ref C) us) (EP X pins σ Q) X.xe s := by
  have hq := h (s.heap.objs.size + 1) s.heap.objs.size (I.hok.fresh (Nat.le_succ _)) (I.hok.fresh (Nat.le_refl _)) (Nat.ne_of_lt (Nat.lt_succ_self _))
  have I2 := Inv.made (C := C) I
  refine wpAny_call (make_map (f := f) I.kIn M.makes M.init (beq_iff_eq.mp M.fn) (codeAny_mono (F _ X.stack _ _ (Value.ref (s.heap.objs.size + 1) :: us) (V.ref (s.heap.objs.size + 1) :: vs) _ Ek (hr.make C us []) hG (I2.env0.make C us []) (.cons rfl r) hq) fun r s' hq' => ?_))
  match r, hq' with
  | .error e, hq' => exact hx pins _ _ e s' I2 hq'
  | .ok (.ret u), hq' =>
    obtain ⟨v, H', I3, rv, ev, q3⟩ := I2.after hq'
    subst ev
    exact ⟨rv, ⟨V.ref (s.heap.objs.size + 1), H', I3, rfl, q3⟩⟩
  | .ok .next, hq' | .ok .brk, hq' | .ok .cont, hq' => exact False.elim hq'
/-- C(..): an object is made -/
theorem a_make {fs : List Str} {mf : List D → R Unit (D × D)} (hF : MakeC X.prog X.w K X.mg X.base k x fs mf) (ha : AC X K E xF xb env es cs) (hr : Room (k + 1) X.A) (hG : Quiet X.A) (hx : ∀ σ, PassesAt (L2.CX X.prog X.w) X σ (E σ)) (hg : Gl X x)
    (hdb : (x == ("__debug__" : Str)) = false := by decide) : AN X K E xF xb env fs (.Call (.Name x p) es [] pos) (fun (k : D → R β γ) => cs fun ds => R.make (mf (.obj x [] :: ds)) xb k) :=
  ⟨ha.1, fun B F H σ Q k2 G s w gx hk hG' => by
    have hK := ha.1
    subst hK
    obtain ⟨c, f, h1, h2, h3, h4⟩ := hF.ex
    refine ⟨fun σ' H' Q' => σ' = σ ∧ tcC X es σ H' fun vs H1 => ∃ n, ∀ q dx, H1 q = none → H1 dx = none → dx ≠ q → spM X.K (some fs :: mk0 n) none (L1e mf) (V.ref q :: vs) (upd (upd H1 dx (.own q)) q (.ins c dx [])) (fun v H2 => v = .non ∧ Q' (.ref q) H2) (E σ), ⟨fun pins s' σ' H' Q' I ⟨e1, h⟩ => ?_⟩, rfl, ?_⟩
    · subst e1
      refine wpAny_Call_Name_kw (ld_glob I hg h1 ?_ hdb)
      exact cw_C pos (.ref c) [] pins s' _ H' _ _ h3.kp I h fun us vs H1 s1 I1 r ⟨n, q⟩ => runM h3 (h4 n) hr hG (hx _) I1 r q
    · refine ha.2 B F H σ _ _ G s w gx (fun ds vs F1 H1 g1 e1 eh1 s1 d1 => ⟨ds.length, fun q dx hq hdx hne => ?_⟩) hG'
      refine sp_own s1 hq hdx hne h2 d1 rfl (fun d o' hm v F' H' e2 eh2 s2 d2 r2 => ?_) (fun y u hm cl dd F' H' e2 s2 x2 => ?_) fun z => ?_
      · have g1' : G (R.make (mf (.obj x [] :: ds)) xb k2) := g1
        rw [hm] at g1'
        cases d <;> first | exact (gx.no g1').elim | skip
        cases d2
        exact ⟨rfl, hk o' _ F' H' g1' (e1.trans e2) (eh1.trans eh2) s2 r2⟩
      · have g1' : G (R.make (mf (.obj x [] :: ds)) xb k2) := g1
        rw [hm] at g1'
        exact gx.ex y g1' cl dd F' H' (e1.trans e2) (s2.wk w) x2
      · have g1' : G (R.make (mf (.obj x [] :: ds)) xb k2) := g1
        rw [z] at g1'
        exact gx.no g1'⟩
end
section
variable {X : Cx} {K : PySem.W.Frag} {E : XE} {β ω : Type} {κ : Kt β ω} {env : Fm} {pos : Pos} {rest : List Stmt} {tag : Option Nat} {e : Expr}
def R.putF (cl : Str → Bool) (f : Str) (d y : D) (k : D → R β ω) : R β ω := match d with
  | .obj C gs => if cl C && decide (gs.length < 1000) then k (.obj C (putD f y gs)) else .no
  | _ => .no
/-- x.f = e, x the slot's own object -/
theorem ab_fld (i : Nat) {x f : Str} {d : D} (hi : fget env i = .ow tag d []) {c : (D → R β ω) → R β ω} {m : D → R β ω} {p1 p2 : Pos} (xb : β) {cl : Str → Bool} (hF : ∀ C, cl C = true → FldC K C f) (he : AE X K E (κ.fx xb) xb env e c) (hx : Wk env (κ.fx xb)) (hr : ∀ d, AB X K E κ (fput env i (.ow tag d [])) rest (m d))
    (hN : X.N[i]? = some x := by rfl) (hv : Vis X.env.scope x := by first | exact Or.inl rfl | exact Or.inr (Or.inl rfl) | exact Or.inr (Or.inr rfl)) (hd : (x == ("__debug__" : Str)) = false := by decide) (hcd : (x == ("__classdict__" : Str)) = false := by decide)
    (hs : swapsWith e (some (.Attribute (.Name x p1) f p2)) pos.line X.env = pure false := by rfl) :
    AB X K E κ env (.Assign [.Attribute (.Name x p1) f p2] e pos :: rest) (c fun y => R.putF cl f d y m) := by
  refine ⟨he.1, fun B F H σ Dn G sr gs hG => ⟨_, pss_cons (ps_fld (pe_var hN hv hd hcd) pe_C hs) ps_C, ?_⟩⟩
  have hK := he.1
  subst hK
  refine he.2 B F H σ _ _ G sr hx (gs.gx xb) (fun y v F1 H1 g1 e1 eh1 s1 d1 => ?_) hG
  obtain ⟨p, o, q1, q2, q3⟩ := s1.cell0 hi
  refine ⟨.ref p, q1, ?_⟩
  cases q3 with
  | lst _ => exact (gs.no g1).elim
  | dct _ _ => exact (gs.no g1).elim
  | obj hC hn hA =>
    rename_i c0 dx C fs gs'
    have g1 : G (if cl C && decide (gs'.length < 1000) then m (.obj C (putD f y gs')) else .no) := g1
    split at g1
    case isFalse => exact (gs.no g1).elim
    rename_i hc
    rw [Bool.and_eq_true] at hc
    obtain ⟨k1, k2⟩ := (hF C hc.1).ex c0 hC
    obtain ⟨t1, t2⟩ := fld_put (f := f) d1 hn hA
    obtain ⟨p4, o4, k4, k5, k6, k7⟩ := s1.cell (d' := .obj C (putD f y gs')) (o' := .ins c0 dx (L2.putF f v fs)) hi (.obj hC t1 t2)
    rw [q1] at k4
    cases k4
    have hlen : fs.length = gs'.length := by simpa using congrArg List.length hn
    exact ⟨p, c0, dx, fs, rfl, q2, k1, k2, by rw [hlen]; exact of_decide_eq_true hc.2, (hr _).2 B F1 _ σ Dn G k7 (gs.mono e1) g1⟩
/-- a statement of which nothing is told -/
theorem ab_no {st : List Stmt} (hK : X.K = K := by rfl) : AB X K E κ env st (.no : R β ω) := ⟨hK, fun B F H σ Dn G sr gs hG => (gs.no hG).elim⟩
end
end DM

/-! Own errors: super().__init__(p), self.f = p. -/
namespace DX
open PySem PySem.W PySem.Calls PyProof.Rows PySem.HandSPX
section
variable {prog : Program} {w : World} {A : Around} {E : Value → Shared → Prop} {h : Heap} {g : Array GenState} {d : Drawn} {t : Nat} {os : OsState} {K : Frag} {mg : Str → Option Value} {C D x f cc cda L : Addr}
/-- super() in the __init__ of the class at D, for the object at x of the class at C -/
theorem superAt {body : List Stmt} {qn : Str} {sc : Scope} {p0 p1 : Pos} {whole : Sem Value} {fd : FuncData} {ar : Arg} {vs : Array Value} {file : Str} {tf : Tok} {of oc ox oD : Obj} {cdD : ClassData} {m mb : Str → Option Value} {Q : Value → Shared → Prop}
    (hn : h.Ns L m) (hv : m ar.arg = some (.ref x)) (hf : h.get? f = some of) (hfd : of.data = .func fd) (hp : (fd.params.posonlyargs ++ fd.params.args).head? = some ar) (hcc : h.get? cda = some oc) (hoc : oc.data = .fields vs) (hvs : vs[2]? = some (.str file tf))
    (hfile : ((prog.main.file : Str) == file) = true) (htop : (prog.main.scope.names.lookup ("super" : Str)).isSome = false) (hG : h.Ns mainGlobals mg) (hms : mg "super" = none) (hB : h.Ns builtinsNs mb) (hbs : mb "super" = some (.type "super"))
    (hcell : ∃ o, h.get? cc = some o ∧ o.data = .cell (some (.ref D))) (hD : h.get? D = some oD) (hDd : oD.data = .cls cdD) (hx : h.get? x = some ox) (hxc : ox.cls = .ref C) (hnc : ∀ c, ox.data ≠ .cls c) (hsub : Looks (model prog w) h (isSubtype (.ref C) (.ref D)) true)
    (hk : sc.kind = .function) (k1 : sc.names.lookup ("super" : Str) = some .globalImplicit) (k2 : sc.names.lookup ("__class__" : Str) = some .free) (k3 : sc.names.lookup ar.arg = some .local)
    (hq : ∀ h', h'.get? h.objs.size = some (ks_superObj D x C) → (∀ b o, h.get? b = some o → h'.get? b = some o) → Q (.ref h.objs.size) ⟨h', g, d, t, os⟩) :
    _root_.PySem.wpAt (model prog w) A (.func body (ksEnv qn sc L f (.ref cda) cc)) (attributeBase (.Call (.Name "super" p0) [] [] p1) "__init__" (ksEnv qn sc L f (.ref cda) cc) whole) Q E ⟨h, g, d, t, os⟩ := by
  refine ks_wpAt_super_base (env := ksEnv qn sc L f (.ref cda) cc) k1 k2 (by decide) rfl hf hfd hp rfl hcc hoc hvs hfile htop ?_
  refine ks_loadName_global hk k1 (loadGlobal_builtin (env := ksEnv qn sc L f (.ref cda) cc) hG hms hB hbs ⟨rfl, ?_⟩)
  refine wpAny_loadName_free hk k2 rfl ⟨_, hcell.choose_spec.1, hcell.choose_spec.2⟩ ?_
  refine wpAny_loadName_local hk k3 hn hv ?_
  refine ks_wpAny_isType_cls hD hDd ⟨rfl, ?_⟩
  exact ks_wpAny_call_super hD hDd hx hxc hnc hsub fun h' e k => hq h' e k

/-- the wrapper called: the base's __init__ lays the arguments anew -/
theorem mwCall {B i newId : String} {bmB : List Value} {u t0 : Addr} {nm q : Str} {N : Addr} {bs bm : List Value} {hdct : Bool} {sn : List Str} {sub : List Value} {ab : Bool} {col : Option Bool} {dd : Option Addr} {k0 k1 k2 k3 k5 : Option Value} {rest : List Value} {Q : Value → Shared → Prop} (FB : ExcBaseFacts B newId i bmB)
    (hC : h.get? C = some (excClassObj nm q C N bs bm hdct sn sub ab col dd k0 k1 k2 k3 k5 newId)) (he : h.get? x = some (excO C t0)) (hu : h.get? u = some (kxs_mw i x)) (hz : rest.length ≤ sizeLine)
    (hq : ∀ h' t1, (∀ b o, b ≠ x → h.get? b = some o → h'.get? b = some o) → h'.get? x = some (excO C t1) → Q .none ⟨h', g, d, t, os⟩) :
    wpAny (model prog w) A (call (.ref u) rest) Q E ⟨h, g, d, t, os⟩ := by
  refine wpAny_call (codeAny_of_tree ?_)
  show wpAny _ A.in1 (callAny (.ref u) ⟨rest, []⟩) _ _ _
  simp only [callAny]
  refine wpAny_bind (wpAny_load hu ?_)
  simp only [kxs_mw, show (Value.type "method-wrapper" == Value.type "method" || Value.type "method-wrapper" == Value.type "builtin_function_or_method" || Value.type "method-wrapper" == Value.type "method-wrapper") = true by decide, if_true]
  refine KFB.if_so (by decide) ?_
  refine wpAny_bind (check_bound_init FB.toExcCallFacts hC he rfl (wpAny_bind (wpAny_pure (wpAny_pure ?_))))
  refine ⟨plainId_quiet FB.init.plain _, codeAny_builtin FB.initEntry ?_⟩
  exact exc_init_tree (cls := .ref C) (t0 := t0) (dv := none) (c2 := .none) (c3 := .none) (b4 := .bool false) he hz fun h' k e1 _ => hq h' _ k e1


theorem ne_fresh {hh : Heap} {u : Addr} {o : Obj} (h1 : hh.get? u = some o) : u ≠ hh.objs.size := Nat.ne_of_lt (Heap.lt_size h1)
/-- super().__init__(..) -/
theorem superInit {B i newId : String} {bmB : List Value} {t0 : Addr} {nm q : Str} {N : Addr} {bs bm : List Value} {sn : List Str} {sub : List Value} {ab : Bool} {col : Option Bool} {dd : Option Addr} {k0 k1 k2 k3 k5 : Option Value} {body : List Stmt} {qn : Str} {e : Expr} {es : List Expr} {sc : Scope} {q1 q2 q3 q5 : Pos} {fd : FuncData} {ar : Arg} {vs : Array Value} {file : Str} {tf : Tok} {of oc oD : Obj} {cdD cdC : ClassData} {m mb : Str → Option Value} {us : List Value} {Q : Value → Shared → Prop}
    (FB : ExcBaseFacts B newId i bmB) (KF : KxsFacts B i) (X : K.In h) (hC : K.lookup C = some (excClassObj nm q C N bs bm true sn sub ab col dd k0 k1 k2 k3 k5 newId)) (he : h.get? x = some (excO C t0))
    (hn : h.Ns L m) (hv : m ar.arg = some (.ref x)) (hf : h.get? f = some of) (hfd : of.data = .func fd) (hp : (fd.params.posonlyargs ++ fd.params.args).head? = some ar) (hcc : h.get? cda = some oc) (hoc : oc.data = .fields vs) (hvs : vs[2]? = some (.str file tf))
    (hfile : ((prog.main.file : Str) == file) = true) (htop : (prog.main.scope.names.lookup ("super" : Str)).isSome = false) (hG : h.Ns mainGlobals mg) (hms : mg "super" = none) (hB : h.Ns builtinsNs mb) (hbs : mb "super" = some (.type "super"))
    (hcell : ∃ o, h.get? cc = some o ∧ o.data = .cell (some (.ref D))) (hD : h.get? D = some oD) (hDd : oD.data = .cls cdD) (hsub : subIn K (.ref C) (.ref D) = some true) (hsB : subIn K (.ref C) (.type B) = some true) (hop : nsIn K cStatics "thirdparty.any" = some none) (hcl : clsIn K C = some cdC) (hsu : ks_superIn K C D "__init__" = some (some (.builtin i)))
    {pl : Sem Bool} (hev : eval (.Call (.Attribute (.Call (.Name "super" q1) [] [] q2) "__init__" q3) (e :: es) [] q5) (ksEnv qn sc L f (.ref cda) cc) = (do
      let ov ← attributeBase (.Call (.Name "super" q1) [] [] q2) "__init__" (ksEnv qn sc L f (.ref cda) cc) (eval (.Call (.Name "super" q1) [] [] q2) (ksEnv qn sc L f (.ref cda) cc))
      standAt q3.atName
      let (fn, first) ← holding [ov] (getMethod ov "__init__" pl)
      callWith q5 fn first (backTo q5 (starEach (e :: es) (ksEnv qn sc L f (.ref cda) cc))) []))
    (hargs : ∀ (h' : Heap) (t' : Nat) (Q' : List Value → Shared → Prop), (∀ b o, h.get? b = some o → h'.get? b = some o) → Q' us ⟨h', g, d, t', os⟩ → wpAny (model prog w) A (spliced (backTo q5 (starEach (e :: es) (ksEnv qn sc L f (.ref cda) cc)))) Q' E ⟨h', g, d, t', os⟩)
    (hst : starEach (e :: es) (ksEnv qn sc L f (.ref cda) cc) = (false, eval e (ksEnv qn sc L f (.ref cda) cc)) :: starEach es (ksEnv qn sc L f (.ref cda) cc)) (hpl : (backTo q5 (starEach es (ksEnv qn sc L f (.ref cda) cc))).any (·.1) = false)
    (hk : sc.kind = .function) (n1 : sc.names.lookup ("super" : Str) = some .globalImplicit) (n2 : sc.names.lookup ("__class__" : Str) = some .free) (n3 : sc.names.lookup ar.arg = some .local) (hz : us.length ≤ sizeLine)
    (hq : ∀ h' t' t1, (∀ b o, b ≠ x → h.get? b = some o → h'.get? b = some o) → h'.get? x = some (excO C t1) → Q .none ⟨h', g, d, t', os⟩) :
    _root_.PySem.wpAt (model prog w) A (.func body (ksEnv qn sc L f (.ref cda) cc)) (eval (.Call (.Attribute (.Call (.Name "super" q1) [] [] q2) "__init__" q3) (e :: es) [] q5) (ksEnv qn sc L f (.ref cda) cc)) Q E ⟨h, g, d, t, os⟩ := by
  refine ks_wpAt_MethodCall (superAt hn hv hf hfd hp hcc hoc hvs hfile htop hG hms hB hbs hcell hD hDd he rfl (fun c z => by cases z) (looks_subIn X hsub) hk n1 n2 n3 fun h2 e2 k2 => ?_) hev
  have X2 : K.In h2 := X.keeps k2
  have he2 := k2 _ _ he
  have I2 : InstAt h2 x (excO C t0) C none := ⟨he2, rfl, rfl, trivial⟩
  have hm2 : alongIn K "__init__" ((cdC.mro.dropWhile (· != .ref D)).drop 1) = some (some (.builtin i)) := by unfold ks_superIn at hsu; rw [hcl] at hsu; exact hsu
  refine kxs_getMethod KF e2 (looks_opaque X2 hop) (l₀ := cdC.mro) (fun A Q E s k z => wpAny_bind ((looks_clsIn X2 hcl) A _ E s k (wpAny_pure z))) rfl X2 hm2 (I2.type.andThen (looks_subIn X2 hsB)) (ks_ne X2 I2 hcl) (by decide) ?_
  have k3 : ∀ b o, h2.get? b = some o → (h2.push (kxs_mw i x)).get? b = some o := fun b o z => Heap.get?_push_of_some _ z
  have hu : (h2.push (kxs_mw i x)).get? h2.objs.size = some (kxs_mw i x) := Heap.get?_push_at rfl rfl
  have hx3 := k3 _ _ he2
  have hne : h2.objs.size ≠ x := Nat.ne_of_gt (Heap.lt_size he2)
  show wpAny (model prog w) A (callWith q5 (.ref h2.objs.size) [] (backTo q5 (starEach (e :: es) (ksEnv qn sc L f (.ref cda) cc))) []) Q E _
  have hargs2 := hargs (h2.push (kxs_mw i x)) (t + 1) (fun vs s₁ => KxsAt i h2.objs.size x s₁.heap ∧ wpAny (model prog w) A (call (.ref h2.objs.size) vs) Q E s₁) (fun b o z => k3 b o (k2 b o z)) ⟨hu, mwCall FB ((X2.keeps k3) _ _ hC) hx3 hu hz fun h' t1 k4 hx4 => hq h' _ t1 (fun b o hb z => k4 b o hb (k3 b o (k2 b o z))) hx4⟩
  rw [hst] at hargs2 ⊢
  refine kxs_callWith (i := i) (x := x) (by show (false || (backTo q5 (starEach es (ksEnv qn sc L f (.ref cda) cc))).any (·.1)) = false; rw [hpl]; rfl) ?_
  exact evalArgs_plain hargs2
end

/-! ### an error's mro: own classes, then the base's -/
def refsB (bmB : List Value) : List Value → Bool
  | .ref _ :: r => refsB bmB r
  | l => l == bmB
theorem refsB_type {bmB : List Value} (X : String) : ∀ {l : List Value}, refsB bmB l = true → l.contains (.type X) = bmB.contains (.type X)
  | [], h => by rw [show ([] : List Value) = bmB from beq_iff_eq.mp h]
  | v :: r, h => by
    cases v with
    | ref a =>
      have h : refsB bmB r = true := h
      rw [List.contains_cons, refsB_type X h]
      rfl
    | _ => rw [← show _ = bmB from beq_iff_eq.mp h]
theorem refsB_pass {bmB : List Value} (self : Value) (what : Str) : ∀ {l : List Value}, refsB bmB l = true → refuseLoop self what l = refuseLoop self what bmB
  | [], h => by rw [show ([] : List Value) = bmB from beq_iff_eq.mp h]
  | v :: r, h => by
    cases v with
    | ref a =>
      have h : refsB bmB r = true := h
      rw [refuseLoop_ref, refsB_pass self what h]
    | _ => rw [← show _ = bmB from beq_iff_eq.mp h]
/-- what is known of a base -/
structure BaseF (B newId i : String) (bmB : List Value) : Prop where
  eb : ExcBaseFacts B newId i bmB
  kx : KxsFacts B i
  st : StoreFacts B bmB "object.__setattr__" "object"
  ob : bmB.contains (.type "object") = true
theorem base_VE : BaseF "ValueError" "ValueError.__new__" "ValueError.__init__" [.type "ValueError", .type "Exception", .type "BaseException", .type "object"] := ⟨PySem.F.excBase_ValueError, kxs_ValueError, PySem.F.store_ValueError, by decide +kernel⟩
theorem base_LE : BaseF "LookupError" "LookupError.__new__" "LookupError.__init__" [.type "LookupError", .type "Exception", .type "BaseException", .type "object"] := ⟨PySem.F.excBase_LookupError, kxs_LookupError, PySem.F.store_LookupError, by decide +kernel⟩
theorem base_OE : BaseF "OverflowError" "OverflowError.__new__" "OverflowError.__init__" [.type "OverflowError", .type "ArithmeticError", .type "Exception", .type "BaseException", .type "object"] := ⟨PySem.F.excBase_OverflowError, kxs_OverflowError, PySem.F.store_OverflowError, by decide +kernel⟩
theorem base_RE : BaseF "RuntimeError" "RuntimeError.__new__" "RuntimeError.__init__" [.type "RuntimeError", .type "Exception", .type "BaseException", .type "object"] := ⟨PySem.F.excBase_RuntimeError, kxs_RuntimeError, PySem.F.store_RuntimeError, by decide +kernel⟩
section
open Builtin Builtin.ObjectAttr
variable {prog : Program} {w : World} {A : Around} {E : Value → Shared → Prop} {R : Result → Shared → Prop} {hp : Heap} {g : Array GenState} {d : Drawn} {t : Nat} {os : OsState}
theorem osa_gen {B newId i : String} {bmB bm : List Value} (BF : BaseF B newId i bmB) {K : Frag} {name : Str} {tk : Tok} {v : Value} {x C : Addr} {ox : Obj} {od : Option Obj} {cd : ClassData}
    (X : K.In hp) (I : InstAt hp x ox C od) (hcd : clsIn K C = some cd) (hm : cd.mro = .ref C :: bm) (hr : refsB bmB bm = true) (ha : findIn K (.ref C) name = some none)
    (hq : wpAny (model prog w) A.in1 (storeInOwnDict (.ref x) (.ref C) (.str name tk) name v false)
      (fun fin s' => match fin with | .done f => R (.ok f) s' | .again c' => c'.quiet = true ∧ codeAny (model prog w) A c' R s') (fun e s' => R (.error e) s') ⟨hp, g, d, t, os⟩) :
    codeAny (model prog w) A (.call (.builtin "object.__setattr__") ⟨[.ref x, .str name tk, v], []⟩) R ⟨hp, g, d, t, os⟩ := by
  have SF := PySem.F.store_object
  have hc : (Value.ref C :: bm).contains (.type "object") = true := by rw [List.contains_cons, refsB_type _ hr, BF.ob, Bool.or_true]
  have hmo : mroIn K C (.type "object") = some true := by
    unfold mroIn
    rw [hcd, Option.bind_some, hm, if_neg (show ¬ (List.isEmpty (Value.ref C :: bm) = true) from Bool.false_ne_true), hc]
  have hpass : refuseLoop (.ref x) "__setattr__" cd.mro = pure () := by
    rw [hm, refuseLoop_ref, refsB_pass _ _ hr]
    exact BF.st.passes _
  refine codeAny_call_builtin SF.slot.plain SF.entry (@check_slot (model prog w) _ _ ⟨hp, g, d, t, os⟩ "object.__setattr__" "object" "__setattr__" (.ref x) [.str name tk, v] [] _ SF.kind SF.split (I.type.andThen (looks_mroIn X hmo)) (SF.args (.ref x) (.str name tk) v) ?_)
  rw [osa_eq, refuse_eq]
  refine wpAny_bind (wpAny_bind (I.type.at (wpAny_bind (((looks_clsIn X hcd).andThen .now : Looks (model prog w) hp (mroOf (.ref C)) cd.mro).at ?_))))
  rw [hpass]
  exact wpAny_pure (wpAny_bind (I.type.at (wpAny_bind ((looks_findIn X ha).at (wpAny_bind ((.now : Looks (model prog w) hp (storeTaker? none) none).at hq))))))
/-- the first field: the dict is laid -/
theorem osa_new {B newId i : String} {bmB bm : List Value} (BF : BaseF B newId i bmB) {K : Frag} {name : Str} {tk : Tok} {v : Value} {x C : Addr} {fv : Array Value} {cd : ClassData}
    (X : K.In hp) (hx : hp.get? x = some { cls := .ref C, data := .fields fv }) (hcd : clsIn K C = some cd) (hm : cd.mro = .ref C :: bm) (hr : refsB bmB bm = true) (hh : cd.hasDict = true) (ha : findIn K (.ref C) name = some none)
    (hq : ∀ h' tk' dx, (∀ b o, b ≠ x → hp.get? b = some o → h'.get? b = some o) → hp.objs.size ≤ dx → dx ≠ x → h'.get? x = some { cls := .ref C, dict := some dx, data := .fields fv } →
      h'.Ns1 dx (fun y => if y = name then some v else none) → R (.ok (.ret .none)) ⟨h', g, d, tk', os⟩) :
    codeAny (model prog w) A (.call (.builtin "object.__setattr__") ⟨[.ref x, .str name tk, v], []⟩) R ⟨hp, g, d, t, os⟩ := by
  have hxs : x ≠ hp.objs.size := Nat.ne_of_lt (Heap.lt_size hx)
  refine osa_gen BF X (ox := { cls := .ref C, data := .fields fv }) (od := none) ⟨hx, rfl, rfl, trivial⟩ hcd hm hr ha ?_
  have hcls : Looks (model prog w) hp (classData C) cd := looks_clsIn X hcd
  obtain ⟨nm, bs, mro, ns, qn, hd, sn, sb, ab, col, del⟩ := cd
  dsimp only at hh
  subst hh
  unfold storeInOwnDict ownDictForStores
  repeat (first | with_reducible refine store_in_new ?_ ?_ | with_reducible refine wpAny_loadPart_at hx ?_ | with_reducible refine hcls.at ?_ | wp_step)
  · exact ⟨_, #[], _, (Heap.get?_update_ne _ _ _ _ hxs.symm).trans (Heap.get?_push_at rfl rfl), rfl, fun e he => absurd he (by simp), fun _ => rfl⟩
  · intro h' tk' hn' hs
    refine hq h' tk' hp.objs.size (fun b o hb ho => ?_) (Nat.le_refl _) hxs.symm ?_ hn'
    · exact (hs.2 b (Nat.ne_of_lt (Heap.lt_size ho))).trans ((Heap.get?_update_ne _ _ _ _ hb).trans (Heap.get?_push_of_some _ ho))
    · exact (hs.2 x hxs).trans (Heap.get?_update_self _ (Heap.get?_push_of_some _ hx) rfl)
/-- a further field -/
theorem osa_old {B newId i : String} {bmB bm : List Value} (BF : BaseF B newId i bmB) {K : Frag} {name : Str} {tk : Tok} {v : Value} {x C dx : Addr} {fv : Array Value} {cd : ClassData} {m0 : Str → Option Value} {nl : List Str}
    (X : K.In hp) (hx : hp.get? x = some { cls := .ref C, dict := some dx, data := .fields fv }) (hns : hp.Ns1 dx m0) (hw : Within m0 nl) (hz : nl.length ≤ 1000) (hcd : clsIn K C = some cd) (hm : cd.mro = .ref C :: bm) (hr : refsB bmB bm = true) (hh : cd.hasDict = true)
    (ha : findIn K (.ref C) name = some none)
    (hq : ∀ h' tk', (∀ b o, b ≠ dx → hp.get? b = some o → h'.get? b = some o) → h'.Ns1 dx (fun y => if y = name then some v else m0 y) → R (.ok (.ret .none)) ⟨h', g, d, tk', os⟩) :
    codeAny (model prog w) A (.call (.builtin "object.__setattr__") ⟨[.ref x, .str name tk, v], []⟩) R ⟨hp, g, d, t, os⟩ := by
  obtain ⟨oD, esD, epD, hoD, hdD, _⟩ := hns.count hw
  refine osa_gen BF X (ox := { cls := .ref C, dict := some dx, data := .fields fv }) (od := some oD) ⟨hx, rfl, rfl, hoD⟩ hcd hm hr ha ?_
  have hcls : Looks (model prog w) hp (classData C) cd := looks_clsIn X hcd
  obtain ⟨nm, bs, mro, ns, qn, hd, sn, sb, ab, col, del⟩ := cd
  dsimp only at hh
  subst hh
  unfold storeInOwnDict ownDictForStores
  repeat (first | with_reducible refine PySem.ESX.store_in_old hns hw hz ?_ | with_reducible refine wpAny_loadPart_at hx ?_ | with_reducible refine hcls.at ?_ | wp_step)
  intro h' tk' hn' hs
  exact hq h' tk' (fun b o hb ho => (hs.2 b hb).trans ho) hn'
end

/-! ### the two texts of __init__ -/
def pars (ps : List (Str × Pos)) : Arguments := { posonlyargs := [], args := ps.map fun q => { arg := q.1, annotation := none, pos := q.2 }, vararg := none, kwonlyargs := [], kw_defaults := [], kwarg := none, defaults := [] }
def scp (ps : List Str) : Scope := { kind := .function, names := ((("self" : Str), NameKind.local) :: ps.map fun p => (p, NameKind.local)) ++ [(("__class__" : Str), NameKind.free), (("super" : Str), NameKind.globalImplicit)], isGenerator := false, isCoroutine := false, more := [] }
def bd1 (p : Str) (q1 q2 q3 q4 q5 q6 q7 q8 q9 q10 : Pos) : List Stmt :=
  [.Expr (.Call (.Attribute (.Call (.Name "super" q1) [] [] q2) "__init__" q3) [.Name p q4] [] q5) q6, .Assign [.Attribute (.Name "self" q7) p q8] (.Name p q9) q10]
def bd2 (p r : Str) (q1 q2 q3 q4 q4' q5 q6 q7 q8 q9 q10 r7 r8 r9 r10 : Pos) : List Stmt :=
  [.Expr (.Call (.Attribute (.Call (.Name "super" q1) [] [] q2) "__init__" q3) [.Name p q4, .Name r q4'] [] q5) q6, .Assign [.Attribute (.Name "self" q7) p q8] (.Name p q9) q10, .Assign [.Attribute (.Name "self" r7) r r8] (.Name r r9) r10]
/-- how the call of the base's __init__ is read (a matter of lines) -/
def Hev (qn : Str) (sc : Scope) (f cda cc : Addr) (q1 q2 q3 q5 : Pos) (es : List Expr) : Prop := ∀ L : Addr, ∃ pl : Sem Bool, eval (.Call (.Attribute (.Call (.Name "super" q1) [] [] q2) "__init__" q3) es [] q5) (ksEnv qn sc L f (.ref cda) cc) = (do
  let ov ← attributeBase (.Call (.Name "super" q1) [] [] q2) "__init__" (ksEnv qn sc L f (.ref cda) cc) (eval (.Call (.Name "super" q1) [] [] q2) (ksEnv qn sc L f (.ref cda) cc))
  standAt q3.atName
  let (fn, first) ← holding [ov] (getMethod ov "__init__" pl)
  callWith q5 fn first (backTo q5 (starEach es (ksEnv qn sc L f (.ref cda) cc))) [])
/-- what the text says of an own error -/
structure ErrT (P : Program) (K : Frag) (mg : Str → Option Value) (x : Str) (ps : List Str) (C fI : Addr) : Prop where
  gC : mg x = some (.ref C)
  cls : ∃ B newId i bmB nm q N bs bm sn sub ab col dd k0 k1 k2 k3 k5, BaseF B newId i bmB ∧ K.lookup C = some (excClassObj nm q C N bs bm true sn sub ab col dd k0 k1 k2 k3 k5 newId) ∧ refsB bmB bm = true ∧ subIn K (.ref C) (.type B) = some true ∧ ks_superIn K C C "__init__" = some (some (.builtin i))
  sa : findIn K (.ref C) "__setattr__" = some (some (.builtin "object.__setattr__"))
  no : ∀ p ∈ ps, findIn K (.ref C) p = some none
  iC : findIn K (.ref C) "__init__" = some (some (.ref fI))
  tC : typeIn K (.ref fI) = some (.type "function")
  kC : keepIn K (.ref C) = true
  sub : subIn K (.ref C) (.ref C) = some true
  exC : subIn K (.ref C) (.type "BaseException") = some true
  tyC : typeIn K (.ref C) = some (.type "type")
  top : nsIn K cStatics "thirdparty.any" = some none
  hs : mg "super" = none
  tp : (P.main.scope.names.lookup ("super" : Str)).isSome = false
  n1 : (scp ps).names.lookup ("super" : Str) = some .globalImplicit
  n2 : (scp ps).names.lookup ("__class__" : Str) = some .free
  n3 : (scp ps).names.lookup ("self" : Str) = some .local
  np : ∀ p ∈ ps, (scp ps).names.lookup p = some .local ∧ (p == ("__debug__" : Str)) = false ∧ p ≠ "self"
  fn : ∃ (oc : Value) (od : Option Addr) (doc pm : Value) (an : Option Addr) (cda cc : Addr) (ct : Value) (osl : Array (Option Value)) (qn : Str) (pp : List Pos) (body : List Stmt) (ocd oce : Obj) (vs : Array Value) (file : Str) (tf : Tok),
    K.lookup fI = some ⟨oc, od, .func (ksFn "__init__" qn (pars ((("self" : Str) :: ps).zip pp)) body (scp ps) .none .none doc pm an (.ref cda) ct cc), osl⟩ ∧ L2.Binds K (ksFn "__init__" qn (pars ((("self" : Str) :: ps).zip pp)) body (scp ps) .none .none doc pm an (.ref cda) ct cc) (("self" : Str) :: ps) [] ∧ codeIn K (.ref cda) qn = true ∧ pp.length = ps.length + 1 ∧
    K.lookup cc = some oce ∧ oce.data = .cell (some (.ref C)) ∧ K.lookup cda = some ocd ∧ ocd.data = .fields vs ∧ vs[2]? = some (.str file tf) ∧ ((P.main.file : Str) == file) = true ∧
    ((∃ p, ps = [p] ∧ ∃ q1 q2 q3 q4 q5 q6 q7 q8 q9 q10, body = bd1 p q1 q2 q3 q4 q5 q6 q7 q8 q9 q10 ∧ Hev qn (scp ps) fI cda cc q1 q2 q3 q5 [.Name p q4]) ∨ ∃ p r, ps = [p, r] ∧ p ≠ r ∧ ∃ q1 q2 q3 q4 q4' q5 q6 q7 q8 q9 q10 r7 r8 r9 r10, body = bd2 p r q1 q2 q3 q4 q4' q5 q6 q7 q8 q9 q10 r7 r8 r9 r10 ∧ Hev qn (scp ps) fI cda cc q1 q2 q3 q5 [.Name p q4, .Name r q4'])

def fdm : List Str → List Value → Str → Option Value
  | p :: ps, v :: vs, y => if y = p then some v else fdm ps vs y
  | _, _, _ => none
/-- what __init__ leaves of a fresh error at x -/
structure ErrEnd (h h' : Heap) (x C dx : Addr) (ps : List Str) (us : List Value) : Prop where
  keep : ∀ b o, b ≠ x → h.get? b = some o → h'.get? b = some o
  obj : ∃ t1, h'.get? x = some { cls := .ref C, dict := some dx, data := .fields #[.ref t1, .none, .none, .none, .bool false, .none] }
  dbig : h.objs.size ≤ dx
  dne : dx ≠ x
  ns : ∃ m, h'.Ns1 dx m ∧ ∀ y, m y = fdm ps us y
section
variable {prog : Program} {w : World} {A : Around} {E : Value → Shared → Prop} {R : Result → Shared → Prop} {s : Shared} {K : Frag} {mg mb : Str → Option Value} {C fI : Addr} {x0 : Str} {ps : List Str}
theorem keep_in {h h' : Heap} {x : Addr} (X : K.In h) (hx : K.lookup x = none) (k : ∀ b o, b ≠ x → h.get? b = some o → h'.get? b = some o) : K.In h' := fun a o e =>
  k a o (fun z => by rw [z, hx] at e; cases e) (X a o e)
theorem ldK {M : Model} {s : Shared} {name : Str} {scope : Scope} {L a cc : Addr} {cd : Value} {m : Str → Option Value} {x : Str} {pos : Pos} {v : Value} {Q : Value → Shared → Prop} {A : Around} {E : Value → Shared → Prop} (hn : s.heap.Ns L m) (hv : m x = some v) (h : Q v s)
    (hk : scope.kind = .function) (hl : scope.names.lookup x = some .local) (hd : (x == ("__debug__" : Str)) = false) :
    wpAny M A (eval (.Name x pos) (ksEnv name scope L a cd cc)) Q E s := wpAny_Name (wpAny_loadName_local hk hl hn hv h) hd
theorem errInit (T : ErrT prog K mg x0 ps C fI) {x t0 : Addr} {us : List Value} (hul : us.length = ps.length) (X : K.In s.heap) (hlim : s.heap.NoLimit) (hG : s.heap.Ns mainGlobals mg) (hB : s.heap.Ns builtinsNs mb) (hbs : mb "super" = some (.type "super")) (hx : s.heap.get? x = some (excO C t0)) (hnx : K.lookup x = none) (hroom : A.depth < recursionLimit)
    (hq : ∀ h' tk dx, ErrEnd s.heap h' x C dx ps us → R (.ok (.ret .none)) { s with heap := h', toks := tk }) :
    codeAny (model prog w) A (.call (.ref fI) ⟨.ref x :: us, []⟩) R s := by
  obtain ⟨oc, od, doc, pm, an, cda, cc, ct, osl, qn, pp, body, ocd, oce, vs, file, tf, ho, hbd, hcd, hpp, hcc, hce, hcda, hcdd, hvs, hfile, hshape⟩ := T.fn
  obtain ⟨B, newId, i, bmB, nm, q, N, bs, bm, sn, sub, ab, col, dd, k0, k1, k2, k3, k5, BF, hC, hrb, hsB, hsu⟩ := T.cls
  have hcl : clsIn K C = some { name := nm, bases := bs, mro := .ref C :: bm, ns := N, qualname := q, hasDict := true, slotNames := sn, subclasses := sub, abstract := ab, collection := col, hasDel := false } := by unfold clsIn; rw [hC] <;> rfl
  have hlen : ((Value.ref x :: us) ++ []).length = ((("self" : Str)) :: ps).length := by rw [List.append_nil, List.length_cons, List.length_cons, hul]
  have hbind := hbd s (.ref x :: us) X hlen
  rw [List.append_nil] at hbind
  refine ks_codeAny_call_defAt (fd := ksFn "__init__" qn (pars ((("self" : Str) :: ps).zip pp)) body (scp ps) .none .none doc pm an (.ref cda) ct cc) (body := body) (binds := ((("self" : Str)) :: ps).zip (.ref x :: us)) hroom (X _ _ ho) rfl hlim (codeRec_of X hcd) rfl hbind ?_ ?_ (fun h1 hns hk1 => ?_)
  · intro y hy
    simp only [scp, List.mem_append, List.mem_cons, List.mem_map, List.not_mem_nil, or_false] at hy
    rcases hy with (rfl | ⟨_, _, rfl⟩) | rfl | rfl <;> exact fun z => nomatch z
  · intro y hy
    have : y.1 ∈ (("self" : Str)) :: ps := (List.of_mem_zip hy).1
    rcases List.mem_cons.mp this with z | z
    · rw [z]; exact T.n3
    · exact (T.np _ z).1
  have hxL : s.heap.objs.size ≠ x := Nat.ne_of_gt (Heap.lt_size hx)
  have X1 : K.In h1 := X.keeps hk1
  have nsk : ∀ {h2 h3 : Heap} {m : Str → Option Value}, h2.Ns s.heap.objs.size m → (∀ b o, b ≠ x → h2.get? b = some o → h3.get? b = some o) → h3.Ns s.heap.objs.size m := fun {h2 h3 m} hn k => by
    obtain ⟨o, es, ep, g1, g2, g3⟩ := hn
    exact ⟨o, es, ep, k _ _ hxL g1, g2, g3⟩
  have hk1' : ∀ {b : Addr} {m : Str → Option Value}, s.heap.Ns b m → h1.Ns b m := fun {b m} hn => by
    obtain ⟨o, es, ep, g1, g2, g3⟩ := hn
    exact ⟨o, es, ep, hk1 _ _ g1, g2, g3⟩
  have tb : bm.length = bm.length := rfl
  have big : s.heap.objs.size < h1.objs.size := hns.lt
  rcases hshape with ⟨p, rfl, q1, q2, q3, q4, q5, q6, q7, q8, q9, q10, rfl, hev⟩ | ⟨p, r, rfl, hpr, q1, q2, q3, q4, q4', q5, q6, q7, q8, q9, q10, r7, r8, r9, r10, rfl, hev⟩
  · obtain ⟨pl, hev⟩ := hev s.heap.objs.size
    obtain ⟨v, rfl⟩ : ∃ v, us = [v] := by
      match us, hul with
      | [v], _ => exact ⟨v, rfl⟩
    obtain ⟨np1, np2, np3⟩ := T.np p List.mem_cons_self
    have hm1 : (List.reverse ((("self" : Str) :: [p]).zip [Value.ref x, v])).lookup ("self" : Str) = some (.ref x) := by
      have : (("self" : Str) == p) = false := by simpa using Ne.symm np3
      simp [List.lookup, this]
    have hm2 : (List.reverse ((("self" : Str) :: [p]).zip [Value.ref x, v])).lookup p = some v := by simp [List.lookup]
    obtain ⟨pp0, pp1, rfl⟩ : ∃ a b, pp = [a, b] := by
      match pp, hpp with
      | [a, b], _ => exact ⟨a, b, rfl⟩
    refine ks_wpAt_execs_cons (ks_wpAt_Expr_any (superInit (D := C) (fd := ksFn "__init__" qn (pars ((("self" : Str) :: [p]).zip [pp0, pp1])) _ (scp [p]) .none .none doc pm an (.ref cda) ct cc) (ar := { arg := "self", annotation := none, pos := pp0 }) (us := [v]) (cc := cc) (cda := cda) (f := fI) (L := s.heap.objs.size) (qn := qn) (sc := scp [p]) BF.eb BF.kx X1 hC (hk1 _ _ hx) hns hm1 (X1 _ _ ho) rfl rfl (X1 _ _ hcda) hcdd hvs hfile T.tp (hk1' hG) T.hs (hk1' hB) hbs ⟨_, X1 _ _ hcc, hce⟩ (X1 _ _ hC) rfl T.sub hsB T.top hcl hsu hev (fun h' t' Q' k hQ => ?_) rfl rfl rfl T.n1 T.n2 T.n3 (by simp [sizeLine_eq]) fun h2 t2 t1 k2 hx2 => ?_) rfl rfl)
    · refine spliced_cons (ldK (m := fun x_1 => (List.reverse ((("self" : Str) :: [p]).zip [Value.ref x, v])).lookup x_1) (by obtain ⟨o, es, ep, g1, g2, g3⟩ := hns; exact ⟨o, es, ep, k _ _ g1, g2, g3⟩) hm2 ?_ rfl np1 np2)
      exact spliced_nil hQ
    · have hn2 := nsk hns k2
      have X2 := keep_in X1 hnx k2
      refine ks_wpAt_execs_cons (ks_wpAt_Assign_Attr (wpAt_of_wpAny (ldK hn2 hm2 (ldK hn2 hm1 ?_ rfl T.n3 (by decide)) rfl np1 np2)) rfl)
      refine set_plain X2 (ox := excO C t1) (od := none) ⟨hx2, rfl, rfl, trivial⟩ T.sa ?_
      refine osa_new BF X2 hx2 hcl rfl hrb rfl (T.no p List.mem_cons_self) (fun h3 tk3 dx k3 dn dne hx3 hn3 => ?_)
      refine wpAt_of_wpAny (wpAny_execs_nil (hq h3 tk3 dx ⟨fun b o hb e => k3 b o hb (k2 b o hb (hk1 b o e)), ⟨t1, hx3⟩, ?_, dne, _, hn3, fun y => rfl⟩))
      exact Nat.le_of_lt (Nat.lt_of_lt_of_le (show s.heap.objs.size < h2.objs.size from hn2.lt) dn)
  · obtain ⟨pl, hev⟩ := hev s.heap.objs.size
    obtain ⟨v, u, rfl⟩ : ∃ v u, us = [v, u] := by
      match us, hul with
      | [v, u], _ => exact ⟨v, u, rfl⟩
    obtain ⟨np1, np2, np3⟩ := T.np p List.mem_cons_self
    obtain ⟨nr1, nr2, nr3⟩ := T.np r (List.mem_cons_of_mem _ List.mem_cons_self)
    have b1 : (("self" : Str) == p) = false := by simpa using Ne.symm np3
    have b2 : (("self" : Str) == r) = false := by simpa using Ne.symm nr3
    have b3 : (p == r) = false := by simpa using hpr
    have hm1 : (List.reverse ((("self" : Str) :: [p, r]).zip [Value.ref x, v, u])).lookup ("self" : Str) = some (.ref x) := by simp [List.lookup, b1, b2]
    have hm2 : (List.reverse ((("self" : Str) :: [p, r]).zip [Value.ref x, v, u])).lookup p = some v := by simp [List.lookup, b3]
    have hm3 : (List.reverse ((("self" : Str) :: [p, r]).zip [Value.ref x, v, u])).lookup r = some u := by simp [List.lookup]
    obtain ⟨pp0, pp1, pp2, rfl⟩ : ∃ a b c, pp = [a, b, c] := by
      match pp, hpp with
      | [a, b, c], _ => exact ⟨a, b, c, rfl⟩
    refine ks_wpAt_execs_cons (ks_wpAt_Expr_any (superInit (D := C) (fd := ksFn "__init__" qn (pars ((("self" : Str) :: [p, r]).zip [pp0, pp1, pp2])) _ (scp [p, r]) .none .none doc pm an (.ref cda) ct cc) (ar := { arg := "self", annotation := none, pos := pp0 }) (us := [v, u]) (cc := cc) (cda := cda) (f := fI) (L := s.heap.objs.size) (qn := qn) (sc := scp [p, r]) BF.eb BF.kx X1 hC (hk1 _ _ hx) hns hm1 (X1 _ _ ho) rfl rfl (X1 _ _ hcda) hcdd hvs hfile T.tp (hk1' hG) T.hs (hk1' hB) hbs ⟨_, X1 _ _ hcc, hce⟩ (X1 _ _ hC) rfl T.sub hsB T.top hcl hsu hev (fun h' t' Q' k hQ => ?_) rfl rfl rfl T.n1 T.n2 T.n3 (by simp [sizeLine_eq]) fun h2 t2 t1 k2 hx2 => ?_) rfl rfl)
    · have hn' : h'.Ns s.heap.objs.size (fun x_1 => (List.reverse ((("self" : Str) :: [p, r]).zip [Value.ref x, v, u])).lookup x_1) := by obtain ⟨o, es, ep, g1, g2, g3⟩ := hns; exact ⟨o, es, ep, k _ _ g1, g2, g3⟩
      refine spliced_cons (ldK hn' hm2 ?_ rfl np1 np2)
      refine spliced_cons (ldK hn' hm3 ?_ rfl nr1 nr2)
      exact spliced_nil hQ
    · have hn2 := nsk hns k2
      have X2 := keep_in X1 hnx k2
      have sz2 : s.heap.objs.size < h2.objs.size := hn2.lt
      refine ks_wpAt_execs_cons (ks_wpAt_Assign_Attr (wpAt_of_wpAny (ldK hn2 hm2 (ldK hn2 hm1 ?_ rfl T.n3 (by decide)) rfl np1 np2)) rfl)
      refine set_plain X2 (ox := excO C t1) (od := none) ⟨hx2, rfl, rfl, trivial⟩ T.sa ?_
      refine osa_new BF X2 hx2 hcl rfl hrb rfl (T.no p List.mem_cons_self) (fun h3 tk3 dx k3 dn dne hx3 hn3 => ?_)
      have hn3' := nsk hn2 k3
      have X3 := keep_in X2 hnx k3
      have wi : Within (fun y => if y = p then some v else none) [p] := fun y hy => by
        by_cases q : y = p
        · rw [q]; exact List.mem_cons_self
        · exact absurd (if_neg q) hy
      obtain ⟨oD, hoD, _⟩ := hn3.count wi
      refine ks_wpAt_execs_cons (ks_wpAt_Assign_Attr (wpAt_of_wpAny (ldK hn3' hm3 (ldK hn3' hm1 ?_ rfl T.n3 (by decide)) rfl nr1 nr2)) rfl)
      obtain ⟨esD, hoD1, hoD2, _⟩ := ‹_›
      refine set_plain X3 (ox := { cls := .ref C, dict := some dx, data := .fields #[.ref t1, .none, .none, .none, .bool false, .none] }) (od := some oD) ⟨hx3, rfl, rfl, hoD1⟩ T.sa ?_
      refine osa_old BF X3 hx3 hn3 wi (by simp) hcl rfl hrb rfl (T.no r (List.mem_cons_of_mem _ List.mem_cons_self)) (fun h4 tk4 k4 hn4 => ?_)
      have dL : s.heap.objs.size < dx := Nat.lt_of_lt_of_le sz2 dn
      refine wpAt_of_wpAny (wpAny_execs_nil (hq h4 tk4 dx ⟨fun b o hb e => ?_, ⟨t1, k4 _ _ (Ne.symm dne) hx3⟩, Nat.le_of_lt dL, dne, _, hn4, fun y => ?_⟩))
      · have hbd : b ≠ dx := fun z => by rw [z] at e; exact absurd (Heap.lt_size e) (Nat.lt_asymm dL)
        exact k4 b o hbd (k3 b o hb (k2 b o hb (hk1 b o e)))
      · show (if y = r then some u else if y = p then some v else none) = fdm [p, r] [v, u] y
        show _ = if y = p then some v else if y = r then some u else none
        by_cases q : y = p
        · rw [if_neg (fun z => hpr (q.symm.trans z))]; rw [if_pos q, if_pos q]
        · rw [if_neg q, if_neg q]
end

/-- a made error -/
structure ErrMade (h h' : Heap) (e C d : Addr) (ps : List Str) (us : List Value) : Prop where
  keep : ∀ b o, h.get? b = some o → h'.get? b = some o
  new : h.objs.size ≤ e
  obj : ∃ oe vs, h'.get? e = some oe ∧ oe.cls = .ref C ∧ oe.dict = some d ∧ oe.data = .fields vs ∧ vs[1]? = some .none
  dbig : h.objs.size ≤ d
  dne : d ≠ e
  ns : ∃ m, h'.Ns1 d m ∧ ∀ y, m y = fdm ps us y
section
variable {prog : Program} {w : World} {A : Around} {R : Result → Shared → Prop} {s : Shared} {K : Frag} {mg mb : Str → Option Value} {C fI : Addr} {x0 : Str} {ps : List Str}
theorem errMade (T : ErrT prog K mg x0 ps C fI) {us : List Value} (hul : us.length = ps.length) (X : K.In s.heap) (hlim : s.heap.NoLimit) (hG : s.heap.Ns mainGlobals mg) (hB : s.heap.Ns builtinsNs mb) (hbs : mb "super" = some (.type "super")) (hroom : A.depth + 1 < recursionLimit) (hz : us.length ≤ sizeLine)
    (hq : ∀ h' tk e d, ErrMade s.heap h' e C d ps us → R (.ok (.ret (.ref e))) { s with heap := h', toks := tk }) : codeAny (model prog w) A (.call (.ref C) ⟨us, []⟩) R s := by
  obtain ⟨B, newId, i, bmB, nm, q, N, bs, bm, sn, sub, ab, col, dd, k0, k1, k2, k3, k5, BF, hC, hrb, hsB, hsu⟩ := T.cls
  obtain ⟨hp, g, dr, tk, os⟩ := s
  have k : ∀ b o, hp.get? b = some o → ((hp.push (kdv_tup us)).push (excO C hp.objs.size)).get? b = some o := fun b o e => Heap.get?_push_of_some _ (Heap.get?_push_of_some _ e)
  have nsk : ∀ {b : Addr} {m : Str → Option Value}, hp.Ns b m → ((hp.push (kdv_tup us)).push (excO C hp.objs.size)).Ns b m := fun {b m} hn => by
    obtain ⟨o, es, ep, g1, g2, g3⟩ := hn
    exact ⟨o, es, ep, k _ _ g1, g2, g3⟩
  have hget : ((hp.push (kdv_tup us)).push (excO C hp.objs.size)).get? (hp.objs.size + 1) = some (excO C hp.objs.size) := by
    have := Heap.get?_push_size (hp.push (kdv_tup us)) (o := excO C hp.objs.size) rfl
    rwa [Heap.size_push] at this
  have hnx : K.lookup (hp.objs.size + 1) = none := by
    cases e : K.lookup (hp.objs.size + 1) with
    | none => rfl
    | some o => exact absurd (Nat.lt_of_succ_lt (Heap.lt_size (X _ _ e : hp.get? (hp.objs.size + 1) = some o))) (Nat.lt_irrefl _)
  refine call_own BF.eb (fun Z => refsB_type Z hrb) (X _ _ hC) (looks_findIn X T.iC) (fun self => bind_fn X self T.tC) hz ?_
  refine errInit (s := ⟨(hp.push (kdv_tup us)).push (excO C hp.objs.size), g, dr, tk, os⟩) T hul (X.keeps k) (hlim.keeps k) (nsk hG) (nsk hB) hbs hget hnx hroom fun h' tk' dx ⟨k', ⟨t1, hx⟩, dn, dne, hns⟩ => ?_
  have old : ∀ b o, hp.get? b = some o → h'.get? b = some o := fun b o e => k' b o (Nat.ne_of_lt (Nat.lt_succ_of_lt (Heap.lt_size e))) (k b o e)
  have dn : ((hp.push (kdv_tup us)).push (excO C hp.objs.size)).objs.size ≤ dx := dn
  rw [Heap.size_push, Heap.size_push] at dn
  exact ⟨rfl, hq h' tk' (hp.objs.size + 1) dx ⟨old, Nat.le_succ _, ⟨_, _, hx, rfl, rfl, rfl, rfl⟩, show hp.objs.size ≤ dx by omega, dne, hns⟩⟩
end
end DX
namespace DM
open PySem PySem.Spec PyProof.Rows L2 DL
theorem relO_fd : ∀ {ps : List Str} {vs : List V} {us : List Value}, Vals vs us → vs.length = ps.length → ∀ f, RelO (List.lookup f (ps.zip vs)) (DX.fdm ps us f)
  | [], [], [], _, _, f => trivial
  | p :: ps, v :: vs, u :: us, .cons h r, hl, f => by
    show RelO (List.lookup f ((p, v) :: ps.zip vs)) (if f = p then some u else DX.fdm ps us f)
    by_cases q : f = p
    · rw [if_pos q, q, List.lookup_cons_self]
      exact h
    · rw [if_neg q]
      have : (f == p) = false := by simpa using q
      simp only [List.lookup, this]
      exact relO_fd r (by simpa using hl) f
  | [], _ :: _, _, _, hl, _ => by cases hl
  | _ :: _, [], _, _, hl, _ => by cases hl
/-- C(..), an own error is made -/
theorem pmk_err {X : Cx} {C fI : Addr} {x : Str} {ps : List Str} {es : List Expr} {t : TA} {p pos : Pos} {k : Nat} (T : DX.ErrT X.prog X.K X.mg x ps C fI) (hr : Room (k + 1) X.A) (ha : CallW X es t) (hg : Gl X x) (hdb : (x == ("__debug__" : Str)) = false) :
    PMk X (.Call (.Name x p) es [] pos) (fun σ H Q => t σ H fun vs H1 => vs.length = ps.length ∧ vs.length ≤ sizeLine ∧ ∀ d, H1 d = none → Q (.ref C) (some d) (upd H1 d (.xd (ps.zip vs)))) := by
  intro pins s σ H Q I h
  refine wpAny_Call_Name_kw (ld_glob I hg T.gC ?_ hdb)
  refine ha pos (.ref C) [] pins s σ H _ _ T.kC I h fun us vs H1 s1 I1 r ⟨hl, hz, q1⟩ => ?_
  show wpAny _ _ (call (.ref C) us) _ _ _
  obtain ⟨mb, hB, hmb⟩ := I1.mod.blt
  have hlim := I1.nolimit
  have nsb : ∀ {b : Addr} {m : Str → Option Value}, X.base.Ns b m → s1.heap.Ns b m := fun {b m} hn => by
    obtain ⟨o, es, ep, g1, g2, g3⟩ := hn
    exact ⟨o, es, ep, I1.bk _ _ g1, g2, g3⟩
  have hG := nsb I1.mod.glob
  have hBs := nsb hB
  have hbs : mb "super" = some (.type "super") := (hmb "super" (by decide)).trans (by rfl)
  obtain ⟨hp, g, dr, tk, os⟩ := s1
  refine wpAny_call (DX.errMade T (by rw [← r.length]; exact hl) I1.kIn hlim hG hBs hbs (by have := hr.dp; omega) (by rw [← r.length]; exact hz) fun h' tk' e d M => ?_)
  show MkP X pins σ Q (.ref e) ⟨h', g, dr, tk', os⟩
  obtain ⟨oe, fv, hoe, hc, hd, hdat, h1⟩ := M.obj
  obtain ⟨m, hns, hm⟩ := M.ns
  obtain ⟨G', g1, g2⟩ := restrict h' fun b => decide (b ≠ e)
  have gk : ∀ b, b ≠ e → G'.get? b = h'.get? b := fun b hb => g1 b (decide_eq_true hb)
  have ge : G'.get? e = none := g2 e (by simp)
  have old : ∀ b o, hp.get? b = some o → G'.get? b = some o := fun b o q => (gk b (Nat.ne_of_lt (Nat.lt_of_lt_of_le (Heap.lt_size q) M.new))).trans (M.keep b o q)
  have ob : ObjOk X.prog X.w (upd H1 d (.xd (ps.zip vs))) G' d (.xd (ps.zip vs)) := by
    refine ⟨m, hns.at (fun o q => (gk d M.dne).trans q), fun f => ?_⟩
    rw [hm f]
    exact relO_fd r hl f
  have J : Inv X pins σ (upd H1 d (.xd (ps.zip vs))) ⟨G', g, dr, tk', os⟩ := I1.laid (t' := tk') old M.dbig ob
  refine ⟨e, oe, fv, ⟨G', g, dr, tk', os⟩, _, .ref C, some d, rfl, J, fun b o q => ?_, ge, hoe, ⟨hc, hd⟩, hdat, h1, ?_, rfl, I1.bare, raises_own T.exC T.tyC, q1 d (I1.hok.fresh M.dbig)⟩
  · by_cases hb : b = e
    · have q' : G'.get? b = some o := q
      rw [hb, ge] at q'; cases q'
    · exact (gk b hb).symm.trans q
  · rw [upd_ne (Ne.symm M.dne)]
    exact I1.hok.fresh M.new
end DM

/-! Errors: raise, try, e.f. -/
namespace DM
open PySem PySem.Spec PyProof.Rows L2 DL

/-- an own error of the module -/
structure ErrC (P : Program) (K : PySem.W.Frag) (mg : Str → Option Value) (x : Str) (ps : List Str) : Prop where
  ex : ∃ C fI, DX.ErrT P K mg x ps C fI ∧ Cl K x C
/-- the fields of an error -/
def R.raise {β α : Type} (x : Str) (ps : List Str) (ds : List D) (xb : β) : R β α := if ds.length = ps.length ∧ DM.few ds.length = true then .ex ⟨x, ps.zip ds⟩ xb else .no
theorem zip_fst : ∀ {ps : List Str} {α : Type} {vs : List α}, vs.length = ps.length → (ps.zip vs).map (·.1) = ps
  | [], _, [], _ => rfl
  | p :: ps, _, v :: vs, h => by rw [List.zip_cons_cons, List.map_cons, zip_fst (by simpa using h)]
  | [], _, _ :: _, h => by cases h
  | _ :: _, _, [], h => by cases h
theorem zip_snd : ∀ {ps : List Str} {α : Type} {vs : List α}, vs.length = ps.length → (ps.zip vs).map (·.2) = vs
  | [], _, [], _ => rfl
  | p :: ps, _, v :: vs, h => by rw [List.zip_cons_cons, List.map_cons, zip_snd (by simpa using h)]
  | [], _, _ :: _, h => by cases h
  | _ :: _, _, [], h => by cases h
/-- how a block inside a try ends -/
inductive TOut (S Sb Sc Sr : Type) where
  | nx (s : S) | bk (s : Sb) | ct (s : Sc) | rt (d : D) (s : Sr)
section
variable {X : Cx} {K : PySem.W.Frag} {E : XE} {β ω : Type} {κ : Kt β ω} {env : Fm} {pos : Pos} {rest : List Stmt}
/-- raise C(..) -/
theorem ab_raise {x : Str} {ps : List Str} {es : List Expr} {p p2 : Pos} {k : Nat} {cs : (List D → R β ω) → R β ω} (xb : β) (T : ErrC X.prog K X.mg x ps) (ha : AC X K E (κ.fx xb) xb env es cs) (hx : Wk env (κ.fx xb)) (hc : X.calm = true) (tk : TakesE X E) (hr : Room (k + 1) X.A) (hg : Gl X x) (hdb : (x == ("__debug__" : Str)) = false := by decide) :
    AB X K E κ env (.Raise (some (.Call (.Name x p) es [] p2)) none pos :: rest) (cs fun ds => R.raise x ps ds xb) := by
  have hK := ha.1
  subst hK
  obtain ⟨C, fI, T1, T2⟩ := T.ex
  refine ⟨rfl, fun B F H σ Dn G sr gs hG => ⟨_, pss_cons (ps_raise hc tk (pmk_err T1 hr cw_C hg hdb)) ps_C, ?_⟩⟩
  refine ha.2 B F H σ _ _ G sr hx (gs.gx xb) (fun ds vs F1 H1 h1 e1 eh1 s1 d1 => ?_) hG
  have h1 : G (if ds.length = ps.length ∧ DM.few ds.length = true then .ex ⟨x, ps.zip ds⟩ xb else .no) := h1
  split at h1
  case isFalse => exact (gs.no h1).elim
  rename_i hl
  have hvl : vs.length = ps.length := by rw [d1.length]; exact hl.1
  refine ⟨hvl, by rw [d1.length]; exact of_decide_eq_true hl.2, fun d hd => ?_⟩
  have hFd : F1 d = none := s1.ex.none hd
  refine gs.ex _ xb h1 _ _ (upd F1 d (.xd (ps.zip vs))) _ σ (e1.trans (Ex.new hFd)) ((s1.grow hd).wk hx) ⟨C, d, ps.zip vs, rfl, T2, rfl, upd_same, ?_, ?_⟩
  · show _ = (ps.zip ds).map (·.1)
    rw [zip_fst hvl, zip_fst hl.1]
  · show DrA X.K _ ((ps.zip vs).map (·.2)) ((ps.zip ds).map (·.2))
    rw [zip_snd hvl, zip_snd hl.1]
    exact d1.mono (Ex.new hFd)

def Kt.tryK (κ : Kt β ω) {βB : Type} (fxB : βB → Fm) (S : Type) (f : S → Fm) : Kt βB (TOut S κ.Sb κ.Sc κ.Sr) := { fx := fxB, Sn := S, fn := f, kn := fun s => .ok (.nx s), Sb := κ.Sb, fb := κ.fb, kb := fun s => .ok (.bk s), Sc := κ.Sc, fc := κ.fc, kc := fun s => .ok (.ct s), Sr := κ.Sr, fr := κ.fr, kr := fun d s => .ok (.rt d s), nw := κ.nw }
def R.out {S Sb Sc Sr : Type} (k : S → R β ω) (kb : Sb → R β ω) (kc : Sc → R β ω) (kr : D → Sr → R β ω) : TOut S Sb Sc Sr → R β ω
  | .nx s => k s
  | .bk s => kb s
  | .ct s => kc s
  | .rt d s => kr d s
def R.fin {α : Type} (m : R Unit α) (o : α → R β ω) : R β ω := match m with
  | .ok a => o a
  | _ => .no
/-- an except clause: mt: does it name the class -/
def R.clause {α : Type} (mt : Str → Option Bool) (x : Exn) (yes : R Unit α) (o : α → R β ω) (no : R β ω) : R β ω := match mt x.C with
  | some true => R.fin yes o
  | some false => no
  | none => .no
/-- try: o: what comes behind -/
def R.try' {α βB : Type} (o : α → R β ω) (m : R βB α) (h : Exn → βB → R β ω) : R β ω := match m with
  | .ok a => o a
  | .ex x b => h x b
  | .no => .no
abbrev xget (gs : List (Str × D)) (f : Str) : Option D := gs.lookup f
/-- .. with one clause -/
def R.tryc {α : Type} (o : α → R β ω) (m : R Unit α) (mt : Str → Option Bool) (mS : Exn → R Unit α) (xb : β) : R β ω := R.try' o m fun y _ => R.clause mt y (mS y) o (.ex y xb)
/-- what a class of errors is named by -/
structure MtC (X : Cx) (K : PySem.W.Frag) (x : Str) (mt : Str → Option Bool) : Prop where
  ex : ∃ c, Names X x c ∧ ∀ C b, mt C = some b → ∀ c', Cl K C c' → PySem.W.exmOne K (.ref c') c = some b
abbrev E0s : XE := fun _ _ _ _ => False
theorem te0 {X : Cx} : TakesE X E0s := takes0
theorem tkS {X : Cx} : ∀ σ, PassesAt (L2.CX X.prog X.w) X σ (E0s σ) := fun σ => passAt takes0 σ
/-- .. as a fact of the module -/
structure MtK (K : PySem.W.Frag) (mg : Str → Option Value) (x : Str) (mt : Str → Option Bool) : Prop where
  ex : ∃ c, (mg x = some c ∨ (mg x = none ∧ bootBuiltins x = some c ∧ x ≠ "__name__")) ∧ ∀ C b, mt C = some b → ∀ c', Cl K C c' → PySem.W.exmOne K (.ref c') c = some b
theorem MtK.at {X : Cx} {K : PySem.W.Frag} {x : Str} {mt : Str → Option Bool} (h : MtK K X.mg x mt) (hg : Gl X x) (hd : (x == ("__debug__" : Str)) = false := by decide) : MtC X K x mt := by
  obtain ⟨c, h1, h2⟩ := h.ex
  exact ⟨c, ⟨hg, hd, h1⟩, h2⟩
theorem fput_un {env : Fm} {i : Nat} (h : fput env i .un = env) {B : Bs} {F H : Hp} {σ : L2.St} (s : SR K B F H σ env) : SR K B F H (σ.set i none) env := by
  have := s.setU i none
  rwa [h] at this
theorem SR.setX {B : Bs} {F H : Hp} {σ : L2.St} (s : SR K B F H σ env) {i : Nat} {a d : Addr} {gs : List (Str × D)} {fs : List (Str × V)} (h1 : F d = some (.xd fs)) (h2 : fs.map (·.1) = gs.map (·.1)) (h3 : DrA K F (fs.map (·.2)) (gs.map (·.2))) : SR K B F H (σ.set i (some (.ref a))) (fput env i (.xc a d gs)) := by
  have s0 := s.setU i (some (.ref a))
  have hl := s.len
  by_cases hi : i < env.length
  · refine ⟨s0.ex, s0.ex0, s0.keep, s0.newF, by rw [List.length_set, fput_length]; exact hl, fun j e hj => ?_, fun j a' d' gs' hj => ?_, ?_⟩
    · by_cases q : i = j
      · subst q; rw [fget_self hi] at hj; cases hj
      · refine s0.fz j e ?_
        rw [fget_ne _ _ q] at hj ⊢
        exact hj
    · by_cases q : i = j
      · subst q
        rw [fget_self hi] at hj
        cases hj
        exact ⟨by rw [List.getElem?_set_self (by rw [hl]; exact hi)], fs, h1, h2, h3⟩
      · refine s0.xc j a' d' gs' ?_
        rw [fget_ne _ _ q] at hj ⊢
        exact hj
    · obtain ⟨ft, hf⟩ := s0.own
      have tr : ∀ {j : Nat} {t : Option Nat} {e : D} {f' : List Str}, fget (fput env i (.xc a d gs)) j = .ow t e f' → fget (fput env i .un) j = .ow t e f' := fun {j t e f'} hj => by
        by_cases q : i = j
        · subst q; rw [fget_self hi] at hj; cases hj
        · rw [fget_ne _ _ q] at hj ⊢; exact hj
      exact ⟨ft, fun j t e f' hj => hf.ow j t e f' (tr hj), fun j k t u e g f1 f2 hjk e1 e2 => hf.dis j k t u e g f1 f2 hjk (tr e1) (tr e2)⟩
  · have hsame : ∀ (y : Sl), fput env i y = env := by
      intro y
      have : ∀ (l : Fm) (n : Nat), ¬ n < l.length → fput l n y = l := by
        intro l
        induction l with
        | nil => intro n _; rfl
        | cons z l ih => intro n hn; cases n with
          | zero => exact absurd (Nat.succ_pos _) hn
          | succ n => show z :: fput l n y = z :: l; rw [ih n (by simpa using hn)]
      exact this env i hi
    rw [hsame, List.set_eq_of_length_le (by rw [hl]; omega)]
    exact s
/-- try: .. except x as n: .. -/
theorem ab_try {body suite : List Stmt} {b₀ : Stmt} {x n : Str} {np pos' : Pos} (i : Nat) (uF : Fm) {S βB : Type} (f : S → Fm) (fxB : βB → Fm) (xo : βB → β) {mt : Str → Option Bool} {mB : R βB (TOut S κ.Sb κ.Sc κ.Sr)} {mS : βB → List (Str × D) → R Unit (TOut S κ.Sb κ.Sc κ.Sr)} {k : S → R β ω}
    (hm : MtC X K x mt) (tk : TakesE X E) (hs : X.stack = X.env :: X.outer) (hf : X.env.frame = some X.env.locals) (hN : X.N.Nodup) (hi : X.N[i]? = some n) (hln : X.env.kindOf n = some .local)
    (hb : ∀ (E' : XE) (pn : List (Addr × Obj)) (xe : Value → Shared → Prop), TakesE (X.tr pn xe) E' → PassesOwn (model X.prog X.w) X.A X.env xe → AB (X.tr pn xe) K E' (κ.tryK fxB S f) env body mB)
    (hS : ∀ (a d : Addr) (oe : Obj) (C : Str) (c : Addr) (pn : List (Addr × Obj)) (b : βB) (gs : List (Str × D)), mt C = some true → Cl K C c → Zc (.ref c) (some d) oe → (∃ vs, oe.data = .fields vs) → AB (X.suite a ((a, oe) :: pn)) K E0s (κ.tryK (fun _ : Unit => uF) S f) (fput (fxB b) i (.xc a d gs)) (b₀ :: suite) (mS b gs))
    (hw : ∀ b, Wk (fxB b) (κ.fx (xo b))) (hfi : ∀ s, fput (f s) i .un = f s) (hbi : ∀ s, fput (κ.fb s) i .un = κ.fb s) (hci : ∀ s, fput (κ.fc s) i .un = κ.fc s) (hr : ∀ s, AB X K E κ (f s) rest (k s)) (hK : X.K = K := by rfl) :
    AB X K E κ env (.Try body [.ExceptHandler (some (.Name x np)) (some n) (b₀ :: suite) pos'] [] [] pos :: rest) (R.try' (R.out k κ.kb κ.kc κ.kr) mB fun y b => R.clause mt y (mS b y.fs) (R.out k κ.kb κ.kc κ.kr) (.ex y (xo b))) := by
  subst hK
  obtain ⟨c, hc1, hc2⟩ := hm.ex
  refine ⟨rfl, fun B F H σ Dn G sr gs hG => ⟨_, pss_cons (ps_try_as (tb := fun W => fun D σ H => ∀ pn xe, Takes (X.tr pn xe) W → PassesOwn (model X.prog X.w) X.A X.env xe → tsC (X.tr pn xe) body D σ H)
    (ts := fun a cls d => fun D σ H => ∀ oe pn, Zc cls d oe → (∃ vs, oe.data = .fields vs) → tsC (X.suite a ((a, oe) :: pn)) (b₀ :: suite) D σ H) hs hf hN hi hln hc1 tk
    (fun W pn xe t1 t2 => ⟨fun pins s σ H D I h => ps_C.run pins s σ H D I (h pn xe t1 t2)⟩) (fun a oe cls d pn hz hv => ⟨fun pins s σ H D I h => ps_C.run pins s σ H D I (h oe pn hz hv)⟩)) ps_C, fun pn xe t1 t2 => ?_⟩⟩
  have gs1 := gs.join (S := S) (f := f) (k := k) hr
  refine (hb _ pn xe t1 t2).2 B F H σ { Dn with nx := tsC X rest Dn } (fun m => G (R.try' (R.out k κ.kb κ.kc κ.kr) m fun y b => R.clause mt y (mS b y.fs) (R.out k κ.kb κ.kc κ.kr) (.ex y (xo b)))) sr ⟨gs.no, fun y b hy cls dd F' H' σ' e1 s1 x1 => ?_, fun s h F' H' σ' e1 s1 => gs1.nx s h F' H' σ' e1 s1, fun s h F' H' σ' e1 s1 => gs.bk s h F' H' σ' e1 s1, fun s h F' H' σ' e1 s1 => gs.ct s h F' H' σ' e1 s1, fun d s h v F' H' σ' e1 s1 r1 => gs.rt d s h v F' H' σ' e1 s1 r1⟩ hG
  obtain ⟨c', d, fs, rfl, hcl, rfl, h1, h2, h3⟩ := x1
  have hy : G (R.clause mt y (mS b y.fs) (R.out k κ.kb κ.kc κ.kr) (.ex y (xo b))) := hy
  unfold R.clause at hy
  split at hy
  · rename_i hmt
    refine ⟨true, hc2 _ _ hmt c' hcl, fun _ a ha oe pn' hz hv => ?_, fun z => by cases z⟩
    refine (hS a d oe y.C c' pn' b y.fs hmt hcl hz hv).2 B F' H' _ _ (fun m => G (R.fin m (R.out k κ.kb κ.kc κ.kr))) (s1.setX h1 h2 h3) ⟨gs.no, fun y b hy => (gs.no hy).elim, fun s h F2 H2 σ2 e2 s2 => gs1.nx s h F2 H2 _ (e1.trans e2) (fput_un (hfi s) s2), fun s h F2 H2 σ2 e2 s2 => gs.bk s h F2 H2 _ (e1.trans e2) (fput_un (hbi s) s2), fun s h F2 H2 σ2 e2 s2 => gs.ct s h F2 H2 _ (e1.trans e2) (fput_un (hci s) s2), fun d s h v F2 H2 σ2 e2 s2 r2 => gs.rt d s h v F2 H2 _ (e1.trans e2) s2 r2⟩ hy
  · rename_i hmt
    exact ⟨false, hc2 _ _ hmt c' hcl, fun z => absurd z Bool.false_ne_true, fun _ => gs.ex y _ hy _ _ F' H' σ' e1 (s1.wk (hw b)) ⟨c', d, fs, rfl, hcl, rfl, h1, h2, h3⟩⟩
  · exact (gs.no hy).elim
end
section
variable {X : Cx} {K : PySem.W.Frag} {E : XE} {β γ : Type} {xF : Fm} {xb : β} {env : Fm} {pos p : Pos}
/-- the fields of the classes of errors -/
structure XfD (K : PySem.W.Frag) (mt : Str → Option Bool) (f : Str) : Prop where
  ex : ∀ C, mt C = some true → ∀ c, Cl K C c → XfC K c ∧ PySem.W.findIn K (.ref c) f = some none
/-- e.f, e the error that the suite holds -/
theorem a_xf {mt : Str → Option Bool} {a d c : Addr} {oe : Obj} {pn : List (Addr × Obj)} {gs : List (Str × D)} {f n C : Str} (i : Nat) (T : XfD K mt f) (hmt : mt C = some true) (hC : Cl K C c) (hz : Zc (.ref c) (some d) oe) (hf : ∃ vs, oe.data = .fields vs) (hi : fget env i = .xc a d gs) (hK : X.K = K := by rfl) (hN : X.N[i]? = some n := by rfl)
    (hv : Vis X.env.scope n := by first | exact Or.inl rfl | exact Or.inr (Or.inl rfl) | exact Or.inr (Or.inr rfl)) (hd : (n == ("__debug__" : Str)) = false := by decide) (hcd : (n == ("__classdict__" : Str)) = false := by decide)
    (hb : attributeBase (.Name n p) f X.env (eval (.Name n p) X.env) = eval (.Name n p) X.env := by rfl) :
    AE (X.suite a ((a, oe) :: pn)) K E xF xb env (.Attribute (.Name n p) f pos) (fun (k : D → R β γ) => R.lft (gs.lookup f) k) := by
  subst hK
  obtain ⟨t1, t2⟩ := T.ex C hmt c hC
  refine ⟨rfl, fun B F H σ Q k G s w gx hk hG => ⟨_, pe_xf t1 t2 hz hf (pe_var (X := X.suite a ((a, oe) :: pn)) hN hv hd hcd) hb, ?_⟩⟩
  obtain ⟨h1, fs, h2, h3, h4⟩ := s.xc i a d gs hi
  cases hl : gs.lookup f with
  | none => simp only [hl] at hG; exact (gx.no hG).elim
  | some y =>
    simp only [hl] at hG
    obtain ⟨v, k1, k2⟩ := fld_get h3 h4 hl
    exact ⟨.ref a, h1, rfl, rfl, d, fs, v, rfl, s.ex _ _ h2, k1, hk y v F H hG (Ex.refl F) (Ex.refl H) s k2⟩
end
end DM

/-! More of the built-ins: index. -/
namespace DM
open PySem PySem.Spec PyProof.Rows L2 DL

theorem slot_tuple_index : Slot "tuple" "index" "tuple.index" :=
  .of (owner := "tuple") (n := "index") (by rw [typeLookup_type, builtinLookup_eq_fast]; kernel_rfl) (by decide +kernel) (by decide +kernel) (by decide +kernel) (by first | exact .inl (by decide +kernel) | exact .inr (by decide +kernel)) (by rw [isSubtype_type]; kernel_rfl)
theorem entry_tuple_index : entryFor table "tuple.index" = some Builtin.«tuple.index» := entryFor_of_tree (by kernel_rfl)
theorem args_tuple_index (a b : Value) : argsOk "tuple.index" ⟨[a, b], []⟩ := by unfold argsOk; kernel_rfl
theorem type_tuple_index : typeOf (.builtin "tuple.index") = pure (.type "method_descriptor") := by show builtinType _ = _; rw [builtinType_eq_fast]; kernel_rfl
theorem type_list_index : typeOf (.builtin "list.index") = pure (.type "method_descriptor") := by show builtinType _ = _; rw [builtinType_eq_fast]; kernel_rfl
section
variable {X : Cx}
def rIndexT (K : PySem.W.Frag) : V → List V → Hp → VK → Prop := fun x xs H Q => ∃ (a : Addr) (y : V) (d : PyData) (ds : List PyData) (j : Nat) (z : PyData), x = V.ref a ∧ xs = [y] ∧ Dp K H (V.ref a) (.tuple ds) ∧ Dp K H y d ∧
  SeqAt.shaped (.tuple ds) = true ∧ SeqAt.shaped d = true ∧ ds[j]? = some z ∧ PyData.eqv z d = true ∧ (∀ (m : Nat) (z' : PyData), m < j → ds[m]? = some z' → PyData.eqv z' d = false) ∧ Q (.int (j : Nat)) H
theorem mt_indexT (hu : X.A.units + 65 < cLine) : MtR X "tuple.index" (rIndexT X.K) := by
  intro pins s σ H x xs v us Q I rx rxs h
  obtain ⟨a, y, d, ds, j, z, rfl, rfl, hl, hy, sl, sd, hz, hzj, hno, q⟩ := h
  cases rx
  cases rxs with
  | cons ry rt =>
    rename_i uy ut
    cases rt
    obtain ⟨bs, r1⟩ := Dp.reads I d y uy hy ry
    have hxs : PyData.canLayAll0 ds = true := SeqAt.canLay_of_shaped sl
    have hroom : X.A.units + 1 + min (PyData.depthAll ds) d.depth < cLine := room_in_shaped sd hu
    cases hl with
    | tup hs ha =>
      obtain ⟨its, rv, ⟨⟨cls, dd, data, sls⟩, ho, hc, n, hdt⟩, hlen⟩ := I.tuple hs
      simp only at hc hdt
      subst hc hdt
      obtain ⟨as, h4⟩ := Dp.readsAll I ds _ its ha rv
      have hn : its.length = ds.length := SeqAt.ReadsAll.length ds its as h4
      have hmap : its.map (SeqAt.readOf s.heap) = ds := SeqAt.readsAll_map ds its as hxs h4
      obtain ⟨hjd, _⟩ := List.getElem?_eq_some_iff.mp hz
      have hj : j < its.toArray.size := by rw [List.size_toArray]; omega
      have eqj : ∀ (m : Nat) (hm : m < its.toArray.size) (z' : PyData), ds[m]? = some z' → SeqAt.readOf s.heap its.toArray[m] = z' := fun m hm z' hz' => by
        have hml : m < its.length := by rwa [List.size_toArray] at hm
        rw [← hmap, List.getElem?_map, List.getElem?_eq_getElem hml] at hz'
        exact Option.some.inj hz'
      have eqs := SeqAt.items_eqAt (vs := its.toArray) (show ReadsAll s.heap its.toArray.toList ds as from h4) r1 hxs (SeqAt.canLay_of_shaped sd) hroom
      refine call_meets slot_tuple_index ⟨_, ho, rfl⟩ entry_tuple_index (args_tuple_index _ _)
        (SeqAt.tuple_index2_found a its.toArray n dd sls uy (fun m => PyData.eqv (SeqAt.readOf s.heap (its.toArray.getD m .none)) d) j hj (Nat.zero_le _) hj ?_ ?_) ⟨ho, fun m hm => ?_, ?_⟩
      · show PyData.eqv (SeqAt.readOf s.heap (its.toArray.getD j .none)) d = true
        rw [Array.getD_eq_getD_getElem?, Array.getElem?_eq_getElem hj, Option.getD_some, eqj j hj z hz]
        exact hzj
      · intro m hm _ hmj
        have hmd : m < ds.length := by rw [List.size_toArray] at hm; omega
        show PyData.eqv (SeqAt.readOf s.heap (its.toArray.getD m .none)) d = false
        rw [Array.getD_eq_getD_getElem?, Array.getElem?_eq_getElem hm, Option.getD_some, eqj m hm _ (List.getElem?_eq_getElem hmd)]
        exact hno m _ hmj (List.getElem?_eq_getElem hmd)
      · have := eqs its.toArray[m] (Array.getElem_mem hm)
        simp only [Array.getD_eq_getD_getElem?, Array.getElem?_eq_getElem hm, Option.getD_some]
        exact this
      · exact ⟨.int (j : Nat), H, I.tok _, ⟨_, rfl⟩, q⟩
end

theorem tq_is {X : Cx} {pins : List (Addr × Obj)} {σ : L2.St} {H : Hp} {s : Shared} {a : Addr} {xs : List V} (I : Inv X pins σ H s) (h : TqT X.K H a xs) : s.TypeIs (.ref a) "tuple" ∧ ∀ b, Value.ref a = .ref b → ∃ ob, s.heap.get? b = some ob ∧ ob.dict = none := by
  rcases h with ⟨o, h, hd⟩ | ⟨o, its, n, h1, h2, h3, _⟩
  · obtain ⟨g, _, us, _, o', g', hc, _⟩ := (show ObjOk X.prog X.w H s.heap a (.frz o (.tup xs)) from I.hok a _ h)
    rw [g] at g'
    cases g'
    exact ⟨⟨o, g, hc⟩, fun b e => by cases e; exact ⟨o, g, hd⟩⟩
  · exact ⟨⟨o, I.kIn _ _ h1, h2⟩, fun b e => by cases e; exact ⟨o, I.kIn _ _ h1, h3⟩⟩
/-- a method of one of two built-in types -/
theorem pe_bm2 {X : Cx} {o e : Expr} {es : List Expr} {to : TE} {t : TA} {name : Str} {apos cpos : Pos} {T id id' : String} {r r' : V → List V → Hp → VK → Prop}
    (p1 : PlainAttrs T) (s1 : Slot T name id) (t1 : typeOf (.builtin id) = pure (.type "method_descriptor")) (m1 : MtR X id r) (p2 : PlainAttrs "tuple") (s2 : Slot "tuple" name id') (t2 : typeOf (.builtin id') = pure (.type "method_descriptor")) (m2 : MtR X id' r') (ho : PE X o to) (ha : PA X (e :: es) t)
    (hbase : attributeBase o name X.env (eval o X.env) = eval o X.env) (hfew : ((backTo cpos (starEach (e :: es) X.env)).all (fun x => !x.1) && (backToKw cpos (keywordEach [] X.env)).all (fun x => x.1.isSome)
      && decide ((e :: es).length + ([] : List Keyword).length + (if ([] : List Keyword).isEmpty then 0 else 1) < 30)) = true) (hline : (apos.endLine == cpos.line) = true) (hs : starEach (e :: es) X.env = (false, eval e X.env) :: starEach es X.env) (hplain : (backTo cpos (starEach es X.env)).any (·.1) = false) :
    PE X (.Call (.Attribute o name apos) (e :: es) [] cpos) (fun σ H Q => to σ H fun x H1 => (tyV X.K T x H1 ∧ t σ H1 fun xs H2 => r x xs H2 Q) ∨ ((∃ a xs, x = .ref a ∧ TqT X.K H1 a xs) ∧ t σ H1 fun xs H2 => r' x xs H2 Q)) := by
  refine ⟨fun pins s σ H Q I h => wpAny_Call_method_late hbase hfew hline rfl (thn (ho.run pins s σ H _ I h) fun v q ⟨x, H1, I1, r1, hor⟩ => ?_)⟩
  have go : ∀ {T0 id0 : String} {r0 : V → List V → Hp → VK → Prop}, MtR X id0 r0 → (t σ H1 fun xs H2 => r0 x xs H2 Q) → wpAny (model X.prog X.w) X.A (callWith cpos (.builtin id0) [v] (backTo cpos (starEach (e :: es) X.env)) []) (EP X pins σ Q) X.xe q := fun {T0 id0 r0} hm q1 => by
    have hA := ha.run cpos pins q σ H1 _ I1 q1
    rw [hs] at hA ⊢
    exact Calls.callWith_builtin (by show (false || (backTo cpos (starEach es X.env)).any (·.1)) = false; rw [hplain] <;> rfl) (Calls.evalArgs_plain (thn hA fun us s2 ⟨vs, H2, I2, r2, q2⟩ => hm pins s2 σ H2 x vs v us Q I2 r1 r2 q2))
  rcases hor with ⟨ty, q1⟩ | ⟨ty, q1⟩
  · obtain ⟨h1, h2⟩ := tyV_is I1 r1 ty
    exact ⟨T, id, p1, s1, t1, h1, h2, go (T0 := T) m1 q1⟩
  · obtain ⟨a, xs, rfl, ty⟩ := ty
    cases r1
    obtain ⟨h1, h2⟩ := tq_is I1 ty
    exact ⟨"tuple", id', p2, s2, t2, h1, h2, go (T0 := "tuple") m2 q1⟩
def idxD (y : D) (ds : List D) : Option Nat := (pds ds).findIdx? fun z => PyData.eqv z (pd y)
def idxG : D → List D → Option D := fun x as => match x, as with
  | .lst ds, [y] => if shp y && shp (.lst ds) then (idxD y ds).map fun j => .int (j : Nat) else none
  | .tup ds, [y] => if shp y && shp (.tup ds) then (idxD y ds).map fun j => .int (j : Nat) else none
  | _, _ => none
theorem idx_core {y : D} {ds : List D} {j : Nat} (h : idxD y ds = some j) : ∃ z, (pds ds)[j]? = some z ∧ PyData.eqv z (pd y) = true ∧ ∀ (m : Nat) (z' : PyData), m < j → (pds ds)[m]? = some z' → PyData.eqv z' (pd y) = false := by
  unfold idxD at h
  obtain ⟨hj, h1, h2⟩ := List.findIdx?_eq_some_iff_getElem.mp h
  refine ⟨_, List.getElem?_eq_getElem hj, h1, fun m z' hm hz => ?_⟩
  obtain ⟨hl, rfl⟩ := List.getElem?_eq_some_iff.mp hz
  simpa using h2 m hm
theorem dpAll_of {K : PySem.W.Frag} {F H : Hp} (e : Ex F H) {ys : List V} {ds : List D} (h : DrA K F ys ds) : PyData.canLayAll0 (pds ds) = true → DpAll K H ys (pds ds) := by
  induction h using DrA.rec (motive_1 := fun _ _ _ => True) with
  | nil => intro _; rw [pds]; exact .nil
  | cons h1 h2 _ ih =>
    intro hc
    rw [pds] at hc ⊢
    rw [PyData.canLayAll0, Bool.and_eq_true] at hc
    exact .cons ((h1.mono e).pd hc.1) (ih hc.2)
  | _ => trivial
section
variable {X : Cx} {K : PySem.W.Frag} {E : XE} {β γ : Type} {xF : Fm} {xb : β} {env : Fm} {e o : Expr} {p pos apos : Pos} {c1 : (D → R β γ) → R β γ} {cs : (List D → R β γ) → R β γ}
/-- x.index(y) -/
theorem a_idx (hu : X.A.units + 65 < cLine) (h : AL X K E xF xb env o c1) (ha : AAL X K E xF xb env [e] cs) (hbase : attributeBase o "index" X.env (eval o X.env) = eval o X.env := by rfl)
    (hfew : ((backTo pos (starEach [e] X.env)).all (fun x => !x.1) && (backToKw pos (keywordEach [] X.env)).all (fun x => x.1.isSome)
      && decide (([e] : List Expr).length + ([] : List Keyword).length + (if ([] : List Keyword).isEmpty then 0 else 1) < 30)) = true := by rfl) (hline : (apos.endLine == pos.line) = true := by rfl) (hs : starEach [e] X.env = (false, eval e X.env) :: starEach [] X.env := by rfl) :
    AE X K E xF xb env (.Call (.Attribute o "index" apos) [e] [] pos) (fun (k : D → R β γ) => c1 fun x => R.asQ x fun _ => cs fun as => R.lft (idxG x as) k) := by
  have hK := h.1
  subst hK
  refine ⟨rfl, fun B F H σ Q k G s w gx hk hG => ⟨_, pe_bm2 PySem.F.plainAttrs_list PySem.F.slot_list_index type_list_index (mt_indexD hu) PySem.F.plainAttrs_tuple slot_tuple_index type_tuple_index (mt_indexT hu) pe_C pa_C hbase hfew hline hs rfl, ?_⟩⟩
  refine h.2 B F H σ _ _ G s w gx (fun x v F1 H1 h1 e1 eh1 s1 d1 => ?_) hG
  cases x <;> first | exact (gx.no h1).elim | skip
  · rename_i ds
    obtain ⟨a, xs, rfl, g1, g2⟩ := d1.lst s1.ex
    refine Or.inl ⟨Or.inl ⟨rfl, xs, g1⟩, ha.2 B F1 H1 σ _ _ G s1 w (gx.mono e1) (fun as vs F2 H2 h2 e2 eh2 s2 d2 => ?_) h1⟩
    match as, vs, d2, h2 with
    | [y], [u], d2, h2 =>
      have h2 : G (R.lft (if shp y && shp (.lst ds) then (idxD y ds).map fun j => D.int (j : Nat) else none) k) := h2
      split at h2
      · rename_i hc
        rw [Bool.and_eq_true] at hc
        cases hi : idxD y ds with
        | none => rw [hi] at h2; exact (gx.no h2).elim
        | some j =>
          rw [hi] at h2
          obtain ⟨z, z1, z2, z3⟩ := idx_core hi
          have hsl : SeqAt.shaped (.list (pds ds)) = true := by have := hc.2; unfold shp at this; rwa [pd] at this
          exact ⟨a, u, pd y, pds ds, j, z, rfl, rfl, .lst (eh2.sl g1) (dpAll_of s2.ex (g2.mono e2) (SeqAt.canLay_of_shaped hsl)), (d2.1.all s2.ex).pd (SeqAt.canLay_of_shaped hc.1), hsl, hc.1, z1, z2, z3, hk _ _ F2 H2 h2 (e1.trans e2) (eh1.trans eh2) s2 (.int _)⟩
      · exact (gx.no h2).elim
    | [], _, _, h2 => exact (gx.no h2).elim
    | _ :: _ :: _, _, _, h2 => exact (gx.no h2).elim
    | [_], [], d2, _ => exact d2.elim
    | [_], _ :: _ :: _, d2, _ => exact d2.2.elim
  · rename_i ds
    obtain ⟨a, xs, rfl, g0, g2⟩ := d1.tupZ s1.ex
    have g1 := g0.sq
    refine Or.inr ⟨⟨a, xs, rfl, g0⟩, ha.2 B F1 H1 σ _ _ G s1 w (gx.mono e1) (fun as vs F2 H2 h2 e2 eh2 s2 d2 => ?_) h1⟩
    match as, vs, d2, h2 with
    | [y], [u], d2, h2 =>
      have h2 : G (R.lft (if shp y && shp (.tup ds) then (idxD y ds).map fun j => D.int (j : Nat) else none) k) := h2
      split at h2
      · rename_i hc
        rw [Bool.and_eq_true] at hc
        cases hi : idxD y ds with
        | none => rw [hi] at h2; exact (gx.no h2).elim
        | some j =>
          rw [hi] at h2
          obtain ⟨z, z1, z2, z3⟩ := idx_core hi
          have hsl : SeqAt.shaped (.tuple (pds ds)) = true := by have := hc.2; unfold shp at this; rwa [pd] at this
          exact ⟨a, u, pd y, pds ds, j, z, rfl, rfl, .tup (eh2.st g1) (dpAll_of s2.ex (g2.mono e2) (SeqAt.canLay_of_shaped hsl)), (d2.1.all s2.ex).pd (SeqAt.canLay_of_shaped hc.1), hsl, hc.1, z1, z2, z3, hk _ _ F2 H2 h2 (e1.trans e2) (eh1.trans eh2) s2 (.int _)⟩
      · exact (gx.no h2).elim
    | [], _, _, h2 => exact (gx.no h2).elim
    | _ :: _ :: _, _, _, h2 => exact (gx.no h2).elim
    | [_], [], d2, _ => exact d2.elim
    | [_], _ :: _ :: _, d2, _ => exact d2.2.elim
end

/-! ### sorted, whole numbers -/
def intsOf : List D → Option (List Int)
  | [] => some []
  | .int i :: ds => (intsOf ds).map fun ns => i :: ns
  | _ :: _ => none
theorem intsOf_eq : ∀ {ds : List D} {ns : List Int}, intsOf ds = some ns → ds = ns.map .int
  | [], ns, h => by cases h; rfl
  | d :: ds, ns, h => by
    cases d <;> try cases h
    rename_i i
    unfold intsOf at h
    cases q : intsOf ds with
    | none => rw [q] at h; cases h
    | some ms => rw [q] at h; cases h; rw [intsOf_eq q]; rfl
theorem drA_ints {K : PySem.W.Frag} {F : Hp} : ∀ {xs : List V} {ns : List Int}, DrA K F xs (ns.map .int) → xs = ns.map V.int
  | _, [], h => by cases h; rfl
  | _, n :: ns, h => by
    cases h with
    | cons h1 h2 =>
      cases h1
      rw [drA_ints h2]; rfl
theorem ints_drA {K : PySem.W.Frag} {F : Hp} : ∀ (ns : List Int), DrA K F (ns.map V.int) (ns.map .int)
  | [] => .nil
  | n :: ns => .cons (.int n) (ints_drA ns)
abbrev sortL (ns : List Int) : List Int := PySem.W.sortI ns
theorem sortL_is {ns ms : List Int} (hp : ms.Perm ns) (hs : ms.Pairwise (· ≤ ·)) : ms = sortL ns := PySem.W.eq_sortI hp hs
def sortG : List D → Option D
  | [.lst ds] => (intsOf ds).map fun ns => .lst ((sortL ns).map .int)
  | _ => none
theorem cn_sorted {K : PySem.W.Frag} : CallN K (rSortedI K) sortG := by
  intro B F H σ env xs as c Q s hx hg q
  unfold sortG at hg
  split at hg
  · rename_i ds
    cases hn : intsOf ds with
    | none => rw [hn] at hg; cases hg
    | some ns =>
      rw [hn] at hg
      cases hg
      obtain ⟨v, rfl, hv⟩ := hx.one
      obtain ⟨a, ys, rfl, h1, h2⟩ := hv.lst s.ex
      rw [intsOf_eq hn] at h2
      rw [drA_ints h2] at h1
      refine ⟨a, ns, rfl, h1, fun ms p hp hs hl => ?_⟩
      rw [sortL_is hp hs]
      exact q _ F _ (Ex.refl F) (Ex.new hl) (s.newN hl (Do.lst (ints_drA _))).1 (s.newN hl (Do.lst (ints_drA _))).2
  · cases hg
section
variable {X : Cx} {K : PySem.W.Frag} {E : XE} {β γ : Type} {xF : Fm} {xb : β} {env : Fm} {e : Expr} {es : List Expr} {p pos : Pos} {cs : (List D → R β γ) → R β γ} {id : String} {x : Str} {r : List V → Hp → VK → Prop} {g : List D → Option D}
theorem a_callBN (hc : CallR X (.builtin id) r) (hd : CallN K r g) (hv : bootBuiltins x = some (.builtin id)) (hm : X.mg x = none) (hg : Gl X x) (ha : AAL X K E xF xb env (e :: es) cs) (hn : x ≠ "__name__" := by decide) (hdb : (x == ("__debug__" : Str)) = false := by decide)
    (he : starEach (e :: es) X.env = (false, eval e X.env) :: starEach es X.env := by rfl) (hpl : (backTo pos (starEach es X.env)).any (·.1) = false := by rfl) : AN X K E xF xb env [] (.Call (.Name x p) (e :: es) [] pos) (fun (k : D → R β γ) => cs fun ds => R.lft (g ds) k) :=
  ⟨ha.1, fun B F H σ Q k G s w gx hk hG => ⟨_, pe_callB hc hg hm hv pa_C hn hdb he hpl, aj_callN hd ha B F H σ Q k G s w gx hk hG⟩⟩
theorem cr_sorted' (hK : X.K = K := by rfl) : CallR X (.builtin "sorted") (rSortedI K) := hK ▸ cr_sortedI
end

/-! ### x in a dict of the module -/
def R.asS {β γ : Type} (d : D) (k : Str → R β γ) : R β γ := match d with
  | .str z => k z
  | _ => .no
structure KdC (K : PySem.W.Frag) (w : World) (mg : Str → Option Value) (x : Str) (ks : List Str) : Prop where
  ex : ∃ d es n, mg x = some (.ref d) ∧ KDict K w d es n ∧ ∀ z, ∃ r, PySem.W.nsIn K d z = some r ∧ r.isSome = ks.contains z
section
variable {X : Cx} {E : XE} {β γ : Type} {xF : Fm} {xb : β} {env : Fm} {e : Expr} {p pos : Pos} {x : Str} {ks : List Str} {c1 : (D → R β γ) → R β γ}
theorem a_inK (g : KdC X.K X.w X.mg x ks) (hg : Gl X x) (ha : AL X X.K E xF xb env e c1) (hdb : (x == ("__debug__" : Str)) = false := by decide) :
    AE X X.K E xF xb env (.Compare e [.In] [.Name x p] pos) (fun (k : D → R β γ) => c1 fun d => R.asS d fun z => k (.bl (ks.contains z))) :=
  ⟨rfl, fun B F H σ Q k G s w gx hk hG => by
    obtain ⟨d, es, n, h1, h2, h3⟩ := g.ex
    refine ⟨_, pe_cmpR (op_in_kd h2) pe_C (pe_glob (v := .ref d) hg h1 rfl hdb) rfl, ha.2 B F H σ _ _ G s w gx (fun d' v F1 H1 g1 e1 eh1 s1 d1 => ?_) hG⟩
    cases d' <;> first | exact (gx.no g1).elim | skip
    rename_i z
    obtain ⟨r, r1, r2⟩ := h3 z
    exact ⟨z, r, d1.str, rfl, r1, by rw [r2]; exact hk _ _ F1 H1 g1 e1 eh1 s1 (.bl _)⟩⟩
theorem a_notInK (g : KdC X.K X.w X.mg x ks) (hg : Gl X x) (ha : AL X X.K E xF xb env e c1) (hdb : (x == ("__debug__" : Str)) = false := by decide) :
    AE X X.K E xF xb env (.Compare e [.NotIn] [.Name x p] pos) (fun (k : D → R β γ) => c1 fun d => R.asS d fun z => k (.bl (!ks.contains z))) :=
  ⟨rfl, fun B F H σ Q k G s w gx hk hG => by
    obtain ⟨d, es, n, h1, h2, h3⟩ := g.ex
    refine ⟨_, pe_cmpR (op_notIn_kd h2) pe_C (pe_glob (v := .ref d) hg h1 rfl hdb) rfl, ha.2 B F H σ _ _ G s w gx (fun d' v F1 H1 g1 e1 eh1 s1 d1 => ?_) hG⟩
    cases d' <;> first | exact (gx.no g1).elim | skip
    rename_i z
    obtain ⟨r, r1, r2⟩ := h3 z
    exact ⟨z, r, d1.str, rfl, r1, by rw [r2]; exact hk _ _ F1 H1 g1 e1 eh1 s1 (.bl _)⟩⟩
theorem at_inK (g : KdC X.K X.w X.mg x ks) (hg : Gl X x) (ha : AL X X.K E xF xb env e c1) (hdb : (x == ("__debug__" : Str)) = false := by decide) :
    AT X X.K E xF xb env (.Compare e [.In] [.Name x p] pos) (fun (k : Bool → R β γ) => c1 fun d => R.asS d fun z => k (ks.contains z)) :=
  ⟨rfl, fun B F H σ Q k G s w gx hk hG => by
    obtain ⟨d, es, n, h1, h2, h3⟩ := g.ex
    refine ⟨_, pt_cmpR (op_in_kd h2) pe_C (pe_glob (v := .ref d) hg h1 rfl hdb) rfl, ha.2 B F H σ _ _ G s w gx (fun d' v F1 H1 g1 e1 eh1 s1 d1 => ?_) hG⟩
    cases d' <;> first | exact (gx.no g1).elim | skip
    rename_i z
    obtain ⟨r, r1, r2⟩ := h3 z
    exact ⟨z, r, d1.str, rfl, r1, ⟨_, rfl, hk _ _ F1 H1 g1 e1 eh1 s1 (by rw [r2])⟩⟩⟩
theorem at_notInK (g : KdC X.K X.w X.mg x ks) (hg : Gl X x) (ha : AL X X.K E xF xb env e c1) (hdb : (x == ("__debug__" : Str)) = false := by decide) :
    AT X X.K E xF xb env (.Compare e [.NotIn] [.Name x p] pos) (fun (k : Bool → R β γ) => c1 fun d => R.asS d fun z => k (!ks.contains z)) :=
  ⟨rfl, fun B F H σ Q k G s w gx hk hG => by
    obtain ⟨d, es, n, h1, h2, h3⟩ := g.ex
    refine ⟨_, pt_cmpR (op_notIn_kd h2) pe_C (pe_glob (v := .ref d) hg h1 rfl hdb) rfl, ha.2 B F H σ _ _ G s w gx (fun d' v F1 H1 g1 e1 eh1 s1 d1 => ?_) hG⟩
    cases d' <;> first | exact (gx.no g1).elim | skip
    rename_i z
    obtain ⟨r, r1, r2⟩ := h3 z
    exact ⟨z, r, d1.str, rfl, r1, ⟨_, rfl, hk _ _ F1 H1 g1 e1 eh1 s1 (by rw [r2])⟩⟩⟩
end
end DM

/-! enumerate of a tuple. -/
namespace DM
open PySem PySem.Spec PyProof.Rows L2 DL
theorem meets_enum_tup (l : Addr) (items : Array Value) (n : Nat) (dct : Option Addr) (sl : Array (Option Value)) :
    Meets (Builtin.«enumerate.__new__» ⟨[.type "enumerate", .ref l], []⟩) (fun _ R s => s.heap.get? l = some { cls := .type "tuple", dict := dct, data := .seq items n, slots := sl } ∧
      R (.ok (.ret (.ref (s.heap.push { cls := .type "tuple_iterator", data := .fields #[.ref l, .int 0 0] }).objs.size)))
        { s with heap := (s.heap.push { cls := .type "tuple_iterator", data := .fields #[.ref l, .int 0 0] }).push { cls := .type "enumerate", data := .fields #[.none, .bool false, .ref s.heap.objs.size, rawInt 0, .none, .none] } }) :=
  .of_wp fun prog w A R s h => by
    obtain ⟨hp, g, d, tk, os⟩ := s; obtain ⟨hl, h⟩ := h
    have hsub := sub_enumerate
    have hL : Heap.IsTuple (Shared.heap ⟨hp, g, d, tk, os⟩) l items := ⟨_, hl, rfl, n, rfl⟩
    wp_walk using wpAny_loadPart' hl
    refine wpAny_stack_any fun st => wpAny_pure ?_
    split
    · rename_i c _ _ _ _ _
      cases (c == Value.type "enumerate") <;> (wp_walk using wpAny_loadPart' hl, wpAny_pyIter_tuple hL; exact ⟨_, rfl, h⟩)
    · wp_walk using wpAny_loadPart' hl, wpAny_pyIter_tuple hL
      exact ⟨_, rfl, h⟩
theorem call_enum_tup {prog : Program} {w : World} {A : Around} {E : Value → Shared → Prop} {s : Shared} {l : Addr} {items : Array Value} {Q : Value → Shared → Prop} (hL : s.heap.IsTuple l items)
    (h : ∀ h', IsEnum h' (s.heap.objs.size + 1) s.heap.objs.size 0 .none → h'.IsTupleIter s.heap.objs.size l 0 → h'.IsTuple l items → (∀ b o, s.heap.get? b = some o → h'.get? b = some o) → Q (.ref (s.heap.objs.size + 1)) { s with heap := h' }) :
    wpAny (model prog w) A (call (.type "enumerate") [.ref l]) Q E s := by
  have hL0 := hL
  obtain ⟨⟨c, dct, dt, sl⟩, hl, hc, n, hd⟩ := hL
  simp only at hc hd
  subst hc hd
  refine callType_new F.called_enumerate (by decide) (F.typeCall_enumerate_1 _) (F.newCall_enumerate_1 _) (fun obj => F.args_object_init_2 obj _) F.entry_enumerate_new (meets_enum_tup l items n dct sl) ⟨hl, ?_⟩
  have kp : ∀ b o, s.heap.get? b = some o → ((s.heap.push { cls := .type "tuple_iterator", data := .fields #[.ref l, .int 0 0] }).push { cls := .type "enumerate", data := .fields #[.none, .bool false, .ref s.heap.objs.size, rawInt 0, .none, .none] }).get? b = some o := fun b o e => Heap.get?_push_of_some _ (Heap.get?_push_of_some _ e)
  have hz : (s.heap.push { cls := .type "tuple_iterator", data := .fields #[.ref l, .int 0 0] }).objs.size = s.heap.objs.size + 1 := Heap.size_push ..
  have he : IsEnum ((s.heap.push { cls := .type "tuple_iterator", data := .fields #[.ref l, .int 0 0] }).push { cls := .type "enumerate", data := .fields #[.none, .bool false, .ref s.heap.objs.size, rawInt 0, .none, .none] }) (s.heap.objs.size + 1) s.heap.objs.size 0 .none := by
    have q := Heap.get?_push_size (s.heap.push { cls := .type "tuple_iterator", data := .fields #[.ref l, .int 0 0] }) (o := { cls := .type "enumerate", data := .fields #[.none, .bool false, .ref s.heap.objs.size, rawInt 0, .none, .none] }) rfl
    rwa [hz] at q
  show _ ∧ _
  rw [hz]
  exact ⟨⟨_, he, rfl⟩, h _ he ⟨_, Heap.get?_push_of_some _ (Heap.get?_push_size _ rfl), rfl, rfl⟩ ⟨_, kp _ _ hl, rfl, n, rfl⟩ kp⟩
def ItU (K : PySem.W.Frag) (a : Addr) (xs : List V) : It where
  go := fun i H => SqT K H a xs ∧ ∃ x, xs[i]? = some x
  yld := fun i H v H' => ∃ T o x, v = .ref T ∧ H T = none ∧ o.dict = none ∧ H' = upd H T (.frz o (.tup [.int (i : Nat), x])) ∧ xs[i]? = some x
  stop := fun i H => SqT K H a xs ∧ xs.length ≤ i
theorem turn_enumU {P : Program} {w : World} {K : PySem.W.Frag} {elts : List Expr} {kk : Nat} {tpos : Pos} (a e it : Addr) (xs : List V) :
    Turn P w K (.Tuple elts kk tpos) (ItU K a xs) [e, it] e (fun i h => (∃ old, IsEnum h e it ((i : Nat) : Int) old) ∧ h.IsTupleIter it a i ∧ e ≠ it ∧ a ≠ it ∧ e ≠ a ∧ i ≤ xs.length) where
  mem := List.mem_cons_self
  obj := fun i h st b hb => by
    obtain ⟨⟨old, he⟩, ⟨o, ho, hc, hd⟩, _⟩ := st
    rcases List.mem_cons.mp hb with z | z
    · rw [z]; exact ⟨_, he, fun v q => nomatch q⟩
    · rw [List.mem_singleton.mp z]; exact ⟨o, ho, fun v q => by rw [hd] at q; cases q⟩
  keep := fun i h h' st k => ⟨let ⟨old, he⟩ := st.1; ⟨old, k e List.mem_cons_self _ he⟩, st.2.1.at fun o q => k it (by simp) o q, st.2.2⟩
  item := by
    intro X hP hw hK hc i pins s σ H E I hf st hg
    subst hP hw hK
    obtain ⟨⟨old, he⟩, hit, hne, hai, hea, hle⟩ := st
    obtain ⟨hq, x, hx⟩ := hg
    obtain ⟨its, rv, pl, hz⟩ := I.tuple hq
    obtain ⟨u, hu, ru⟩ := rv.get hx
    have hlt : i < its.toArray.size := by rw [List.size_toArray]; exact (List.getElem?_eq_some_iff.mp hu).1
    have big : ∀ b ∈ [e, it], b < s.heap.objs.size := fun b hb => by
      rcases List.mem_cons.mp hb with z | z
      · rw [z]; exact Heap.lt_size he
      · obtain ⟨_, q, _⟩ := hit
        rw [List.mem_singleton.mp z]; exact Heap.lt_size q
    refine wpAny_pyNext_enum_itemD (PySem.Draws.tuple (A := X.A.in1) (I.ok.hd hc) it a hai its.toArray) he ⟨hit, pl⟩ hlt hne (by simp [hne, hea]) fun y h1 tk hy ho hst hT hsz hk => ?_
    have hyu : y = u := by
      rw [List.getElem?_toArray, hu] at hy
      exact (Option.some.inj hy).symm
    subst hyu
    refine ⟨_, rfl, wpAny_letOwnedTupleGo_enum (s := { s with heap := h1, toks := tk + 1 }) ho fun h2 he' sb => ?_⟩
    have hT2 := (sb.2 _ (Nat.ne_of_gt (big e List.mem_cons_self))).trans hT
    refine ⟨.ref s.heap.objs.size, upd H s.heap.objs.size (.frz _ (.tup [.int (i : Nat), x])), I.turnedNew (ch := [e, it]) (fun b ob hb q => (sb.2 b (fun z => hb (by simp [z]))).trans (hk b ob (fun z => hb (by simp [z])) (fun z => hb (by simp [z])) q)) hf (Nat.le_refl _)
      (show _ = _ ∧ _ from ⟨hT2, (by decide : 2 ≤ sizeLine), [.int i tk, y], .cons ⟨_, rfl⟩ (.cons ru .nil), _, hT2, rfl, _, rfl⟩), rfl, ⟨_, _, x, rfl, I.hok.fresh (Nat.le_refl _), rfl, rfl, hx⟩, ⟨⟨y, by push_cast; exact he'⟩, hst.1.at fun o q => (sb.2 it (Ne.symm hne)).trans q, hne, hai, hea, (List.getElem?_eq_some_iff.mp hx).1⟩, fun b hb => ?_⟩
    rw [upd_ne (Nat.ne_of_lt (big b hb))]
    exact (hf b hb).1
  done := by
    intro X hP hw hK hc i pins s σ H E I hf st hg
    subst hP hw hK
    obtain ⟨⟨old, he⟩, hit, hne, hai, hea, hle⟩ := st
    obtain ⟨hq, hx⟩ := hg
    obtain ⟨its, rv, pl, hz⟩ := I.tuple hq
    obtain ⟨f0, f1, f2, f3, f4, f5⟩ := hf it (by simp)
    have hsz : its.toArray.size = i := by rw [List.size_toArray, ← rv.length]; exact Nat.le_antisymm hx hle
    have D := PySem.Draws.tuple (prog := X.prog) (w := X.w) (A := X.A.in1) (I.ok.hd hc) it a hai its.toArray
    exact wpAny_pyNext_enum_endD D he (by rw [hsz]; exact ⟨hit, pl⟩) fun h' eb => ⟨rfl, I.turned (t' := s.toks) (fun b o hb q => eb b o hb q) f0 f1 f3 f4 f5⟩
  self := fun A i s Q E st h => let ⟨⟨_, he⟩, _⟩ := st; wpAny_pyIter_enum he h
section
variable {X : Cx} {K : PySem.W.Frag} {E : XE} {β γ : Type} {xF : Fm} {xb : β} {env : Fm} {tg e a b : Expr} {pos p : Pos} {c1 c2 : (D → R β γ) → R β γ}
theorem fp2 {pins : List (Addr × Obj)} {σ : L2.St} {H : Hp} {s : Shared} (I : Inv X pins σ H s) : ∀ b ∈ [s.heap.objs.size + 1, s.heap.objs.size], FpOk X pins H b := fun b hb => by
  have hle : s.heap.objs.size ≤ b := by
    rcases List.mem_cons.mp hb with z | z
    · rw [z]; exact Nat.le_succ _
    · rw [List.mem_singleton.mp z]; exact Nat.le_refl _
  exact I.fpOk hle (I.hok.fresh hle)
theorem pi_enumA {ta : TA} {elts : List Expr} {kk : Nat} {tpos : Pos} (hg : Gl X "enumerate") (hm : X.mg "enumerate" = none) (ha : PA X [e] ta) (hs : starEach [e] X.env = [(false, eval e X.env)] := by rfl) :
    PI X (.Tuple elts kk tpos) (.Call (.Name "enumerate" p) [e] [] pos) (fun σ H R => ta σ H fun vs H1 => ∃ a xs, vs = [.ref a] ∧ ((SqL X.K H1 a xs ∧ R (ItE X.K a) H1) ∨ (SqT X.K H1 a xs ∧ R (ItU X.K a xs) H1))) := by
  refine ⟨fun pins s σ H R I h => Call_ (ld_blt I hg hm boot_enumerate (PyProof.Rows.callWith_type1 (thn (ha.run pos pins s σ H _ I h) fun us s1 ⟨vs, H1, I1, r1, q1⟩ => ?_) hs rfl))⟩
  obtain ⟨a, xs, rfl, hor⟩ := q1
  obtain ⟨u, rfl, ru⟩ := vals1 r1
  cases ru
  rcases hor with ⟨hq, q⟩ | ⟨hq, q⟩
  · obtain ⟨its, rv, pl, hz⟩ := I1.list hq
    exact call_enumerate_list pl.isList fun h' he hit hsz hk => wpAny_pyIter_enum he ⟨s1.heap.objs.size + 1, [s1.heap.objs.size + 1, s1.heap.objs.size], _, _, H1, rfl, I1.kept (t' := s1.toks) hk, turn_enumZ a (s1.heap.objs.size + 1) s1.heap.objs.size, ⟨⟨.none, he⟩, hit, Nat.succ_ne_self _⟩, fp2 I1, q⟩
  · obtain ⟨its, rv, pl, hz⟩ := I1.tuple hq
    have hlt : a < s1.heap.objs.size := by obtain ⟨o, ho, _⟩ := pl; exact Heap.lt_size ho
    exact call_enum_tup pl fun h' he hit _ hk => wpAny_pyIter_enum he ⟨s1.heap.objs.size + 1, [s1.heap.objs.size + 1, s1.heap.objs.size], _, _, H1, rfl, I1.kept (t' := s1.toks) hk, turn_enumU a (s1.heap.objs.size + 1) s1.heap.objs.size xs, ⟨⟨.none, he⟩, hit, Nat.succ_ne_self _, Nat.ne_of_lt hlt, Nat.ne_of_gt (Nat.lt_succ_of_lt hlt), Nat.zero_le _⟩, fp2 I1, q⟩
theorem rI_enumU {F : Hp} {q : Addr} {xs : List V} {ds : List D} (h1 : SqT K F q xs) (h2 : DrA K F xs ds) : rI K F (ItU K q xs) (enumD ds) := by
  intro F2 H2 e2 e3
  have hqq := (e2.trans e3).st h1
  refine ⟨fun i hi => ?_, fun i hi => ⟨hqq, by rw [h2.length]; rw [enumD_length] at hi; exact hi⟩, fun i x H3 d hd hy => Or.inr ?_⟩
  · rw [enumD_length] at hi
    obtain ⟨v, e, _⟩ := h2.get (List.getElem?_eq_getElem hi)
    exact ⟨hqq, v, e⟩
  · obtain ⟨T, o, x', rfl, hT, ho, rfl, hx⟩ := hy
    obtain ⟨e, he, rfl⟩ := enumD_get hd
    obtain ⟨v, ev, hv⟩ := h2.get he
    rw [ev] at hx
    cases hx
    have hF : F2 T = none := e3.none hT
    exact ⟨T, _, hT, rfl, .tup (Or.inl ⟨o, upd_same, ho⟩) (.cons (.int _) (.cons ((hv.mono e2).mono (Ex.new hF)) .nil))⟩
def R.enumA (d : D) (k : List D → R β γ) : R β γ := match d with
  | .lst ds => k (enumD ds)
  | .tup ds => k (enumD ds)
  | _ => .no
theorem ai_enumA {elts : List Expr} {kk : Nat} {tpos : Pos} (hm : X.mg "enumerate" = none) (hg : Gl X "enumerate") (ha : AE X K E xF xb env a c1) (hs : starEach [a] X.env = [(false, eval a X.env)] := by rfl) :
    AI X K E xF xb env (.Tuple elts kk tpos) (.Call (.Name "enumerate" p) [a] [] pos) (fun (k : List D → R β γ) => c1 fun d => R.enumA d k) := by
  have hK := ha.1
  subst hK
  exact ⟨rfl, fun B F H σ Q k G s w gx hk hG => ⟨_, pi_enumA hg hm (pa_cons pe_C pa_nil hs) hs, ha.2 B F H σ _ _ G s w gx (fun d v F1 H1 h1 e1 eh1 s1 d1 => by
    cases d <;> first | exact (gx.no h1).elim | skip
    · cases d1 with
      | lst h2 h3 => exact ⟨_, _, rfl, .inl ⟨.inl (s1.ex.rd h2), hk _ _ F1 H1 h1 e1 eh1 s1 (rI_enum h2 h3)⟩⟩
    · cases d1 with
      | tup h2 h3 => exact ⟨_, _, rfl, .inr ⟨s1.ex.st h2.sq, hk _ _ F1 H1 h1 e1 eh1 s1 (rI_enumU h2.sq h3)⟩⟩) hG⟩⟩
end
end DM

/-! Methods that say super().__init__(..): the body by its spine. -/
namespace DM
open PySem PySem.Spec PyProof.Rows PySem.W L2 DL NdefX

/-! ### blocks of which one statement asks what code runs -/
section
variable {M : Model} {A : Around} {c : Code} {E : Value → Shared → Prop} {env : Env} {Q : Flow → Shared → Prop}
theorem wp_app {Γ : PySem.Ctx} {T : Shared → Prop} {b : List Stmt} (hT : ∀ p s, T s → Sem.wp M Γ (execs b env) (fun f _ s' => Q f s') (fun e _ s' => E e s') p s) : ∀ (a : List Stmt) (p) (s : Shared),
    Sem.wp M Γ (execs a env) (fun f _ s' => match f with | .next => T s' | f => Q f s') (fun e _ s' => E e s') p s → Sem.wp M Γ (execs (a ++ b) env) (fun f _ s' => Q f s') (fun e _ s' => E e s') p s
  | [], p, s, h => by
    have h : Sem.wp M Γ (pure Flow.next) (fun f _ s' => match f with | .next => T s' | f => Q f s') (fun e _ s' => E e s') p s := h
    rw [Sem.wp_pure'] at h
    exact hT p s h
  | st :: a, p, s, h => by
    show Sem.wp M Γ (execs (st :: (a ++ b)) env) _ _ p s
    rw [execs, Sem.wp_bind'] at h ⊢
    refine Sem.wp_mono M Γ _ (fun f p1 s1 h1 => ?_) (fun _ _ _ z => z) _ _ h
    cases f with
    | next => exact wp_app hT a p1 s1 h1
    | brk =>
      have h1 : Sem.wp M Γ (pure Flow.brk) (fun f _ s' => match f with | .next => T s' | f => Q f s') (fun e _ s' => E e s') p1 s1 := h1
      rw [Sem.wp_pure'] at h1
      show Sem.wp M Γ (pure Flow.brk) _ _ p1 s1
      rw [Sem.wp_pure']; exact h1
    | cont =>
      have h1 : Sem.wp M Γ (pure Flow.cont) (fun f _ s' => match f with | .next => T s' | f => Q f s') (fun e _ s' => E e s') p1 s1 := h1
      rw [Sem.wp_pure'] at h1
      show Sem.wp M Γ (pure Flow.cont) _ _ p1 s1
      rw [Sem.wp_pure']; exact h1
    | ret v =>
      have h1 : Sem.wp M Γ (pure (Flow.ret v)) (fun f _ s' => match f with | .next => T s' | f => Q f s') (fun e _ s' => E e s') p1 s1 := h1
      rw [Sem.wp_pure'] at h1
      show Sem.wp M Γ (pure (Flow.ret v)) _ _ p1 s1
      rw [Sem.wp_pure']; exact h1
theorem wpAt_app {a b : List Stmt} {s : Shared} (h : wpAny M A (execs a env) (fun f s' => match f with | .next => _root_.PySem.wpAt M A c (execs b env) Q E s' | f => Q f s') E s) : _root_.PySem.wpAt M A c (execs (a ++ b) env) Q E s :=
  fun Γ p hc hΓ => wp_app (T := fun s' => _root_.PySem.wpAt M A c (execs b env) Q E s') (fun p s z => z Γ p hc hΓ) a p s (h Γ p hΓ)
end
def tsT (X : Cx) (c : Code) (st : List Stmt) : TS := fun Dn σ H => ∀ (pins : List (Addr × Obj)) (s : Shared), Inv X pins σ H s → _root_.PySem.wpAt (model X.prog X.w) X.A c (execs st X.env) (SP X pins Dn) X.xe s
/-- a block, run as the code c, is told by m -/
def ABt (X : Cx) (c : Code) (K : PySem.W.Frag) (E : XE) {β ω : Type} (κ : Kt β ω) (env : Fm) (st : List Stmt) (m : R β ω) : Prop :=
  X.K = K ∧ ∀ B F H σ Dn (G : R β ω → Prop), SR K B F H σ env → Gs K B E κ F Dn G → G m → tsT X c st Dn σ H
section
variable {X : Cx} {c : Code} {K : PySem.W.Frag} {E : XE} {β ω : Type} {κ : Kt β ω} {env : Fm} {st a b : List Stmt} {m : R β ω}
theorem ABt.eq {m' : R β ω} (h : ABt X c K E κ env st m) (e : m = m') : ABt X c K E κ env st m' := e ▸ h
theorem abt_lift (h : AB X K E κ env st m) : ABt X c K E κ env st m := ⟨h.1, fun B F H σ Dn G sr gs hG pins s I => by
  obtain ⟨t, h1, h2⟩ := h.2 B F H σ Dn G sr gs hG
  exact wpAt_of_wpAny (h1.run pins s σ H Dn I h2)⟩
/-- first a, then b -/
theorem abt_app {S : Type} (f : S → Fm) {k : S → R β ω} (h : AB X K E (κ.join S f k) env a m) (hr : ∀ s, ABt X c K E κ (f s) b (k s)) : ABt X c K E κ env (a ++ b) m := ⟨h.1, fun B F H σ Dn G sr gs hG pins s I => by
  obtain ⟨t, h1, h2⟩ := h.2 B F H σ { Dn with nx := fun σ' H' => tsT X c b Dn σ' H' } G sr ⟨gs.no, gs.ex, fun z hz F' H' σ' e1 s1 => (hr z).2 B F' H' σ' Dn G s1 (gs.mono e1) hz, gs.bk, gs.ct, gs.rt⟩ hG
  refine wpAt_app (wpAny_mono (h1.run pins s σ H _ I h2) (fun fl s' z => ?_) fun _ _ z => z)
  cases fl with
  | next => obtain ⟨σ', H', J, q⟩ := z; exact q pins s' J
  | brk => exact z
  | cont => exact z
  | ret u => exact z⟩
end

/-! ### a method with the cell __class__ -/
abbrev nfK (x qual : Str) (st : Stmt) (cc cda : Addr) : NF := ⟨x, qual, defArgs st, defBody st, defScope st, [(("__class__" : Str), cc)], cda⟩
abbrev cxK (P : Program) (w : World) (K : PySem.W.Frag) (mg : Str → Option Value) (base : Heap) (N : List Str) (x qual : Str) (st : Stmt) (f cc cda : Addr) (A : Around) (os : List Env) (s : Shared) (H : Hp) (E : XK) : Cx := ncx (L2.CX P w) P w K mg base N (nfK x qual st cc cda) f A os s H E
abbrev envK (x qual : Str) (st : Stmt) (f cc cda L : Addr) : Env := envF (nfK x qual st cc cda) f L
/-- what the text says of such a method; D: the class that it is written in -/
structure KFun (P : Program) (K : PySem.W.Frag) (mg : Str → Option Value) (x qual : Str) (st : Stmt) (f cc cda D : Addr) : Prop where
  fn : ∃ oc od doc pm an ct osl, K.lookup f = some ⟨oc, od, .func (ksFn x qual (defArgs st) (defBody st) (defScope st) .none .none doc pm an (.ref cda) ct cc), osl⟩
  code : codeIn K (.ref cda) qual = true
  cell : ∃ o, K.lookup cc = some o ∧ o.data = .cell (some (.ref D))
  cobj : ∃ o vs file tf, K.lookup cda = some o ∧ o.data = .fields vs ∧ vs[2]? = some (.str file tf) ∧ ((P.main.file : Str) == file) = true
  cls : ∃ o cd, K.lookup D = some o ∧ o.data = .cls cd
  top : nsIn K cStatics "thirdparty.any" = some none
  sup : mg "super" = none
  tp : (P.main.scope.names.lookup ("super" : Str)).isSome = false
  ar : ∃ a : Arg, ((defArgs st).posonlyargs ++ (defArgs st).args).head? = some a ∧ a.arg = ("self" : Str)
  n1 : (defScope st).names.lookup ("super" : Str) = some .globalImplicit
  n2 : (defScope st).names.lookup ("__class__" : Str) = some .free
  n3 : (defScope st).names.lookup ("self" : Str) = some .local
section
variable {P : Program} {w : World} {K : PySem.W.Frag} {mg : Str → Option Value} {base : Heap} {x qual : Str} {st : Stmt} {f cc cda D : Addr} {N ps : List Str} {k : Nat} {sp : Sp}
theorem startF_eq {vs : List V} (h : vs.length ≤ N.length) (h1 : vs.length + 1 ≤ N.length) : startF N vs [none] = vs.map some ++ List.replicate (N.length - vs.length) none := by
  unfold startF
  congr 1
  rw [List.length_singleton, show N.length - vs.length = (N.length - vs.length - 1) + 1 by omega, List.replicate_succ]
  rfl
/-- the call, from its body -/
theorem run_bndK {A : Around} {outer : List Env} {s : Shared} {H : Hp} {args : Args} {Q : VK} {E : XK} {G : List V → Hp → Prop} (T : KFun P K mg x qual st f cc cda D) (S : NScope N ps ["__class__"] (defScope st)) (hr : Room (k + 1) A) (e0 : Env0 P w K mg base A outer s H)
    (hb : ∀ doc pm an ct, StX.Bnd (L2.CX P w) P w K mg base (ksFn x qual (defArgs st) (defBody st) (defScope st) .none .none doc pm an (.ref cda) ct cc) args ps A outer s H E G)
    (hbody : ∀ (s2 : Shared) (H2 : Hp) (vs : List V), G vs H2 → vs.length = ps.length → Room k (A.deeper (envK x qual st f cc cda s2.heap.objs.size)) →
      tsT (cxK P w K mg base N x qual st f cc cda A outer s2 H2 E) (.func (defBody st) (envK x qual st f cc cda s2.heap.objs.size)) (defBody st) { nx := fun _ H' => Q .non H', rt := Q } (startF N vs [none]) H2) : codeAny (model P w) A (.call (.ref f) args) (CR (L2.CX P w) outer P w H s Q E) s := by
  have KX : K.In s.heap := e0.mod.kin.keeps fun b o e => (e0.bs b o e).1
  obtain ⟨oc, od, doc, pm, an, ct, osl, lk⟩ := T.fn
  obtain ⟨oce, lce, dce⟩ := T.cell
  refine codeAny_call_function hr.depth (KX _ _ lk) rfl S.co S.gen rfl (codeRec_of KX T.code) ?_
  refine hb doc pm an ct _ _ _ fun s2 H2 vs us e2 un ho hx r hl g => ?_
  have KX2 : K.In s2.heap := e2.mod.kin.keeps fun b o e => (e2.bs b o e).1
  have lim : s2.heap.NoLimit := e2.mod.nolimit.keeps fun b o e => (e2.bs b o e).1
  refine wpAny_newFunctionEnv (s := s2) S.nocell (fun y hy => S.par y.1 (List.of_mem_zip hy).1) (fun h0 hns hsb => ?_) S.kind
  have kp : ∀ b o, s2.heap.get? b = some o → h0.get? b = some o := fun b o e => hsb.extBut b o (Nat.ne_of_lt (Heap.lt_size e)) (Heap.get?_push_of_some _ e)
  refine ⟨lim.fresh _ hsb, ks_codeAny_funcAt ?_⟩
  have hcc : H2 cc = none := (e2.bs cc oce (e2.mod.kin _ _ lce)).2
  have C : CellsAt [(("__class__" : Str), cc)] ["__class__"] [none] s2.heap H2 := by
    refine ⟨rfl, fun y c h => ?_, fun y z c h1 h2 => ?_, fun i y hi => ?_⟩
    · simp only [List.lookup] at h
      split at h
      · cases h; exact ⟨hcc, _, oce, KX2 _ _ lce, dce⟩
      · cases h
    · simp only [List.lookup] at h1 h2
      split at h1
      · split at h2
        · rename_i q1 _ q2
          exact (beq_iff_eq.mp q1).trans (beq_iff_eq.mp q2).symm
        · cases h2
      · cases h1
    · cases i with
      | zero => cases hi; exact ⟨cc, rfl, fun v hv => by cases hv⟩
      | succ i => simp at hi
  have I : Inv (cxK P w K mg base N x qual st f cc cda A outer s2 H2 E) [] (startF N vs [none]) H2 { s2 with heap := h0, toks := s2.toks + (ps.zip us).length } := inv_startN S hr.hd e2 hl r C hns kp
  refine _root_.PySem.wpAt_mono (hbody s2 H2 vs g hl (hr.deeper _) [] _ I) (fun fl s' hs => ?_) fun e s' hs => ?_
  · have fin : ∀ {σ' : L2.St} {H' : Hp} {v' : V} {u' : Value}, Inv (cxK P w K mg base N x qual st f cc cda A outer s2 H2 E) [] σ' H' s' → RelV v' u' → Q v' H' → CE outer P w H s Q u' s' :=
      fun {σ' H' v' u'} J rv' q => ⟨v', H', J.os.trans ho, J.bare, un.trans J.base, J.hok, rv', q⟩
    cases fl with
    | ret u' =>
      obtain ⟨v', σ', H', J, rv', q⟩ := hs
      exact fin J rv' q
    | next =>
      obtain ⟨σ', H', J, q⟩ := hs
      exact fin (v' := V.non) (u' := Value.none) J rfl q
    | brk =>
      obtain ⟨_, _, _, q⟩ := hs
      exact False.elim q
    | cont =>
      obtain ⟨_, _, _, q⟩ := hs
      exact False.elim q
  · exact wpAny_mono hs (fun _ s'' z => hx e s'' z) fun e' s'' z => hx e' s'' z
end
end DM

/-! super().__init__(..): the call; promises of such methods. -/
namespace DM
open PySem PySem.Spec PyProof.Rows PySem.W L2 DL NdefX

def BodK (P : Program) (w : World) (K : PySem.W.Frag) (mg : Str → Option Value) (base : Heap) (N : List Str) (x qual : Str) (st : Stmt) (f cc cda : Addr) (k : Nat) (sp : Sp) : Prop :=
  ∀ (A : Around) (os : List Env) (s : Shared) (H : Hp) (vs : List V) (Q : VK) (E : XK), Room k (A.deeper (envK x qual st f cc cda s.heap.objs.size)) → Quiet (A.deeper (envK x qual st f cc cda s.heap.objs.size)) → sp vs H Q E →
    tsT (cxK P w K mg base N x qual st f cc cda A os s H E) (.func (defBody st) (envK x qual st f cc cda s.heap.objs.size)) (defBody st) { nx := fun _ H' => Q .non H', rt := Q } (startF N vs [none]) H
section
variable {P : Program} {w : World} {K : PySem.W.Frag} {mg : Str → Option Value} {base : Heap} {x qual : Str} {st : Stmt} {f cc cda Dc : Addr} {N ps : List Str} {k n m : Nat} {sp : Sp} {fs : List Str}
theorem fnP_starK {pv : Str} (T : KFun P K mg x qual st f cc cda Dc) (S : NScope N (ps ++ [pv]) ["__class__"] (defScope st))
    (hb : ∀ (doc pm : Value) (an : Option Addr) (ct : Value) (us rest : List Value), us.length = ps.length → bindArgs (ksFn x qual (defArgs st) (defBody st) (defScope st) .none .none doc pm an (.ref cda) ct cc) ⟨us ++ rest, []⟩ = (newTuple rest >>= fun t => pure (ps.zip us ++ [(pv, t)])))
    (hbody : BodK P w K mg base N x qual st f cc cda k sp) : FnP P w K mg base (k + 1) f (spStar ps.length sp) := by
  intro A os s H us vs Q E hr hq e0 r hsp
  obtain ⟨ws, rest, rfl, hl, hz, hs⟩ := hsp
  obtain ⟨u1, u2, rfl, r1, r2⟩ := StX.vals_split r
  have hn : H s.heap.objs.size = none := e0.hok.fresh (Nat.le_refl _)
  have hl1 : u1.length = ps.length := r1.length.symm.trans hl
  have hl2 : u2.length ≤ sizeLine := by rw [← r2.length]; exact hz
  refine run_bndK T S hr e0 (G := fun xs H2 => ∃ p o, H p = none ∧ o.dict = none ∧ xs = ws ++ [V.ref p] ∧ H2 = upd H p (.frz o (.tup rest))) (fun doc pm an ct A' Ex Q' h => ?_) (fun s2 H2 xs ⟨p, o, hp, ho, ex, eH⟩ _ hr' => ?_)
  · rw [hb doc pm an ct u1 u2 hl1]
    refine wpAny_bind (wpAny_newTuple (wpAny_pure ?_) hl2)
    have hg : (s.heap.push ({ cls := .type "tuple", data := .seq u2.toArray } : Obj)).get? s.heap.objs.size = some { cls := .type "tuple", data := .seq u2.toArray } := Heap.get?_push_size _ rfl
    have new : ObjOk P w (upd H s.heap.objs.size (.frz { cls := .type "tuple", data := .seq u2.toArray } (.tup rest))) (s.heap.push ({ cls := .type "tuple", data := .seq u2.toArray } : Obj)) s.heap.objs.size (.frz { cls := .type "tuple", data := .seq u2.toArray } (.tup rest)) := And.intro hg (And.intro hz ⟨u2, r2, _, hg, rfl, _, rfl⟩)
    have un := StX.un_laid (fs := frs os) (s := s) (o := ({ cls := .type "tuple", data := .seq u2.toArray } : Obj)) (u := .frz { cls := .type "tuple", data := .seq u2.toArray } (.tup rest)) hn
    have z := h _ _ (ws ++ [V.ref s.heap.objs.size]) (u1 ++ [Value.ref s.heap.objs.size]) (StX.env0_laid e0 new) un rfl (fun e s' => StX.cxUp os s H _ _ E e s' un (fun b o q => Heap.get?_push_of_some _ q) rfl) (r1.append (.cons rfl .nil))
      (by rw [List.length_append, List.length_append, hl]; rfl) ⟨_, _, hn, rfl, rfl, rfl⟩
    rw [List.zip_append hl1.symm] at z
    exact z
  · subst ex eH
    exact hbody A os s2 _ _ Q E hr' (hq.deeper _) (hs p o hp ho)
theorem fnP_plainK (T : KFun P K mg x qual st f cc cda Dc) (S : NScope N ps ["__class__"] (defScope st)) (hln : ∀ vs H Q E, sp vs H Q E → vs.length = ps.length)
    (hb : ∀ (doc pm : Value) (an : Option Addr) (ct : Value), L2.Binds K (ksFn x qual (defArgs st) (defBody st) (defScope st) .none .none doc pm an (.ref cda) ct cc) ps [])
    (hbody : BodK P w K mg base N x qual st f cc cda k sp) : FnP P w K mg base (k + 1) f sp := by
  intro A os s H us vs Q E hr hq e0 r hsp
  have hl : vs.length = ps.length := hln _ _ _ _ hsp
  refine run_bndK T S hr e0 (G := fun xs H2 => xs = vs ∧ H2 = H) (fun doc pm an ct A' Ex Q' h => ?_) (fun s2 H2 xs ⟨ex, eH⟩ _ hr' => ?_)
  · have b := hb doc pm an ct s us (e0.mod.kin.keeps fun b o e => (e0.bs b o e).1) (by rw [List.append_nil, ← r.length]; exact hl)
    rw [List.append_nil] at b
    exact b _ _ _ _ (h s H vs us e0 (Un.kept fun _ _ z => z) rfl (fun _ _ z => z) r hl ⟨rfl, rfl⟩)
  · subst ex eH
    exact hbody A os s2 _ _ Q E hr' (hq.deeper _) hsp
/-- the promise of a body whose first parameter is the caller's own -/
theorem okR0K {mf : List D → R Unit (D × D)} (hn : ps.length = n + 1) (hm : N.length = m + 1) (hN : n + 2 ≤ N.length)
    (hbody : ∀ (A : Around) (outer : List Env) (s : Shared) (H : Hp) (E : XK), Room k (A.deeper (envK x qual st f cc cda s.heap.objs.size)) → Quiet (A.deeper (envK x qual st f cc cda s.heap.objs.size)) →
      TakesE (cxK P w K mg base N x qual st f cc cda A outer s H E) (fun _ => E) → (∀ σ, PassesAt (L2.CX P w) (cxK P w K mg base N x qual st f cc cda A outer s H E) σ E) → PassesOwn (model P w) (A.deeper (envK x qual st f cc cda s.heap.objs.size)) (cxK P w K mg base N x qual st f cc cda A outer s H E).env (cxK P w K mg base N x qual st f cc cda A outer s H E).xe →
      ∀ o ds, ds.length = n → ABt (cxK P w K mg base N x qual st f cc cda A outer s H E) (.func (defBody st) (envK x qual st f cc cda s.heap.objs.size)) K (fun _ => E) (kR0 m fs) (.ow (some 0) o fs :: (ds.map .fz ++ List.replicate (N.length - (n + 1)) .un)) (defBody st) (mf (o :: ds))) :
    BodK P w K mg base N x qual st f cc cda k (spM K (some fs :: mk0 n) none (L1e mf)) := by
  intro A outer s H vs Q E hr hG0 h
  obtain ⟨hl, F, ds0, q, hdl, sr, hq⟩ := h
  cases ds0 with
  | nil => cases hdl
  | cons o ds =>
    rw [List.length_cons, List.length_replicate] at hl
    have hdl : ds.length = n := by simpa using hdl
    have hargs : mkArgs (o :: ds) (some fs :: mk0 n) 0 = .ow (some 0) o fs :: ds.map .fz := by
      show .ow (some 0) o fs :: mkArgs ds (mk0 n) 1 = _
      rw [mk0_fz hdl]
    rw [hargs] at sr
    have tk : Takes (cxK P w K mg base N x qual st f cc cda A outer s H E) (fun cls d _ H => E cls d H) := takes_of rfl rfl rfl rfl
    have fin : ∀ {F' H' : Hp} {σ' : L2.St} {o' : D}, SR K ⟨F, H, q, parOf vs⟩ F' H' σ' (.ow (some 0) o' fs :: List.replicate m .un) → SR K ⟨F, H, q, parOf vs⟩ F' H' (vs.map some) (mkOuts [o'] (some fs :: mk0 n) 0) := fun {F' H' σ' o'} r => by
      obtain ⟨ft', hf'⟩ := r.own
      obtain ⟨p, g1, g2, g3, g4⟩ := hf'.ow 0 (some 0) o' fs rfl
      have g5 : parOf vs 0 = some p := g4 0 rfl
      have hv0 : (vs.map some)[0]? = some (some (V.ref p)) := by
        unfold parOf at g5
        split at g5
        · rename_i e
          cases g5
          rw [List.getElem?_map, e]
          rfl
        · cases g5
      have hu : ∀ j, j ≠ 0 → fget (mkOuts [o'] (some fs :: mk0 n) 0) j = .un := fun j hj => by
        cases j with
        | zero => exact absurd rfl hj
        | succ j => exact outs_un n 1 j
      refine ⟨r.ex, r.ex0, r.keep, r.newF, ?_, fun j d h => ?_, fun j a d gs h => ?_, ft', fun j t' d f' h => ?_, fun j k t1 t2 d1 d2 f1 f2 hjk e1 e2 => ?_⟩
      · show _ = (Sl.ow (some 0) o' fs :: mkOuts [] (mk0 n) 1).length
        rw [List.length_map, List.length_cons, outs_len]; exact hl
      · cases j with
        | zero => cases h
        | succ j => rw [hu _ (Nat.succ_ne_zero j)] at h; cases h
      · cases j with
        | zero => cases h
        | succ j => rw [hu _ (Nat.succ_ne_zero j)] at h; cases h
      · cases j with
        | zero => cases h; exact ⟨p, hv0, g2, g3, g4⟩
        | succ j => rw [hu _ (Nat.succ_ne_zero j)] at h; cases h
      · cases j with
        | succ j => rw [hu _ (Nat.succ_ne_zero j)] at e1; cases e1
        | zero =>
          cases k with
          | zero => exact absurd rfl hjk
          | succ k => rw [hu _ (Nat.succ_ne_zero k)] at e2; cases e2
    have key : tsT (cxK P w K mg base N x qual st f cc cda A outer s H E) (.func (defBody st) (envK x qual st f cc cda s.heap.objs.size)) (defBody st) { nx := fun _ H' => Q .non H', rt := Q } (vs.map some ++ List.replicate (N.length - (n + 1)) none) H := by
      refine (hbody A outer s H E hr hG0 tk (fun σ => passAt tk σ) (passes_of rfl) o ds hdl).2 ⟨F, H, q, parOf vs⟩ F H (vs.map some ++ List.replicate (N.length - (n + 1)) none) { nx := fun _ H' => Q .non H', rt := Q }
        (fun m => PostM K ⟨F, H, q, parOf vs⟩ F (vs.map some) E none (some fs :: mk0 n) Q (match m with
          | .ok (d, o) => .ok (d, [o])
          | .ex x _ => .ex x []
          | .no => .no)) (sr.start _) ⟨fun z => z, fun y b hy c dd F' H' σ' e1 s1 x1 => hy c dd F' H' e1 (s1.unAll (fun j => by cases j with | zero => rfl | succ j => exact outs_un n 1 j) (by show _ = (Sl.un :: mkOuts [] (mk0 n) 1).length; rw [List.length_map, List.length_cons, outs_len]; exact hl)) x1, fun z hz F' H' σ' e1 s1 => hz .non F' H' e1 (fin s1) .non, fun z => z.elim, fun z => z.elim, fun d z hz v F' H' σ' e1 s1 r1 => hz v F' H' e1 (fin s1) r1⟩ hq
    have hst : startF N vs [none] = vs.map some ++ List.replicate (N.length - (n + 1)) none := by rw [startF_eq (by omega) (by omega), hl]
    rw [hst]
    exact key
theorem prR_starK {pv : Str} {mf : List D → R Unit (D × D)} (T : KFun P K mg x qual st f cc cda Dc) (S : NScope N (ps ++ [pv]) ["__class__"] (defScope st)) (hn : ps.length = n + 1)
    (hb : ∀ (doc pm : Value) (an : Option Addr) (ct : Value) (us rest : List Value), us.length = ps.length → bindArgs (ksFn x qual (defArgs st) (defBody st) (defScope st) .none .none doc pm an (.ref cda) ct cc) ⟨us ++ rest, []⟩ = (newTuple rest >>= fun t => pure (ps.zip us ++ [(pv, t)])))
    (hbody : BodK P w K mg base N x qual st f cc cda k (spM K (some fs :: mk0 (n + 1)) none (L1e mf))) : PrR P w K mg base (k + 1) f fs (starM (n + 1) mf) := fun m =>
  (fnP_starK T S hb hbody).to fun vs H Q E h => by
    rw [l1_star] at h
    have := star_core (M := [some fs]) (n := n) (m := m) (Or.inr ⟨fs, rfl⟩) (by rw [show ([some fs] : Mask).length + n = n + 1 by simp; omega]; exact h)
    rw [show ([some fs] : Mask).length + n = n + 1 by simp; omega] at this
    rw [hn]
    exact this
theorem prR_plainK {mf : List D → R Unit (D × D)} (T : KFun P K mg x qual st f cc cda Dc) (S : NScope N ps ["__class__"] (defScope st)) (hn : ps.length = n + 1)
    (hb : ∀ (doc pm : Value) (an : Option Addr) (ct : Value), L2.Binds K (ksFn x qual (defArgs st) (defBody st) (defScope st) .none .none doc pm an (.ref cda) ct cc) ps [])
    (hbody : BodK P w K mg base N x qual st f cc cda k (spM K (some fs :: mk0 n) none (L1e mf))) (hl : ∀ ds, mf ds ≠ .no → ds.length = n + 1) : PrR P w K mg base (k + 1) f fs mf := fun m =>
  (fnP_plainK T S (fun vs H Q E h => h.1.trans (by rw [List.length_cons, List.length_replicate]; exact hn.symm)) hb hbody).to fun vs H Q E h => by
    have h0 := h
    obtain ⟨h1, F, ds, q, h2, h3, h4⟩ := h
    have hne : mf ds ≠ .no := fun z => by
      have : L1e mf ds = .no := by unfold L1e; rw [z]
      rw [this] at h4
      exact h4
    have := hl ds hne
    rw [List.length_cons, List.length_replicate] at h2
    have : n = m := by omega
    rw [this]
    exact h0
end
/-! ### the call of the base's __init__ -/
def R.sup0 {β ω : Type} (cl : Str → Bool) (d : D) (k : R β ω) : R β ω := match d with
  | .obj C _ => if cl C then k else .no
  | _ => .no
structure SupC (P : Program) (w : World) (K : PySem.W.Frag) (mg : Str → Option Value) (base : Heap) (k : Nat) (cl : Str → Bool) (Dc : Addr) (fs : List Str) (mf : List D → R Unit (D × D)) : Prop where
  ex : ∀ C, cl C = true → ∀ c', Cl K C c' → subIn K (.ref c') (.ref Dc) = some true ∧ ∃ f2 cd, clsIn K c' = some cd ∧ ks_superIn K c' Dc "__init__" = some (some (.ref f2)) ∧ typeIn K (.ref f2) = some (.type "function") ∧ fnIn K f2 = true ∧ PrR P w K mg base k f2 fs mf
section
variable {P : Program} {w : World} {K : PySem.W.Frag} {mg : Str → Option Value} {base : Heap} {x qual : Str} {st : Stmt} {f cc cda Dc : Addr} {N : List Str} {k : Nat} {A : Around} {os : List Env} {s0 : Shared} {H0 : Hp} {E0 : XK} {E : XE} {β ω : Type} {κ : Kt β ω} {env : Fm} {fs : List Str} {e : Expr} {es post : List Stmt}
theorem abt_super {c : Code} {tag : Option Nat} {wd : D} {cl : Str → Bool} {mf : List D → R Unit (D × D)} {e : Expr} {es : List Expr} {q1 q2 q3 q5 q6 : Pos} {cs : (List D → R β ω) → R β ω} {m : D → R β ω} {mE : R β ω} (T : KFun P K mg x qual st f cc cda Dc) (hC : SupC P w K mg base k cl Dc fs mf) (hi : fget env 0 = .ow tag wd fs) (xb : β)
    (ha : AA (cxK P w K mg base N x qual st f cc cda A os s0 H0 E0) K E (κ.fx xb) xb env (e :: es) cs) (hx : Wk env (κ.fx xb)) (hxu : Wk (fput env 0 .un) (κ.fx xb)) (hr : ∀ d, ABt (cxK P w K mg base N x qual st f cc cda A os s0 H0 E0) (.func (defBody st) (envK x qual st f cc cda s0.heap.objs.size)) K E κ (fput env 0 (.ow tag d fs)) post (m d))
    (hrm : Room k (cxK P w K mg base N x qual st f cc cda A os s0 H0 E0).A) (hq : Quiet (cxK P w K mg base N x qual st f cc cda A os s0 H0 E0).A) (hp : ∀ σ, PassesAt (L2.CX P w) (cxK P w K mg base N x qual st f cc cda A os s0 H0 E0) σ (E σ)) (hlt : Nat.blt 0 env.length = true) (eE : R.sup0 cl wd (cs fun ds => R.call1e (mf (wd :: ds)) xb fun _ w' => m w') = mE)
    (hev : ∃ pl : Sem Bool, eval (.Call (.Attribute (.Call (.Name "super" q1) [] [] q2) "__init__" q3) (e :: es) [] q5) (envK x qual st f cc cda s0.heap.objs.size) = (do
      let ov ← attributeBase (.Call (.Name "super" q1) [] [] q2) "__init__" (envK x qual st f cc cda s0.heap.objs.size) (eval (.Call (.Name "super" q1) [] [] q2) (envK x qual st f cc cda s0.heap.objs.size))
      standAt q3.atName
      let (fn, first) ← holding [ov] (getMethod ov "__init__" pl)
      callWith q5 fn first (backTo q5 (starEach (e :: es) (envK x qual st f cc cda s0.heap.objs.size))) []) := by exact ⟨_, rfl⟩)
    (hN : N[0]? = some ("self" : Str) := by rfl) (hkd : (defScope st).kind = .function := by rfl) (he : starEach (e :: es) (envK x qual st f cc cda s0.heap.objs.size) = (false, eval e (envK x qual st f cc cda s0.heap.objs.size)) :: starEach es (envK x qual st f cc cda s0.heap.objs.size) := by rfl) (hpl : (backTo q5 (starEach es (envK x qual st f cc cda s0.heap.objs.size))).any (·.1) = false := by rfl)
    (hs1 : swapsWith (.Call (.Attribute (.Call (.Name "super" q1) [] [] q2) "__init__" q3) (e :: es) [] q5) none q6.line (envK x qual st f cc cda s0.heap.objs.size) = pure false := by rfl) (hin : interactive (envK x qual st f cc cda s0.heap.objs.size) = false := by rfl) :
    ABt (cxK P w K mg base N x qual st f cc cda A os s0 H0 E0) (.func (defBody st) (envK x qual st f cc cda s0.heap.objs.size)) K E κ env (.Expr (.Call (.Attribute (.Call (.Name "super" q1) [] [] q2) "__init__" q3) (e :: es) [] q5) q6 :: post) mE := by
  subst eE
  refine ⟨rfl, fun B F H σ Dn G sr gs hG pins s I => ?_⟩
  obtain ⟨ft, hf⟩ := sr.own
  obtain ⟨q, g1, g2, g3, g4⟩ := hf.ow 0 tag wd fs hi
  cases wd <;> first | exact (gs.no hG).elim | skip
  rename_i C gs'
  have hG : G (if cl C then (cs fun ds => R.call1e (mf (.obj C gs' :: ds)) xb fun _ w' => m w') else .no) := hG
  split at hG
  case isFalse => exact (gs.no hG).elim
  rename_i hcl
  obtain ⟨c', dx, fv, hHq, hCl⟩ : ∃ c' dx fv, H q = some (.ins c' dx fv) ∧ Cl K C c' := by
    generalize ft 0 = S0 at g2
    cases g2 with
    | ce h1 h2 => cases h2 with | obj hc _ _ => exact ⟨_, _, _, h1, hc⟩
    | ob h1 h2 _ => exact ⟨_, _, _, h1, h2⟩
  obtain ⟨hsub, f2, cd2, hcd2, hsu, hty, hfi, hpr⟩ := hC.ex C hcl c' hCl
  obtain ⟨oc, od, doc, pm, an, ct, osl, lk⟩ := T.fn
  obtain ⟨oce, lce, dce⟩ := T.cell
  obtain ⟨ocd, vs, file, tf, lcd, dcd, hvs, hfile⟩ := T.cobj
  obtain ⟨oD, cdD, lD, dD⟩ := T.cls
  obtain ⟨ar, har, hself⟩ := T.ar
  obtain ⟨pl, hev⟩ := hev
  obtain ⟨m0, hns, hloc⟩ := I.loc
  obtain ⟨u, ru, hlook⟩ := hloc 0 "self" (.ref q) hN g1 (Or.inl T.n3)
  obtain rfl : u = Value.ref q := ru
  have hv : m0 ("self" : Str) = some (.ref q) := by
    rcases hlook with ⟨_, h2⟩ | ⟨h1, _⟩
    · exact h2
    · rcases h1 with h1 | h1 <;> (have h1 : (defScope st).names.lookup ("self" : Str) = _ := h1; rw [T.n3] at h1; cases h1)
  have KX := I.kIn
  obtain ⟨mA, O, _, _, _, _⟩ := ins_get I.hok hHq
  obtain ⟨od', J, _⟩ := O.look
  obtain ⟨mb, hB, hmb⟩ := I.mod.blt
  have nsb : ∀ {b : Addr} {m : Str → Option Value}, base.Ns b m → s.heap.Ns b m := fun {b m} hn => by
    obtain ⟨o, es, ep, g1, g2, g3⟩ := hn
    exact ⟨o, es, ep, I.bk _ _ g1, g2, g3⟩
  have hGl := nsb I.mod.glob
  have hBs := nsb hB
  have hbs : mb "super" = some (.type "super") := (hmb "super" (by decide)).trans (by rfl)
  obtain ⟨hp0, gg, dr, tk, oss⟩ := s
  refine ks_wpAt_execs_cons (ks_wpAt_Expr_any (ks_wpAt_MethodCall (DX.superAt (D := Dc) (C := c') (x := q) (m := m0) (ar := ar) (fd := ksFn x qual (defArgs st) (defBody st) (defScope st) .none .none doc pm an (.ref cda) ct cc) hns (by rw [hself]; exact hv) (KX _ _ lk) rfl har (KX _ _ lcd) dcd hvs hfile T.tp hGl T.sup hBs hbs ⟨oce, KX _ _ lce, dce⟩ (KX _ _ lD) dD J.at_ J.cls (fun c e => ?_) (looks_subIn KX hsub) hkd T.n1 T.n2 (by rw [hself]; exact T.n3) fun h2 e2 k2 => ?_) hev) hin hs1)
  · have := J.no
    unfold notCls at this
    rw [e] at this
    exact Bool.noConfusion this
  have I2 := ClX.pin_new (t' := tk) I k2 (Nat.le_refl _) e2 (fun v z => nomatch z)
  have X2 := I2.kIn
  obtain ⟨mA2, O2, _, _, _, _⟩ := ins_get I2.hok hHq
  obtain ⟨od2, J2, _⟩ := O2.look
  obtain ⟨of, hof, hofc⟩ : ∃ of, h2.get? f2 = some of ∧ of.cls = .type "function" := by
    have ht' : (K.lookup f2).map (·.cls) = some (.type "function") := hty
    cases z : K.lookup f2 with
    | none => rw [z] at ht'; cases ht'
    | some of => rw [z] at ht'; exact ⟨of, X2 _ _ z, Option.some.inj ht'⟩
  have hm2 : alongIn K "__init__" ((cd2.mro.dropWhile (· != .ref Dc)).drop 1) = some (some (.ref f2)) := by unfold ks_superIn at hsu; rw [hcd2] at hsu; exact hsu
  refine ks_wpAny_getMethod_super e2 (looks_opaque X2 T.top) (l₀ := cd2.mro) (fun A Q E s k z => wpAny_bind ((looks_clsIn X2 hcd2) A _ E s k (wpAny_pure z))) rfl X2 hm2 hof hofc (ks_ne X2 J2 hcd2) (by decide) ?_
  have I3 := ClX.pin_new (o := methodObj (.ref f2) (.ref q)) (h' := h2.push (methodObj (.ref f2) (.ref q))) (a := h2.objs.size) (t' := tk + 1) I2 (fun _ _ z => Heap.get?_push_of_some _ z) (Nat.le_refl _) (Heap.get?_push_size h2 rfl) (fun v z => nomatch z)
  show wpAny (model P w) _ (callWith q5 (.ref h2.objs.size) [] (backTo q5 (starEach (e :: es) (envK x qual st f cc cda s0.heap.objs.size))) []) _ _ _
  have hargs := ha.2 B F H σ (fun vs H1 => spM K (some fs :: mk0 (vs.length)) none (L1e mf) (.ref q :: vs) H1 (fun v H' => v = v ∧ tsT (cxK P w K mg base N x qual st f cc cda A os s0 H0 E0) (.func (defBody st) (envK x qual st f cc cda s0.heap.objs.size)) post Dn σ H') (E σ)) _ G sr hx (gs.gx xb) (fun ds vs F1 H1 h1 e1 eh1 s1 d1 => by
    have hno : mf (.obj C gs' :: ds) ≠ .no := fun z => by rw [z] at h1; exact gs.no h1
    refine sp_ref s1 hi g1 d1 d1.length.symm (fun d os hm => ?_) (fun y os hm => ?_) (fun z => ?_)
    · unfold L1e at hm
      cases hq : mf (.obj C gs' :: ds) with
      | no => exact absurd hq hno
      | ex _ _ => rw [hq] at hm; cases hm
      | ok r =>
        obtain ⟨d', o'⟩ := r
        rw [hq] at hm h1
        cases hm
        exact ⟨o', rfl, fun v F' H' e2 s2 d2 => ⟨rfl, (hr o').2 B F' H' σ Dn G s2 (gs.mono (e1.trans e2)) h1⟩⟩
    · unfold L1e at hm
      cases hq : mf (.obj C gs' :: ds) with
      | no => exact absurd hq hno
      | ok _ => rw [hq] at hm; cases hm
      | ex y' u =>
        rw [hq] at hm h1
        cases hm
        exact .inr ⟨rfl, fun c dd F' H' e2 s2 x2 => gs.ex y xb h1 c dd F' H' σ (e1.trans e2) (s2.wk hxu) x2⟩
    · unfold L1e at z
      cases hq : mf (.obj C gs' :: ds) with
      | no => exact hno hq
      | ok _ => rw [hq] at z; cases z
      | ex _ _ => rw [hq] at z; cases z) hG
  have hev2 := pa_C.run q5 _ _ σ H _ I3 hargs
  change wpAny _ _ (spliced (backTo q5 (starEach (e :: es) (envK x qual st f cc cda s0.heap.objs.size)))) _ _ _ at hev2
  rw [he] at hev2
  rw [show starEach (e :: es) (envK x qual st f cc cda s0.heap.objs.size) = (false, eval e (envK x qual st f cc cda s0.heap.objs.size)) :: starEach es (envK x qual st f cc cda s0.heap.objs.size) from he]
  refine callWith_of (P := MethP K h2.objs.size f2 (.ref q)) (by show ((false || (backTo q5 (starEach es (envK x qual st f cc cda s0.heap.objs.size))).any (·.1)) || false) = false; rw [hpl]; rfl) (keeps_M hfi) (PySem.Calls.evalArgs_plain (wpAny_mono hev2 (fun us s1 hh => ?_) fun _ _ z => z))
  · obtain ⟨vs1, H1, I1, r1, q1'⟩ := hh
    refine ⟨⟨(ClX.pin_at I1), I1.kIn⟩, ?_⟩
    refine wpAny_call (method_call (ClX.pin_at I1) ?_)
    refine codeAny_mono (hpr vs1.length _ _ s1 H1 (.ref q :: us) (.ref q :: vs1) _ (E σ) hrm hq I1.env0 (.cons rfl r1) q1') fun z s' hz => ?_
    match z, hz with
    | .error er, hz => exact hp σ _ _ _ er s' I1 hz
    | .ok (.ret u'), hz =>
      obtain ⟨v', H', J', rv, _, q3⟩ := I1.after hz
      exact q3 pins s' (ClX.unpin (ClX.unpin J'))
    | .ok .next, hz | .ok .brk, hz | .ok .cont, hz => exact False.elim hz
end
end DM

/-! count; isinstance with tuples of types and own classes. -/
namespace DM
open PySem PySem.Spec PyProof.Rows L2 DL
/-! ### x.count(y) -/
section
variable {X : Cx}
def rCnt (K : PySem.W.Frag) (mk : List PyData → PyData) : V → List V → Hp → VK → Prop := fun x xs H Q => ∃ (a : Addr) (y : V) (d : PyData) (ds : List PyData), x = V.ref a ∧ xs = [y] ∧ Dp K H (V.ref a) (mk ds) ∧ Dp K H y d ∧ SeqAt.shaped (mk ds) = true ∧ SeqAt.shaped d = true ∧ Q (.int ((ds.countP fun z => PyData.eqv z d : Nat) : Int)) H
theorem mt_cntL (hu : X.A.units + 65 < cLine) : MtR X "list.count" (rCnt X.K .list) := by
  intro pins s σ H x xs v us Q I rx rxs h
  obtain ⟨a, y, d, ds, rfl, rfl, hl, hy, sl, sd, q⟩ := h
  cases rx
  cases rxs with
  | cons ry rt =>
    rename_i uy ut
    cases rt
    obtain ⟨bs, r1⟩ := Dp.reads I d y uy hy ry
    have hxs : PyData.canLayAll0 ds = true := SeqAt.canLay_of_shaped sl
    have hroom : X.A.units + 1 + min (PyData.depthAll ds) d.depth < cLine := room_in_shaped sd hu
    cases hl with
    | lst hs ha =>
      obtain ⟨its, rv, ⟨ol, nl, pl1, pl2, pl3, pl4⟩, hz⟩ := I.list hs
      have hg : s.heap.IsList a its.toArray := ⟨ol, pl1, pl2, nl, pl4⟩
      obtain ⟨as, h4⟩ := Dp.readsAll I ds _ its ha rv
      exact SeqAt.count_list_data (vs := its.toArray) hg (show ReadsAll s.heap its.toArray.toList ds as from h4) r1 (PyData.plainAll_of_canLay0 _ hxs) (PyData.plain_of_canLay0 _ (SeqAt.canLay_of_shaped sd)) hroom ⟨.int _, H, I.tok _, ⟨_, rfl⟩, q⟩
theorem mt_cntT (hu : X.A.units + 65 < cLine) : MtR X "tuple.count" (rCnt X.K .tuple) := by
  intro pins s σ H x xs v us Q I rx rxs h
  obtain ⟨a, y, d, ds, rfl, rfl, hl, hy, sl, sd, q⟩ := h
  cases rx
  cases rxs with
  | cons ry rt =>
    rename_i uy ut
    cases rt
    obtain ⟨bs, r1⟩ := Dp.reads I d y uy hy ry
    have hxs : PyData.canLayAll0 ds = true := SeqAt.canLay_of_shaped sl
    have hroom : X.A.units + 1 + min (PyData.depthAll ds) d.depth < cLine := room_in_shaped sd hu
    cases hl with
    | tup hs ha =>
      obtain ⟨its, rv, hg, hz⟩ := I.tuple hs
      obtain ⟨as, h4⟩ := Dp.readsAll I ds _ its ha rv
      exact SeqAt.count_tuple_data (vs := its.toArray) hg (show ReadsAll s.heap its.toArray.toList ds as from h4) r1 (PyData.plainAll_of_canLay0 _ hxs) (PyData.plain_of_canLay0 _ (SeqAt.canLay_of_shaped sd)) hroom ⟨.int _, H, I.tok _, ⟨_, rfl⟩, q⟩
end
def cntG : D → List D → Option D := fun x as => match x, as with
  | .lst ds, [y] => if shp y && shp (.lst ds) then some (.int (((pds ds).countP fun z => PyData.eqv z (pd y) : Nat) : Int)) else none
  | .tup ds, [y] => if shp y && shp (.tup ds) then some (.int (((pds ds).countP fun z => PyData.eqv z (pd y) : Nat) : Int)) else none
  | _, _ => none
section
variable {X : Cx} {K : PySem.W.Frag} {E : XE} {β γ : Type} {xF : Fm} {xb : β} {env : Fm} {e o : Expr} {p pos apos : Pos} {c1 : (D → R β γ) → R β γ} {cs : (List D → R β γ) → R β γ}
/-- x.count(y) -/
theorem a_cnt (hu : X.A.units + 65 < cLine) (h : AL X K E xF xb env o c1) (ha : AAL X K E xF xb env [e] cs) (hbase : attributeBase o "count" X.env (eval o X.env) = eval o X.env := by rfl)
    (hfew : ((backTo pos (starEach [e] X.env)).all (fun x => !x.1) && (backToKw pos (keywordEach [] X.env)).all (fun x => x.1.isSome)
      && decide (([e] : List Expr).length + ([] : List Keyword).length + (if ([] : List Keyword).isEmpty then 0 else 1) < 30)) = true := by rfl) (hline : (apos.endLine == pos.line) = true := by rfl) (hs : starEach [e] X.env = (false, eval e X.env) :: starEach [] X.env := by rfl) :
    AE X K E xF xb env (.Call (.Attribute o "count" apos) [e] [] pos) (fun (k : D → R β γ) => c1 fun x => R.asQ x fun _ => cs fun as => R.lft (cntG x as) k) := by
  have hK := h.1
  subst hK
  refine ⟨rfl, fun B F H σ Q k G s w gx hk hG => ⟨_, pe_bm2 PySem.F.plainAttrs_list PySem.F.slot_list_count PySem.F.type_list_count (mt_cntL hu) PySem.F.plainAttrs_tuple PySem.F.slot_tuple_count PySem.F.type_tuple_count (mt_cntT hu) pe_C pa_C hbase hfew hline hs rfl, ?_⟩⟩
  refine h.2 B F H σ _ _ G s w gx (fun x v F1 H1 h1 e1 eh1 s1 d1 => ?_) hG
  cases x <;> first | exact (gx.no h1).elim | skip
  · rename_i ds
    obtain ⟨a, xs, rfl, g1, g2⟩ := d1.lst s1.ex
    refine Or.inl ⟨Or.inl ⟨rfl, xs, g1⟩, ha.2 B F1 H1 σ _ _ G s1 w (gx.mono e1) (fun as vs F2 H2 h2 e2 eh2 s2 d2 => ?_) h1⟩
    match as, vs, d2, h2 with
    | [y], [u], d2, h2 =>
      have h2 : G (R.lft (if shp y && shp (.lst ds) then some (D.int (((pds ds).countP fun z => PyData.eqv z (pd y) : Nat) : Int)) else none) k) := h2
      split at h2
      · rename_i hc
        rw [Bool.and_eq_true] at hc
        have hsl : SeqAt.shaped (.list (pds ds)) = true := by have := hc.2; unfold shp at this; rwa [pd] at this
        exact ⟨a, u, pd y, pds ds, rfl, rfl, .lst (eh2.sl g1) (dpAll_of s2.ex (g2.mono e2) (SeqAt.canLay_of_shaped hsl)), (d2.1.all s2.ex).pd (SeqAt.canLay_of_shaped hc.1), hsl, hc.1, hk _ _ F2 H2 h2 (e1.trans e2) (eh1.trans eh2) s2 (.int _)⟩
      · exact (gx.no h2).elim
    | [], _, _, h2 => exact (gx.no h2).elim
    | _ :: _ :: _, _, _, h2 => exact (gx.no h2).elim
    | [_], [], d2, _ => exact d2.elim
    | [_], _ :: _ :: _, d2, _ => exact d2.2.elim
  · rename_i ds
    obtain ⟨a, xs, rfl, g0, g2⟩ := d1.tupZ s1.ex
    have g1 := g0.sq
    refine Or.inr ⟨⟨a, xs, rfl, g0⟩, ha.2 B F1 H1 σ _ _ G s1 w (gx.mono e1) (fun as vs F2 H2 h2 e2 eh2 s2 d2 => ?_) h1⟩
    match as, vs, d2, h2 with
    | [y], [u], d2, h2 =>
      have h2 : G (R.lft (if shp y && shp (.tup ds) then some (D.int (((pds ds).countP fun z => PyData.eqv z (pd y) : Nat) : Int)) else none) k) := h2
      split at h2
      · rename_i hc
        rw [Bool.and_eq_true] at hc
        have hsl : SeqAt.shaped (.tuple (pds ds)) = true := by have := hc.2; unfold shp at this; rwa [pd] at this
        exact ⟨a, u, pd y, pds ds, rfl, rfl, .tup (eh2.st g1) (dpAll_of s2.ex (g2.mono e2) (SeqAt.canLay_of_shaped hsl)), (d2.1.all s2.ex).pd (SeqAt.canLay_of_shaped hc.1), hsl, hc.1, hk _ _ F2 H2 h2 (e1.trans e2) (eh1.trans eh2) s2 (.int _)⟩
      · exact (gx.no h2).elim
    | [], _, _, h2 => exact (gx.no h2).elim
    | _ :: _ :: _, _, _, h2 => exact (gx.no h2).elim
    | [_], [], d2, _ => exact d2.elim
    | [_], _ :: _ :: _, d2, _ => exact d2.2.elim
end
/-! ### isinstance(x, (S, T, ..)) -/
def tysOf : List D → Option (List String)
  | [] => some []
  | .ty T :: ds => if tys.contains T then (tysOf ds).map (T :: ·) else none
  | _ :: _ => none
def isiTG : List D → Option D
  | [d, .tup Ts] => (tysOf Ts).bind fun ts => (tyn d).map fun a => .bl (ts.any (tyIs a))
  | _ => none
def rIsiZ (K : PySem.W.Frag) : List V → Hp → VK → Prop := fun xs H Q => ∃ (x : V) (tp : Addr) (cs : List V) (t : Value) (us : List Value) (b : Bool), xs = [x, .ref tp] ∧ SqT K H tp cs ∧ Paired ClsV cs us ∧ TyX K H x t ∧ PySem.W.kitAny K t us = some b ∧ Q (.bl b) H
theorem call_isiZ {X : Cx} : CallR X (.builtin "isinstance") (rIsiZ X.K) := by
  intro pins s σ H xs us Q I r h
  obtain ⟨x, tp, cs, t, ws, b, rfl, hT, k, ty, e, q⟩ := h
  obtain ⟨u1, u2, rfl, r1, r2⟩ := vals2 r
  cases (show u2 = Value.ref tp from r2)
  obtain ⟨P, Z, p, hx⟩ := kit_of I r1 ty
  obtain ⟨its, rv, ⟨o, h1, h2, n, h3⟩, _⟩ := I.tuple hT
  have e3 := ClsV.all k rv
  subst e3
  obtain ⟨oc, od, dt, sl⟩ := o
  simp only at h2 h3
  subst h2 h3
  exact PySem.W.kia_tup Z I.kIn p h1 e hx fun tk => ⟨.bl b, H, I.tok tk, rfl, q⟩
theorem call_isiZ' {X : Cx} {K : PySem.W.Frag} (hK : X.K = K := by rfl) : CallR X (.builtin "isinstance") (rIsiZ K) := hK ▸ call_isiZ
section
variable {K : PySem.W.Frag} {F H : Hp}
theorem tysOf_cls : ∀ {cs : List V} {Ts : List D} {ts : List String}, DrA K F cs Ts → tysOf Ts = some ts → Paired ClsV cs (ts.map Value.type) ∧ ∀ T ∈ ts, T ∈ tys
  | _, _, _, .nil, h => by cases h; exact ⟨.nil, fun _ h => nomatch h⟩
  | _, _, _, .cons (d := d) (ds := ds) h t, hb => by
    cases d <;> first | cases hb | skip
    rename_i T
    have hb : (if tys.contains T then (tysOf ds).map (T :: ·) else none) = _ := hb
    split at hb
    · rename_i hT
      cases q : tysOf ds with
      | none => rw [q] at hb; cases hb
      | some ts' =>
        rw [q] at hb
        cases hb
        obtain ⟨h1, h2⟩ := tysOf_cls t q
        cases h
        exact ⟨.cons (.ty T) h1, fun S hS => by
          rcases List.mem_cons.mp hS with rfl | hS
          · exact List.contains_iff_mem.mp hT
          · exact h2 S hS⟩
    · cases hb
theorem kitAny_tys {a : String} (ha : a ∈ tys) : ∀ {ts : List String}, (∀ T ∈ ts, T ∈ tys) → PySem.W.kitAny K (.type a) (ts.map Value.type) = some (ts.any (tyIs a))
  | [], _ => rfl
  | T :: ts, h => by
    refine kitAny_cons (b := tyIs a T) (kit_ty (kit_tab a ha T (h T List.mem_cons_self))) (fun hb => ?_) (fun hb => ?_)
    · rw [List.any_cons, hb, Bool.false_or]
      exact kitAny_tys ha fun S hS => h S (List.mem_cons_of_mem _ hS)
    · rw [List.any_cons, hb, Bool.true_or]
theorem cd_isiT : CallD K (rIsiZ K) isiTG := by
  intro B F H σ env xs as c Q s hx hg q
  unfold isiTG at hg
  split at hg
  · rename_i d Ts
    cases ht : tysOf Ts with
    | none => rw [ht] at hg; cases hg
    | some ts =>
      rw [ht] at hg
      cases hd : tyn d with
      | none => rw [hd] at hg; cases hg
      | some a =>
        rw [hd] at hg
        cases hg
        obtain ⟨v, w, rfl, hv, hw⟩ := hx.two
        obtain ⟨p, cs, rfl, h1, h2⟩ := hw.tup s.ex
        obtain ⟨k1, k2⟩ := tysOf_cls h2 ht
        exact ⟨v, p, cs, .type a, ts.map Value.type, _, rfl, h1, k1, hv.ty s.ex hd, kitAny_tys (tyn_mem hd) k2, q _ F H (Ex.refl F) (Ex.refl H) s (.bl _)⟩
  · cases hg
end
/-! ### isinstance(x, C), C a class of the module -/
def R.isiC {β γ : Type} (ic : Str → Option Bool) (d : D) (k : Bool → R β γ) : R β γ := match d with
  | .obj C _ => R.lft (ic C) k
  | d => match tyn d with
    | some _ => k false
    | none => .no
structure IsiC (K : PySem.W.Frag) (mg : Str → Option Value) (x : Str) (ic : Str → Option Bool) : Prop where
  ex : ∃ c, mg x = some (.ref c) ∧ (∀ C b, ic C = some b → ∀ c', Cl K C c' → Cls K c' ∧ PySem.W.findIn K (.ref c') "__class__" = some (some (.builtin "object.__class__")) ∧ PySem.W.mroIn K c' (.type "object") = some true ∧ PySem.W.kitOne K (.ref c') (.ref c) = some b) ∧
    PySem.W.specialIn K (.builtin "object.__class__") "__get__" = some (some (.builtin "getset_descriptor.__get__")) ∧ PySem.W.takesIn K (.builtin "object.__class__") = some true ∧ ∀ a ∈ tys, PySem.W.kitOne K (.type a) (.ref c) = some false
section
variable {X : Cx} {E : XE} {β γ : Type} {xF : Fm} {xb : β} {env : Fm} {e : Expr} {p pos p2 : Pos} {x : Str} {ic : Str → Option Bool} {c1 : (D → R β γ) → R β γ}
theorem isiC_core {K : PySem.W.Frag} {B : Bs} {F H : Hp} {σ : L2.St} {d : D} {v : V} {G : R β γ → Prop} {k : Bool → R β γ} {c : Addr} {Q : VK} (sr : SR K B F H σ env) (hv : Dh K F H v d)
    (h2 : ∀ C b, ic C = some b → ∀ c', Cl K C c' → Cls K c' ∧ PySem.W.findIn K (.ref c') "__class__" = some (some (.builtin "object.__class__")) ∧ PySem.W.mroIn K c' (.type "object") = some true ∧ PySem.W.kitOne K (.ref c') (.ref c) = some b)
    (h3 : PySem.W.specialIn K (.builtin "object.__class__") "__get__" = some (some (.builtin "getset_descriptor.__get__"))) (h4 : PySem.W.takesIn K (.builtin "object.__class__") = some true) (h5 : ∀ a ∈ tys, PySem.W.kitOne K (.type a) (.ref c) = some false)
    (hno : ¬ G .no) (hG : G (R.isiC ic d k)) (hq : ∀ b, G (k b) → Q (.bl b) H) : rIsi K [v, .ref c] H Q := by
  have plain : ∀ a, tyn d = some a → G (k false) → rIsi K [v, .ref c] H Q := fun a ha hg => ⟨v, .ref c, .type a, .ref c, false, rfl, .own c, hv.ty sr.ex ha, h5 a (tyn_mem ha), hq false hg⟩
  cases d with
  | non => exact plain _ rfl hG
  | bl b => exact plain _ rfl hG
  | int i => exact plain _ rfl hG
  | str z => exact plain _ rfl hG
  | lst ds => exact plain _ rfl hG
  | tup ds => exact plain _ rfl hG
  | dct ds => exact plain _ rfl hG
  | ty T => exact (hno hG).elim
  | exc C fs => exact (hno hG).elim
  | obj C gs =>
    have hG : G (R.lft (ic C) k) := hG
    cases hi : ic C with
    | none => rw [hi] at hG; exact (hno hG).elim
    | some b =>
      rw [hi] at hG
      obtain ⟨a, c', dx, fs, rfl, g1, g2, _, _⟩ := hv.obj sr.ex
      obtain ⟨k1, k2, k3, k4⟩ := h2 C b hi c' g2
      exact ⟨.ref a, .ref c, .ref c', .ref c, b, rfl, .own c, .base (.ins g1 k1 k2 h3 h4 k3), k4, hq b hG⟩
theorem a_isiC (g : IsiC X.K X.mg x ic) (hz : X.mg "isinstance" = none) (hg : Gl X x) (hgi : Gl X "isinstance") (ha : AL X X.K E xF xb env e c1) (hdb : (x == ("__debug__" : Str)) = false := by decide)
    (he : starEach [e, .Name x p] X.env = (false, eval e X.env) :: starEach [.Name x p] X.env := by rfl) (hpl : (backTo pos (starEach [.Name x p] X.env)).any (·.1) = false := by rfl) :
    AE X X.K E xF xb env (.Call (.Name "isinstance" p2) [e, .Name x p] [] pos) (fun (k : D → R β γ) => c1 fun d => R.isiC ic d fun b => k (.bl b)) :=
  ⟨rfl, fun B F H σ Q k G s w gx hk hG => by
    obtain ⟨c, h1, h2, h3, h4, h5⟩ := g.ex
    refine ⟨_, pe_callB (r := rIsi X.K) call_isi hgi hz boot_isinstance (pa_cons pe_C (pa_cons (pe_glob (v := .ref c) hg h1 rfl hdb) pa_nil) he) (by decide) (by decide) he hpl, ha.2 B F H σ _ _ G s w gx (fun d v F1 H1 g1 e1 eh1 s1 d1 => ?_) hG⟩
    exact isiC_core s1 d1 h2 h3 h4 h5 gx.no g1 fun b hb => hk _ _ F1 H1 hb e1 eh1 s1 (.bl b)⟩
theorem at_isiC (g : IsiC X.K X.mg x ic) (hz : X.mg "isinstance" = none) (hg : Gl X x) (hgi : Gl X "isinstance") (ha : AL X X.K E xF xb env e c1) (hdb : (x == ("__debug__" : Str)) = false := by decide)
    (he : starEach [e, .Name x p] X.env = (false, eval e X.env) :: starEach [.Name x p] X.env := by rfl) (hpl : (backTo pos (starEach [.Name x p] X.env)).any (·.1) = false := by rfl) :
    AT X X.K E xF xb env (.Call (.Name "isinstance" p2) [e, .Name x p] [] pos) (fun (k : Bool → R β γ) => c1 fun d => R.isiC ic d k) := at_val (a_isiC g hz hg hgi ha hdb he hpl)
end
end DM

/-! len of objects. -/
namespace DM
open PySem PySem.Spec PyProof.Rows L2 DL
def R.len {β γ : Type} (mt : Str → Option (List D → R Unit D)) (d : D) (k : D → R β γ) : R β γ := match d with
  | .obj C fs => match mt C with
    | some mf => match mf [.obj C fs] with
      | .ok (.int n) => if decide (0 ≤ n) && decide (n < 2 ^ 63) then k (.int n) else .no
      | _ => .no
    | none => .no
  | _ => .no
section
variable {X : Cx} {K : PySem.W.Frag} {E : XE} {β γ : Type} {xF : Fm} {xb : β} {env : Fm} {e : Expr} {p pos : Pos} {c1 : (D → R β γ) → R β γ} {k : Nat}
def rLenO (X : Cx) (k : Nat) : List V → Hp → VK → Prop := fun xs H Q => ∃ a c dx fs f mf, xs = [.ref a] ∧ H a = some (.ins c dx fs) ∧ Meth X.K c "__len__" f ∧ PrP X.prog X.w X.K X.mg X.base k f none mf ∧
  spM X.K (mk0 1) none (Lp mf) [.ref a] H (fun v H' => ∃ n : Int, v = .int n ∧ 0 ≤ n ∧ n < 2 ^ 63 ∧ Q (.int n) H') (fun _ _ _ => False)
theorem call_lenO (hr : Room (k + 1) X.A) (hG : Quiet X.A) : CallR X (.builtin "len") (rLenO X k) := by
  intro pins s σ H xs us Q I r h
  obtain ⟨a, c, dx, fs, f, mf, rfl, ea, hm, hp, hs⟩ := h
  cases r with
  | cons ra rt =>
    cases rt
    cases (show _ = Value.ref a from ra)
    obtain ⟨mA, O, _, _, _, _⟩ := ins_get I.hok ea
    obtain ⟨od, J, _⟩ := O.look
    obtain ⟨m0, hF⟩ := I.fr
    refine PySem.W.len_K hF I.mod.kin J hm.at_ hm.fn ?_
    refine wpAny_call (codeAny_mono (hp 1 X.A.in1 X.stack s H [.ref a] [.ref a] _ (fun _ _ _ => False) hr.in1 hG I.env0.in1 (.cons rfl .nil) hs) fun z s' hq => ?_)
    match z, hq with
    | .error er, hq =>
      obtain ⟨_, _, _, _, _, _, _, _, _, _, _, _, he⟩ := hq
      exact he.elim
    | .ok (.ret u), hq =>
      obtain ⟨v, H', I3, rv, n, rfl, h0, h1, q3⟩ := I.after hq
      obtain ⟨tk, rfl⟩ := rv
      exact ⟨⟨h0, h1⟩, .int n, H', I3.tok _, ⟨_, rfl⟩, q3⟩
    | .ok .next, hq | .ok .brk, hq | .ok .cont, hq => exact False.elim hq
/-- len(e), e an object -/
theorem a_lenO {mt : Str → Option (List D → R Unit D)} (hF : ∀ C mf, mt C = some mf → MethC X.prog X.w K X.mg X.base k C "__len__" none mf) (hz : X.mg "len" = none) (hg : Gl X "len") (h : AE X K E xF xb env e c1) (hr : Room (k + 1) X.A) (hG : Quiet X.A)
    (he : starEach [e] X.env = (false, eval e X.env) :: starEach [] X.env := by rfl) (hpl : (backTo pos (starEach [] X.env)).any (·.1) = false := by rfl) :
    AE X K E xF xb env (.Call (.Name "len" p) [e] [] pos) (fun (k : D → R β γ) => c1 fun d => R.len mt d k) := by
  have hK := h.1
  subst hK
  refine ⟨rfl, fun B F H σ Q k2 G s w gx hk hG' => ⟨_, pe_callB (call_lenO hr hG) hg hz PySem.boot_len (pa_cons pe_C pa_nil he) (by decide) (by decide) he hpl, h.2 B F H σ _ _ G s w gx (fun d v F1 H1 h1 e1 eh1 s1 d1 => ?_) hG'⟩⟩
  cases d <;> first | exact (gx.no h1).elim | skip
  rename_i C gs
  have d0 := d1
  obtain ⟨a, c, dx, fs, rfl, g1, g2, g3, g4⟩ := (Dh.obj s1.ex (.inl d1))
  unfold R.len at h1
  cases hm : mt C with
  | none => simp only [hm] at h1; exact (gx.no h1).elim
  | some mf =>
    simp only [hm] at h1
    obtain ⟨k1, f, k3, k4⟩ := (hF C mf hm).ex c g2
    cases hmm : mf [.obj C gs] with
    | ex _ _ => rw [hmm] at h1; exact (gx.no h1).elim
    | no => rw [hmm] at h1; exact (gx.no h1).elim
    | ok d' =>
      cases d' <;> first | (rw [hmm] at h1; exact (gx.no h1).elim) | skip
      rename_i n
      rw [hmm] at h1
      simp only at h1
      split at h1
      case isFalse => exact (gx.no h1).elim
      rename_i hc
      simp only [Bool.and_eq_true, decide_eq_true_eq] at hc
      refine ⟨a, c, dx, fs, f, mf, rfl, g1, k3, k4, sp_pure (ds := [.obj C gs]) s1 (.cons d0 .nil) rfl (fun d os hq v F' H' e2 eh2 s2 r2 => ?_) (fun y os hq => ?_) fun z => ?_⟩
      · unfold Lp at hq
        rw [hmm] at hq
        cases hq
        cases r2
        exact ⟨n, rfl, hc.1, hc.2, hk _ _ F' H' h1 (e1.trans e2) (eh1.trans eh2) s2 (.int n)⟩
      · unfold Lp at hq; rw [hmm] at hq; cases hq
      · unfold Lp at z; rw [hmm] at z; cases z
end
/-! ### bodies with super().__init__(..) in them -/
section
variable {X : Cx} {c : Code} {K : PySem.W.Frag} {E : XE} {β ω : Type} {κ : Kt β ω} {env : Fm} {st : List Stmt}
theorem abt_pre {S : Type} (j : Nat) (f : S → Fm) {mk : (S → R β ω) → R β ω} {r : S → R β ω} (h : ∀ k, AB X K E (κ.join S f k) env (st.take j) (mk k)) (hr : ∀ s, ABt X c K E κ (f s) (st.drop j) (r s)) : ABt X c K E κ env st (R.join r mk) := by
  have := abt_app f (h r) hr
  rw [List.take_append_drop] at this
  exact this
end
section
open PySem.W
variable {P : Program} {w : World} {K : PySem.W.Frag} {mg : Str → Option Value} {base : Heap} {x qual : Str} {st : Stmt} {f cc cda Dc : Addr} {k : Nat} {h : Heap}
theorem cls_look {cd : ClassData} (e : clsIn K Dc = some cd) : ∃ o cd, K.lookup Dc = some o ∧ o.data = .cls cd := by
  unfold clsIn at e
  split at e
  · rename_i h1; exact ⟨_, _, h1, rfl⟩
  · cases e
theorem kfun_mk {oc : Value} {od an : Option Addr} {doc pm ct : Value} {osl : Array (Option Value)} {oce ocd : Obj} {vs : Array Value} {file : Str} {tf : Nat} {cdD : ClassData} {a : Arg} (X : K.In h) (G : h.Ns mainGlobals mg)
    (lf : K.lookup f = some ⟨oc, od, .func (ksFn x qual (defArgs st) (defBody st) (defScope st) .none .none doc pm an (.ref cda) ct cc), osl⟩) (cI : codeIn K (.ref cda) qual = true) (lc : K.lookup cc = some oce) (ec : oce.data = .cell (some (.ref Dc))) (ld : K.lookup cda = some ocd) (ed : ocd.data = .fields vs) (e2 : vs[2]? = some (.str file tf))
    (fe : ((P.main.file : Str) == file) = true) (lD : clsIn K Dc = some cdD) (top : nsIn K cStatics "thirdparty.any" = some none) (hs : nsIn K mainGlobals "super" = some none) (tp : (P.main.scope.names.lookup ("super" : Str)).isSome = false) (ar : ((defArgs st).posonlyargs ++ (defArgs st).args).head? = some a) (as : a.arg = ("self" : Str))
    (n1 : (defScope st).names.lookup ("super" : Str) = some .globalImplicit) (n2 : (defScope st).names.lookup ("__class__" : Str) = some .free) (n3 : (defScope st).names.lookup ("self" : Str) = some .local) : KFun P K mg x qual st f cc cda Dc :=
  ⟨⟨oc, od, doc, pm, an, ct, osl, lf⟩, cI, ⟨oce, lc, ec⟩, ⟨ocd, vs, file, tf, ld, ed, e2, fe⟩, cls_look lD, top, mg_none_of X G hs, tp, ⟨a, ar, as⟩, n1, n2, n3⟩
theorem sup_mk {C : Str} {c f2 : Addr} {cd : ClassData} {fs : List Str} {mf : List D → R Unit (D × D)} (a : nsIn K mainGlobals C = some (some (.ref c))) (h1 : subIn K (.ref c) (.ref Dc) = some true) (h2 : clsIn K c = some cd) (h3 : ks_superIn K c Dc "__init__" = some (some (.ref f2))) (h4 : isFn K (.ref f2) = true) (h5 : fnIn K f2 = true) (F : PrR P w K mg base k f2 fs mf) :
    ∀ c', Cl K C c' → subIn K (.ref c') (.ref Dc) = some true ∧ ∃ f2 cd, clsIn K c' = some cd ∧ ks_superIn K c' Dc "__init__" = some (some (.ref f2)) ∧ typeIn K (.ref f2) = some (.type "function") ∧ fnIn K f2 = true ∧ PrR P w K mg base k f2 fs mf := fun c' h' => by
  have e := a.symm.trans h'
  cases e
  exact ⟨h1, f2, cd, h2, h3, beq_iff_eq.mp h4, h5, F⟩
end
section
variable {Xs : BI → Cx} {K : PySem.W.Frag} {env env0 : Fm} {elt t : Expr} {tag : Option Nat} {fs : List Str} {w : D}
theorem ael_f2 (i : Nat) {c : (D → D → R Unit (Option D × D)) → R Unit (Option D × D)} (hi : fget env i = .ow tag w fs) (h : ∀ bi, AF (Xs bi) K E0x (List.replicate env.length .un) () env i tag fs w elt c) (hlt : ∀ z, Wk (fput env i (.ow tag z fs)) (fput env0 i (.ow tag z fs))) : AEl Xs K (fun z => fput env0 i (.ow tag z fs)) false env [] elt (c fun y w1 => .ok (some y, w1)) := by
  have := ael_f1 (Xs := Xs) h hlt
  rw [fput_same hi (fun z => nomatch z)] at this
  exact this
end
end DM

/-! Operators that call a method of an object: o[i], x in o, o == x. -/
namespace DM
open PySem PySem.Spec PyProof.Rows L2 DL
/-- a method that an operator calls: mt: by class -/
def R.dun {β γ : Type} (mt : Str → Option (List D → R Unit D)) (d : D) (as : List D) (xb : β) (k : D → R β γ) : R β γ := match d with
  | .obj C gs => match mt C with
    | some mf => R.call (mf (.obj C gs :: as)) xb k
    | none => .no
  | _ => .no
structure FnC (K : PySem.W.Frag) (C m : Str) : Prop where
  ex : ∀ c f, Cl K C c → PySem.W.findIn K (.ref c) m = some (some (.ref f)) → PySem.W.fnIn K f = true
section
variable {X : Cx} {K : PySem.W.Frag} {E : XE} {β γ : Type} {xF : Fm} {xb : β} {env : Fm} {a b : Expr} {p pos : Pos} {c1 c2 : (D → R β γ) → R β γ} {k : Nat} {m : Str} {mt : Str → Option (List D → R Unit D)}
theorem runP1 {f : Addr} {sp : Sp} {Ek : XK} {pins : List (Addr × Obj)} {σ : L2.St} {H : Hp} {s : Shared} {Q : VK} {us : List Value} {vs : List V} (F : FnP X.prog X.w X.K X.mg X.base k f sp) (hr : Room (k + 1) X.A) (hG : Quiet X.A) (hx : PassesAt (L2.CX X.prog X.w) X σ Ek) (I : Inv X pins σ H s) (r : Vals vs us)
    (h : sp vs H Q Ek) : wpAny (model X.prog X.w) X.A.in1 (call (.ref f) us) (EP X pins σ Q) X.xe s := by
  refine wpAny_call (codeAny_mono (F X.A.in1 X.stack s H us vs Q Ek hr.in1 hG I.env0.in1 r h) fun z s' hq => ?_)
  match z, hq with
  | .error e, hq => exact hx pins H s e s' I hq
  | .ok (.ret u), hq => exact I.after hq
  | .ok .next, hq | .ok .brk, hq | .ok .cont, hq => exact False.elim hq
def rDun (X : Cx) (k : Nat) (m : Str) (Ek : XK) : V → V → Hp → VK → Prop := fun x y H Q => ∃ a c dx fs f mf, x = .ref a ∧ H a = some (.ins c dx fs) ∧ Meth X.K c m f ∧ PrP X.prog X.w X.K X.mg X.base k f none mf ∧ spM X.K (mk0 2) none (Lp mf) [.ref a, y] H Q Ek
theorem dun_core {B : Bs} {F H : Hp} {σ : L2.St} {v u : V} {d e : D} {G : R β γ → Prop} {kk : D → R β γ} {Q : VK} (hF : ∀ C mf, mt C = some mf → MethC X.prog X.w X.K X.mg X.base k C m none mf) (s : SR X.K B F H σ env) (w : Wk env xF) (gx : Gx X.K B E F σ xF xb G) (hv : Dr X.K F v d) (hu : Dr X.K F u e)
    (hk : ∀ d v F' H', G (kk d) → Ex F F' → Ex H H' → SR X.K B F' H' σ env → Dr X.K F' v d → Q v H') (hG : G (R.dun mt d [e] xb kk)) : rDun X k m (E σ) v u H Q := by
  cases d <;> first | exact (gx.no hG).elim | skip
  rename_i C gs
  unfold R.dun at hG
  cases hm : mt C with
  | none => simp only [hm] at hG; exact (gx.no hG).elim
  | some mf =>
    simp only [hm] at hG
    have d0 := hv
    obtain ⟨a, c, dx, fs, rfl, g1, g2, g3, g4⟩ := (Dh.obj s.ex (.inl hv))
    obtain ⟨k1, f, k3, k4⟩ := (hF C mf hm).ex c g2
    exact ⟨a, c, dx, fs, f, mf, rfl, g1, k3, k4, callP_core (ds := [.obj C gs, e]) s w gx (.cons d0 (.cons hu .nil)) (fun _ => rfl) hk hG⟩
/-- o[i], o an object -/
theorem a_getO (hF : ∀ C mf, mt C = some mf → MethC X.prog X.w K X.mg X.base k C "__getitem__" none mf) (hN : ∀ C mf, mt C = some mf → FnC K C "__getitem__") (ha : AE X K E xF xb env a c1) (hb : AE X K E xF xb env b c2) (hr : Room (k + 1) X.A) (hG : Quiet X.A) (hx : ∀ σ, PassesAt (L2.CX X.prog X.w) X σ (E σ))
    (hsl : ∀ o i, subscripted b true o i = runValue (.builtin "lifetime.subscript" ⟨[o, i], []⟩) := by intro _ _; with_unfolding_all rfl) :
    AE X K E xF xb env (.Subscript a b pos) (fun (k : D → R β γ) => c1 fun d => c2 fun e => R.dun mt d [e] xb k) := by
  have hK := ha.1
  subst hK
  refine ⟨rfl, fun B F H σ Q kk G s w gx hk hG' => ⟨fun σ' H' Q' => σ' = σ ∧ teC X a σ H' fun x H1 => teC X b σ H1 fun y H2 => rDun X k "__getitem__" (E σ) x y H2 Q' ∧ ∀ a c dx fs f, x = .ref a → H2 a = some (.ins c dx fs) → Meth X.K c "__getitem__" f → PySem.W.fnIn X.K f = true, ⟨fun pins s' σ' H' Q' I ⟨e1, h⟩ => ?_⟩, rfl, ?_⟩⟩
  · subst e1
    refine Subscript_ (binT pe_C pe_C I h fun v u s2 x y H2 I2 rx ry q => ?_)
    obtain ⟨⟨a', c, dx, fs, f, mf, rfl, ea, hm, hp, hs⟩, hfn⟩ := q
    obtain rfl : v = Value.ref a' := rx
    obtain ⟨mA, O, _, _, _, _⟩ := ins_get I2.hok ea
    obtain ⟨od, J, _⟩ := O.look
    obtain ⟨m0, hFr⟩ := I2.fr
    exact PySem.W.sub_K hFr I2.mod.kin J hm.at_ (hfn _ _ _ _ _ rfl ea hm) hm.fn (runP1 (vs := [.ref a', y]) (hp 2) hr hG (hx _) I2 (.cons rfl (.cons ry .nil)) hs) (hsl _ _)
  · refine ha.2 B F H σ _ _ G s w gx (fun d v F1 H1 h1 e1 eh1 s1 d1 => hb.2 B F1 H1 σ _ _ G s1 w (gx.mono e1) (fun e u F2 H2 h2 e2 eh2 s2 d2 => ?_) h1) hG'
    refine ⟨dun_core hF s2 w (gx.mono (e1.trans e2)) (d1.mono e2) d2 (fun d v F' H' g e3 eh3 s3 r3 => hk d v F' H' g (e1.trans (e2.trans e3)) (eh1.trans (eh2.trans eh3)) s3 r3) h2, fun a' c dx fs f ex ea hm => ?_⟩
    subst ex
    cases d <;> first | exact (gx.no h2).elim | skip
    rename_i C gs
    unfold R.dun at h2
    cases hmm : mt C with
    | none => simp only [hmm] at h2; exact (gx.no h2).elim
    | some mf =>
      obtain ⟨a2, c2, dx2, fs2, q1, g1, g2, g3, g4⟩ := (Dh.obj s2.ex (.inl (d1.mono e2)))
      cases q1
      rw [ea] at g1
      cases g1
      exact (hN C mf hmm).ex c f g2 hm.at_
/-! comparisons whose reading knows the slots -/
def OpS (X : Cx) (σ : L2.St) (f : Value → Value → Sem Value) (r : R2) : Prop :=
  ∀ (pins : List (Addr × Obj)) (s : Shared) (H : Hp) (x y : V) (v u : Value) (Q : VK), Inv X pins σ H s → RelV x v → RelV y u → r x y H Q → wpAny (model X.prog X.w) X.A (f v u) (EP X pins σ Q) X.xe s
def OpC (K : PySem.W.Frag) (E : XE) (xF : Fm) (xb : β) (env : Fm) (r : L2.St → R2) (cc : D → D → (D → R β γ) → R β γ) : Prop := ∀ (B : Bs) (F H : Hp) (σ : L2.St) (v u : V) (d e : D) (Q : VK) (kk : D → R β γ) (G : R β γ → Prop), SR K B F H σ env → Wk env xF → Gx K B E F σ xF xb G → Dr K F v d → Dr K F u e →
  (∀ d v F' H', G (kk d) → Ex F F' → Ex H H' → SR K B F' H' σ env → Dr K F' v d → Q v H') → G (cc d e kk) → r σ v u H Q
theorem ajS {r : L2.St → R2} {cc : D → D → (D → R β γ) → R β γ} (hc : OpC K E xF xb env r cc) (ha : AE X K E xF xb env a c1) (hb : AE X K E xF xb env b c2) {B : Bs} {F H : Hp} {σ : L2.St} {Q : VK} {kk : D → R β γ} {G : R β γ → Prop} (s : SR K B F H σ env) (w : Wk env xF) (gx : Gx K B E F σ xF xb G)
    (hk : ∀ d v F' H', G (kk d) → Ex F F' → Ex H H' → SR K B F' H' σ env → Dr K F' v d → Q v H') (hG : G (c1 fun d => c2 fun e => cc d e kk)) : teC X a σ H fun x H1 => teC X b σ H1 fun y H2 => r σ x y H2 Q :=
  ha.2 B F H σ _ _ G s w gx (fun d v F1 H1 h1 e1 eh1 s1 d1 => hb.2 B F1 H1 σ _ _ G s1 w (gx.mono e1) (fun e u F2 H2 h2 e2 eh2 s2 d2 =>
    hc B F2 H2 σ v u d e Q kk G s2 w (gx.mono (e1.trans e2)) (d1.mono e2) d2 (fun d v F' H' g e3 eh3 s3 r3 => hk d v F' H' g (e1.trans (e2.trans e3)) (eh1.trans (eh2.trans eh3)) s3 r3) h2) h1) hG
theorem a_cmpS {op : CmpOp} {r : L2.St → R2} {cc : D → D → (D → R β γ) → R β γ} (ho : ∀ σ, OpS X σ (compareOp op) (r σ)) (hc : OpC K E xF xb env r cc) (ha : AE X K E xF xb env a c1) (hb : AE X K E xF xb env b c2) (hm : behindInMarks op b = false) :
    AE X K E xF xb env (.Compare a [op] [b] pos) (fun (k : D → R β γ) => c1 fun d => c2 fun e => cc d e k) :=
  ⟨ha.1, fun B F H σ Q kk G s w gx hk hG => ⟨fun σ' H' Q' => σ' = σ ∧ teC X a σ H' fun x H1 => teC X b σ H1 fun y H2 => r σ x y H2 Q', ⟨fun pins s' σ' H' Q' I ⟨e1, h⟩ => by
    subst e1
    exact wpAny_Compare1 (binT pe_C pe_C I h fun v u s2 x y H2 I2 rx ry q => ho _ pins s2 H2 x y v u Q' I2 rx ry q) hm⟩, rfl, ajS hc ha hb s w gx hk hG⟩⟩
theorem at_cmpS {op : CmpOp} {r : L2.St → R2} {cc : D → D → (D → R β γ) → R β γ} (ho : ∀ σ, OpS X σ (compareOp op) (r σ)) (hc : OpC K E xF xb env r cc) (ha : AE X K E xF xb env a c1) (hb : AE X K E xF xb env b c2) (hm : behindInMarks op b = false) :
    AT X K E xF xb env (.Compare a [op] [b] pos) (fun (k : Bool → R β γ) => c1 fun d => c2 fun e => cc d e fun z => R.asB z k) :=
  ⟨ha.1, fun B F H σ Q kk G s w gx hk hG => ⟨fun σ' H' Q' => σ' = σ ∧ teC X a σ H' fun x H1 => teC X b σ H1 fun y H2 => r σ x y H2 (fun z H3 => ∃ q, z = .bl q ∧ Q' q H3), ⟨fun pins s' σ' H' Q' I ⟨e1, h⟩ => by
    subst e1
    refine wpAny_isTrue_Compare1 (thn (pe_C.run pins s' _ H' _ I h) fun v s1 ⟨x, H1, I1, r1, q1⟩ => thn (pe_C.run pins s1 _ H1 _ I1 q1) fun u s2 ⟨y, H2, I2, r2, q2⟩ =>
      thn (ho _ pins s2 H2 x y v u _ I2 r1 r2 q2) fun c s3 ⟨z, H3, I3, r3, q, e, q3⟩ => ?_) hm
    subst e
    cases r3
    exact wpAny_truthy_bool ⟨H3, I3, q3⟩⟩, rfl, ajS hc ha hb s w gx (fun d v F' H' g e1 eh1 s1 d1 => by
      cases d <;> first | exact (gx.no g).elim | skip
      cases d1
      exact ⟨_, rfl, hk _ _ F' H' g e1 eh1 s1 rfl⟩) hG⟩⟩
/-! x in o -/
def rInO (X : Cx) (k : Nat) (E : XE) (n : Bool) : L2.St → R2 := fun σ x y H Q => rDun X k "__contains__" (E σ) y x H (fun z H' => ∃ q, z = .bl q ∧ Q (.bl (q != n)) H')
theorem op_inO (hr : Room k X.A) (hG : Quiet X.A) (hx : ∀ σ, PassesAt (L2.CX X.prog X.w) X σ (E σ)) (σ : L2.St) : OpS X σ (compareOp .In) (rInO X k E false σ) := by
  intro pins s H x y v u Q I rx ry h
  obtain ⟨a', c, dx, fs, f, mf, rfl, ea, hm, hp, hs⟩ := h
  obtain rfl : u = Value.ref a' := ry
  obtain ⟨mA, O, _, _, _, _⟩ := ins_get I.hok ea
  obtain ⟨od, J, _⟩ := O.look
  obtain ⟨m0, hFr⟩ := I.fr
  refine PySem.W.in_K hFr I.mod.kin J hm.at_ hm.fn (thn (runP (vs := [.ref a', x]) (hp 2) hr hG (hx _) I (.cons rfl (.cons rx .nil)) hs) fun z s3 ⟨x3, H3, I3, r3, q, e, q3⟩ => ?_)
  subst e
  cases r3
  exact wpAny_truthy_bool ⟨.bl q, H3, I3, rfl, by simpa using q3⟩
theorem op_notInO (hr : Room k X.A) (hG : Quiet X.A) (hx : ∀ σ, PassesAt (L2.CX X.prog X.w) X σ (E σ)) (σ : L2.St) : OpS X σ (compareOp .NotIn) (rInO X k E true σ) := by
  intro pins s H x y v u Q I rx ry h
  obtain ⟨a', c, dx, fs, f, mf, rfl, ea, hm, hp, hs⟩ := h
  obtain rfl : u = Value.ref a' := ry
  obtain ⟨mA, O, _, _, _, _⟩ := ins_get I.hok ea
  obtain ⟨od, J, _⟩ := O.look
  obtain ⟨m0, hFr⟩ := I.fr
  refine PySem.W.notIn_K hFr I.mod.kin J hm.at_ hm.fn (thn (runP (vs := [.ref a', x]) (hp 2) hr hG (hx _) I (.cons rfl (.cons rx .nil)) hs) fun z s3 ⟨x3, H3, I3, r3, q, e, q3⟩ => ?_)
  subst e
  cases r3
  exact wpAny_truthy_bool ⟨.bl (!q), H3, I3, rfl, by simpa using q3⟩
def R.inO {β γ : Type} (mt : Str → Option (List D → R Unit D)) (n : Bool) (xb : β) (d e : D) (k : D → R β γ) : R β γ := R.dun mt e [d] xb fun z => R.asB z fun q => k (.bl (q != n))
theorem oc_inO {n : Bool} (hF : ∀ C mf, mt C = some mf → MethC X.prog X.w K X.mg X.base k C "__contains__" none mf) (hK : X.K = K := by rfl) : OpC (γ := γ) K E xF xb env (rInO X k E n) (R.inO mt n xb) := by
  subst hK
  intro B F H σ v u d e Q kk G s w gx hv hu hk hG
  refine dun_core hF s w gx hu hv (fun d v F' H' g e1 eh1 s1 d1 => ?_) hG
  cases d <;> first | exact (gx.no g).elim | skip
  cases d1
  exact ⟨_, rfl, hk _ _ F' H' g e1 eh1 s1 (.bl _)⟩
/-! o == x -/
theorem u_lt {A : Around} (h : A.units + 64 < cLine) : A.units < cLine := by omega
theorem u_lt1 {A : Around} (h : A.units + 64 < cLine) : A.units + 1 < cLine := by omega
theorem richCompare_K {prog : Program} {w : World} {A : Around} {Ex : Value → Shared → Prop} {s : Shared} {x C fA : Addr} {ox : Obj} {od : Option Obj} {op : CmpOp} {sym : String} {f r : Str} {u tb : Value} {Q : Value → Shared → Prop} (hop : cmpInfo op = (sym, f, r)) (Z : K.In s.heap) (I : PySem.W.InstAt s.heap x ox C od) (hs : PySem.W.findIn K (.ref C) f = some (some (.ref fA))) (hf : PySem.W.isFn K (.ref fA) = true) (hu : A.units < cLine)
    (ht : PySem.W.Looks (model prog w) s.heap (typeOf u) tb) (hb : tb = .ref C ∨ PySem.W.subIn K tb (.ref C) = some false) (h : wpAny (model prog w) A (call (.ref fA) [.ref x, u]) (fun v s' => ∃ b, v = .bool b ∧ Q (.bool b) s') Ex s) :
    wpAny (model prog w) A (richCompare op (.ref x) u) Q Ex s := by
  have o1 : oneThing? op (.ref x) u = none := by cases u <;> rfl
  unfold richCompare
  simp only [o1]
  refine wpAny_holding ?_
  refine wpAny_bind (wpAny_cRoomFor hu ?_)
  rw [hop]
  dsimp only
  refine wpAny_bind (I.type.here (wpAny_bind (ht.here ?_)))
  have cmp : ∀ {P : Option Value → Shared → Prop}, (∀ b s', Q (.bool b) s' → P (some (.bool b)) s') → wpAny (model prog w) A (tryCompare (.ref x) f u) P Ex s := fun hP => by
    unfold tryCompare
    refine wpAny_bind (PySem.W.ifBound_K Z I hs hf (wpAny_mono h (fun v s' hv => ?_) fun _ _ e => e))
    obtain ⟨b, rfl, hq⟩ := hv
    exact wpAny_pure (hP b s' hq)
  split
  · rename_i hne
    rcases hb with rfl | hb
    · simp at hne
    · refine wpAny_bind ((PySem.W.looks_subIn Z hb).here ?_)
      simp only [Bool.false_eq_true, if_false]
      exact wpAny_bind (cmp fun b s' hq => wpAny_pure hq)
  · first
    | exact wpAny_bind (cmp fun b s' hq => wpAny_pure hq)
    | (refine wpAny_bind (wpAny_pure ?_)
       simp only [Bool.false_eq_true, if_false]
       exact wpAny_bind (cmp fun b s' hq => wpAny_pure hq))
theorem check_ne {M : Model} {A : Around} {Ex : Value → Shared → Prop} {s : Shared} {x C : Addr} {ox : Obj} {od : Option Obj} {u : Value} {Q : Unit → Shared → Prop} (Z : K.In s.heap) (I : PySem.W.InstAt s.heap x ox C od) (hob : PySem.W.subIn K (.ref C) (.type "object") = some true) (hq : Q () s) :
    wpAny M A (checkBuiltinCall "object.__ne__" ⟨[.ref x, u], []⟩) Q Ex s := by
  have ha := PySem.F.cmpArgs_ne (.ref x) u
  simp only [checkBuiltinCall, PySem.F.cmpKind_ne, PySem.F.cmpSplit_ne]
  refine wpAny_bind ?_
  unfold isInstance
  refine wpAny_bind (I.type.here ((PySem.W.looks_subIn Z hob).here ?_))
  simp only [Bool.not_true, Bool.false_eq_true, if_false]
  cases hsig : Manifest.signature? "object.__ne__" with
  | none => exact wpAny_pure hq
  | some sig =>
    simp only [argsOk, hsig] at ha
    have h2 : Bind.checkArgs "object.__ne__" sig ⟨[.ref x, u], []⟩ = pure () := ha
    show wpAny M A (Bind.checkArgs "object.__ne__" sig ⟨[.ref x, u], []⟩) Q Ex _
    rw [h2]; exact wpAny_pure hq
theorem richNe_K {prog : Program} {w : World} {A : Around} {Ex : Value → Shared → Prop} {s : Shared} {x C fA : Addr} {ox : Obj} {od : Option Obj} {u tb : Value} {Q : Value → Shared → Prop} (Z : K.In s.heap) (I : PySem.W.InstAt s.heap x ox C od) (hn : PySem.W.findIn K (.ref C) "__ne__" = some (some (.builtin "object.__ne__"))) (hob : PySem.W.subIn K (.ref C) (.type "object") = some true)
    (hs : PySem.W.findIn K (.ref C) "__eq__" = some (some (.ref fA))) (hf : PySem.W.isFn K (.ref fA) = true) (hu : A.units + 1 < cLine) (ht : PySem.W.Looks (model prog w) s.heap (typeOf u) tb) (hb : tb = .ref C ∨ PySem.W.subIn K tb (.ref C) = some false)
    (h : wpAny (model prog w) A.in1 (call (.ref fA) [.ref x, u]) (fun v s' => ∃ b, v = .bool b ∧ Q (.bool (!b)) s') Ex s) :
    wpAny (model prog w) A (richCompare .NotEq (.ref x) u) Q Ex s := by
  have o1 : oneThing? .NotEq (.ref x) u = none := by cases u <;> rfl
  have S := PySem.F.slot_object_ne
  unfold richCompare
  simp only [o1]
  refine wpAny_holding ?_
  refine wpAny_bind (wpAny_cRoomFor (Nat.lt_of_succ_lt hu) ?_)
  rw [cmpInfo_NotEq]
  dsimp only
  refine wpAny_bind (I.type.here (wpAny_bind (ht.here ?_)))
  have cmp : ∀ {P : Option Value → Shared → Prop}, (∀ b s', Q (.bool b) s' → P (some (.bool b)) s') → wpAny (model prog w) A (tryCompare (.ref x) "__ne__" u) P Ex s := fun hP => by
    unfold tryCompare
    refine wpAny_bind ?_
    simp only [callSpecialIfBound?, bindSpecialIfBound?]
    refine wpAny_holding (wpAny_bind (wpAny_bind (wpAny_bind (I.type.here ((PySem.W.looks_findIn Z hn).here ?_)))))
    simp only [S.bind]
    refine wpAny_bind (wpAny_askSetting (wpAny_ite ?_))
    have fin : ∀ {P' : Option Value → Shared → Prop}, (∀ b s', Q (.bool b) s' → P' (some (.bool b)) s') → wpAny (model prog w) A (call (.builtin "object.__ne__") ([.ref x] ++ [u]) >>= fun v => pure (some v)) P' Ex s := fun hP' => by
      refine wpAny_bind (wpAny_call (codeAny_call_builtin S.plain PySem.F.cmpEntry_ne (check_ne Z I hob ?_)))
      unfold Builtin.«object.__ne__»
      repeat (first
        | with_reducible refine wpAny_cRoomFor hu ?_
        | (refine wpAny_bind (m := callSpecialIfBound? (.ref x) (Str.ofString "__eq__") [u])
            (PySem.W.ifBound_K Z I hs hf (wpAny_mono h (fun r s' hr => by
              obtain ⟨b, rfl, hq⟩ := hr
              have hq' := hP' _ _ hq
              repeat (first | exact hq | exact wpAny_pure hq | exact wpAny_pure hq' | exact wpAny_pure (wpAny_pure hq') | exact wpAny_truthy_bool hq | (refine wpAny_bind (m := truthy (.bool _)) (wpAny_truthy_bool ?_)) | wp_step)) fun _ _ e => e)))
        | wp_step)
    split
    · exact wpAny_bind (wpAny_pure (wpAny_pure (fin fun b s' hq => wpAny_pure (hP b s' hq))))
    · exact wpAny_tryCatch (wpAny_bind (wpAny_pure (wpAny_pure (fin fun b s' hq => wpAny_pure (hP b s' hq)))))
  split
  · rename_i hne
    rcases hb with rfl | hb
    · simp at hne
    · refine wpAny_bind ((PySem.W.looks_subIn Z hb).here ?_)
      simp only [Bool.false_eq_true, if_false]
      exact wpAny_bind (cmp fun b s' hq => wpAny_pure hq)
  · first
    | exact wpAny_bind (cmp fun b s' hq => wpAny_pure hq)
    | (refine wpAny_bind (wpAny_pure ?_)
       simp only [Bool.false_eq_true, if_false]
       exact wpAny_bind (cmp fun b s' hq => wpAny_pure hq))
def okB (sb : Str → Str → Bool) (C : Str) (e : D) : Bool := sb C C && match e with
  | .obj C' _ => sb C C'
  | e => (tyn e).isSome
/-- o == x, o != x (n): sb: which classes may stand beside which -/
def R.eqO {β γ : Type} (mt : Str → Option (List D → R Unit D)) (sb : Str → Str → Bool) (n : Bool) (xb : β) (d e : D) (k : D → R β γ) : R β γ := match d with
  | .obj C gs => if okB sb C e then R.dun mt (.obj C gs) [e] xb fun z => R.asB z fun q => k (.bl (q != n)) else .no
  | _ => .no
structure EqC (K : PySem.W.Frag) (sb : Str → Str → Bool) : Prop where
  ex : ∀ C, sb C C = true → ∀ c, Cl K C c → (∀ a ∈ tys, PySem.W.subIn K (.type a) (.ref c) = some false) ∧ PySem.W.findIn K (.ref c) "__ne__" = some (some (.builtin "object.__ne__")) ∧ PySem.W.subIn K (.ref c) (.type "object") = some true ∧
    ∀ C', sb C C' = true → ∀ c', Cl K C' c' → c' = c ∨ PySem.W.subIn K (.ref c') (.ref c) = some false
def TyB (X : Cx) (H : Hp) (y : V) (t : Value) : Prop := TyX X.K H y t ∨ ∃ a c dx fs, y = .ref a ∧ H a = some (.ins c dx fs) ∧ t = .ref c
theorem TyB.look {pins : List (Addr × Obj)} {σ : L2.St} {H : Hp} {s : Shared} {y : V} {u t : Value} (I : Inv X pins σ H s) (r : RelV y u) (h : TyB X H y t) : PySem.W.Looks (model X.prog X.w) s.heap (typeOf u) t := by
  rcases h with h | ⟨a, c, dx, fs, rfl, ea, rfl⟩
  · obtain ⟨P, Z, p, _⟩ := kit_of I r h
    exact Z.ty _ _ I.kIn p
  · obtain rfl : u = Value.ref a := r
    obtain ⟨mA, O, _, _, _, _⟩ := ins_get I.hok ea
    obtain ⟨od, J, _⟩ := O.look
    exact J.type
def rEqO (X : Cx) (k : Nat) (E : XE) (n : Bool) : L2.St → R2 := fun σ x y H Q => ∃ a c dx fs tb, x = .ref a ∧ H a = some (.ins c dx fs) ∧ TyB X H y tb ∧ (tb = .ref c ∨ PySem.W.subIn X.K tb (.ref c) = some false) ∧ PySem.W.findIn X.K (.ref c) "__ne__" = some (some (.builtin "object.__ne__")) ∧ PySem.W.subIn X.K (.ref c) (.type "object") = some true ∧
  rDun X k "__eq__" (E σ) x y H (fun z H' => ∃ q, z = .bl q ∧ Q (.bl (q != n)) H')
theorem op_eqO (hr : Room (k + 1) X.A) (hG : Quiet X.A) (hx : ∀ σ, PassesAt (L2.CX X.prog X.w) X σ (E σ)) (hu : X.A.units < cLine) (hr' : Room k X.A) (σ : L2.St) : OpS X σ (compareOp .Eq) (rEqO X k E false σ) := by
  intro pins s H x y v u Q I rx ry h
  obtain ⟨a, c, dx, fs, tb, rfl, ea, ht, hb, _, _, a', c', dx', fs', f, mf, ex, ea', hm, hp, hs⟩ := h
  cases ex
  rw [ea] at ea'
  cases ea'
  obtain rfl : v = Value.ref a := rx
  obtain ⟨mA, O, _, _, _, _⟩ := ins_get I.hok ea
  obtain ⟨od, J, _⟩ := O.look
  refine PySem.W.cmp_ofEq ?_
  refine richCompare_K (K := X.K) (op := .Eq) cmpInfo_Eq I.kIn J hm.at_ hm.fn hu (ht.look I ry) hb (thn (runP (vs := [.ref a, y]) (hp 2) hr' hG (hx _) I (.cons rfl (.cons ry .nil)) hs) fun z s3 ⟨x3, H3, I3, r3, q, e, q3⟩ => ?_)
  subst e
  cases r3
  exact ⟨q, rfl, .bl q, H3, I3, rfl, by simpa using q3⟩
theorem op_neO (hr : Room (k + 1) X.A) (hG : Quiet X.A) (hx : ∀ σ, PassesAt (L2.CX X.prog X.w) X σ (E σ)) (hu : X.A.units + 1 < cLine) (hr' : Room k X.A) (σ : L2.St) : OpS X σ (compareOp .NotEq) (rEqO X k E true σ) := by
  intro pins s H x y v u Q I rx ry h
  obtain ⟨a, c, dx, fs, tb, rfl, ea, ht, hb, hn, ho, a', c', dx', fs', f, mf, ex, ea', hm, hp, hs⟩ := h
  cases ex
  rw [ea] at ea'
  cases ea'
  obtain rfl : v = Value.ref a := rx
  obtain ⟨mA, O, _, _, _, _⟩ := ins_get I.hok ea
  obtain ⟨od, J, _⟩ := O.look
  unfold compareOp
  refine richNe_K (K := X.K) I.kIn J hn ho hm.at_ hm.fn hu (ht.look I ry) hb (thn (runP1 (vs := [.ref a, y]) (hp 2) hr hG (hx _) I (.cons rfl (.cons ry .nil)) hs) fun z s3 ⟨x3, H3, I3, r3, q, e, q3⟩ => ?_)
  subst e
  cases r3
  exact ⟨q, rfl, .bl (!q), H3, I3, rfl, by simpa using q3⟩
theorem oc_eqO {n : Bool} {sb : Str → Str → Bool} (hF : ∀ C mf, mt C = some mf → MethC X.prog X.w K X.mg X.base k C "__eq__" none mf) (hE : EqC K sb) (hK : X.K = K := by rfl) : OpC (γ := γ) K E xF xb env (rEqO X k E n) (R.eqO mt sb n xb) := by
  subst hK
  intro B F H σ v u d e Q kk G s w gx hv hu hk hG
  cases d <;> first | exact (gx.no hG).elim | skip
  rename_i C gs
  unfold R.eqO at hG
  simp only at hG
  split at hG
  case isFalse => exact (gx.no hG).elim
  rename_i hok
  unfold okB at hok
  rw [Bool.and_eq_true] at hok
  have hv0 := hv
  obtain ⟨a, c, dx, fs, rfl, g1, g2, g3, g4⟩ := (Dh.obj s.ex (.inl hv))
  obtain ⟨k1, k2, k3, k4⟩ := hE.ex C hok.1 c g2
  have tb : ∃ tb, TyB X H u tb ∧ (tb = .ref c ∨ PySem.W.subIn X.K tb (.ref c) = some false) := by
    have plain : ∀ t, tyn e = some t → ∃ tb, TyB X H u tb ∧ (tb = .ref c ∨ PySem.W.subIn X.K tb (.ref c) = some false) := fun t ht => ⟨.type t, Or.inl ((show Dh X.K F H u e from .inl hu).ty s.ex ht), Or.inr (k1 t (tyn_mem ht))⟩
    have h2 := hok.2
    cases e with
    | obj C' gs' =>
      obtain ⟨a2, c2, dx2, fs2, rfl, j1, j2, j3, j4⟩ := (Dh.obj s.ex (.inl hu))
      refine ⟨.ref c2, Or.inr ⟨a2, c2, dx2, fs2, rfl, j1, rfl⟩, ?_⟩
      rcases k4 C' h2 c2 j2 with rfl | q
      · exact Or.inl rfl
      · exact Or.inr q
    | non => exact plain _ rfl
    | bl b => exact plain _ rfl
    | int i => exact plain _ rfl
    | str z => exact plain _ rfl
    | lst ds => exact plain _ rfl
    | tup ds => exact plain _ rfl
    | dct ds => exact plain _ rfl
    | ty T => cases h2
    | exc C fs => cases h2
  obtain ⟨tb, h1, h2⟩ := tb
  exact ⟨a, c, dx, fs, tb, rfl, g1, h1, h2, k2, k3, dun_core hF s w gx hv0 hu (fun d v F' H' g e1 eh1 s1 d1 => by
    cases d <;> first | exact (gx.no g).elim | skip
    cases d1
    exact ⟨_, rfl, hk _ _ F' H' g e1 eh1 s1 (.bl _)⟩) hG⟩
end
section
open PySem.W
variable {K : PySem.W.Frag} {mg : Str → Option Value} {C C' m : Str} {c c' f : Addr} {h : Heap}
theorem fnc_mk (a : nsIn K mainGlobals C = some (some (.ref c))) (hm : findIn K (.ref c) m = some (some (.ref f))) (hf : fnIn K f = true) : FnC K C m := ⟨fun c' f' h' hm' => by
  have e := a.symm.trans h'
  cases e
  have e2 := hm.symm.trans hm'
  cases e2
  exact hf⟩
theorem sub_tys (c : Addr) : ∀ a ∈ tys, subIn K (.type a) (.ref c) = some false := by
  intro a ha
  simp only [tys, List.mem_cons, List.not_mem_nil, or_false] at ha
  rcases ha with rfl | rfl | rfl | rfl | rfl | rfl | rfl <;> rfl
def EqP (K : PySem.W.Frag) (C C' : Str) : Prop := ∀ c, Cl K C c → findIn K (.ref c) "__ne__" = some (some (.builtin "object.__ne__")) ∧ subIn K (.ref c) (.type "object") = some true ∧ ∀ c', Cl K C' c' → c' = c ∨ subIn K (.ref c') (.ref c) = some false
theorem eqp_mk (a : nsIn K mainGlobals C = some (some (.ref c))) (a' : nsIn K mainGlobals C' = some (some (.ref c'))) (h1 : findIn K (.ref c) "__ne__" = some (some (.builtin "object.__ne__"))) (h2 : subIn K (.ref c) (.type "object") = some true) (h3 : c' = c ∨ subIn K (.ref c') (.ref c) = some false) : EqP K C C' := fun d hd => by
  have e := a.symm.trans hd
  cases e
  refine ⟨h1, h2, fun d' hd' => ?_⟩
  have e' := a'.symm.trans hd'
  cases e'
  exact h3
def sbOf (ps : List (Str × Str)) : Str → Str → Bool := fun C C' => ps.any fun q => decide (q.1 = C) && decide (q.2 = C')
theorem eqc_of {ps : List (Str × Str)} (h : ∀ q ∈ ps, EqP K q.1 q.2) : EqC K (sbOf ps) := by
  have key : ∀ C C', sbOf ps C C' = true → EqP K C C' := fun C C' hs => by
    unfold sbOf at hs
    obtain ⟨q, hq, e⟩ := List.any_eq_true.mp hs
    rw [Bool.and_eq_true, decide_eq_true_eq, decide_eq_true_eq] at e
    rw [← e.1, ← e.2]
    exact h q hq
  refine ⟨fun C hs c hc => ?_⟩
  obtain ⟨h1, h2, _⟩ := key C C hs c hc
  exact ⟨sub_tys c, h1, h2, fun C' hs' c' hc' => (key C C' hs' c hc).2.2 c' hc'⟩
theorem isic_mk {x : Str} {ic : Str → Option Bool} (X : K.In h) (G : h.Ns mainGlobals mg) (a : nsIn K mainGlobals x = some (some (.ref c))) (g1 : specialIn K (.builtin "object.__class__") "__get__" = some (some (.builtin "getset_descriptor.__get__"))) (g2 : takesIn K (.builtin "object.__class__") = some true) (g3 : ∀ a ∈ tys, kitOne K (.type a) (.ref c) = some false)
    (hC : ∀ C b, ic C = some b → ∃ c', nsIn K mainGlobals C = some (some (.ref c')) ∧ Cls K c' ∧ findIn K (.ref c') "__class__" = some (some (.builtin "object.__class__")) ∧ mroIn K c' (.type "object") = some true ∧ kitOne K (.ref c') (.ref c) = some b) : IsiC K mg x ic := by
  refine ⟨c, mg_of X G a, fun C b h c' hc' => ?_, g1, g2, g3⟩
  obtain ⟨d, a', k1, k2, k3, k4⟩ := hC C b h
  have e := a'.symm.trans hc'
  cases e
  exact ⟨k1, k2, k3, k4⟩
theorem tys_one {P : String → Prop} (h1 : P "NoneType") (h2 : P "bool") (h3 : P "int") (h4 : P "str") (h5 : P "list") (h6 : P "tuple") (h7 : P "dict") : ∀ a ∈ tys, P a := by
  intro a ha
  simp only [tys, List.mem_cons, List.not_mem_nil, or_false] at ha
  rcases ha with rfl | rfl | rfl | rfl | rfl | rfl | rfl <;> assumption
end
end DM

/-! o + x, x + o. -/
namespace DM
open PySem PySem.Spec PyProof.Rows L2 DL
theorem fl_tuple : fillsNumberSlot (.type "tuple") "add" = pure false := by kernel_rfl
theorem fl_list : fillsNumberSlot (.type "list") "add" = pure false := by kernel_rfl
theorem fl_str : fillsNumberSlot (.type "str") "add" = pure false := by kernel_rfl
theorem fl_dict : fillsNumberSlot (.type "dict") "add" = pure false := by kernel_rfl
theorem fl_none : fillsNumberSlot (.type "NoneType") "add" = pure false := by kernel_rfl
theorem fl_int : fillsNumberSlot (.type "int") "add" = pure true := by kernel_rfl
theorem fl_bool : fillsNumberSlot (.type "bool") "add" = pure true := by kernel_rfl
theorem tl_int : typeLookup (.type "int") (dunderR "add") = pure (some (.builtin "int.__radd__")) := by kernel_rfl
theorem tl_bool : typeLookup (.type "bool") (dunderR "add") = pure (some (.builtin "int.__radd__")) := by kernel_rfl
theorem dunder_add : (dunder "add" : Str) = "__add__" := by decide +kernel
theorem dunderR_add : (dunderR "add" : Str) = "__radd__" := by decide +kernel
theorem fl_tys : ∀ a ∈ tys, ∃ r, fillsNumberSlot (.type a) "add" = pure r ∧ (r = true → ∃ o, typeLookup (.type a) (dunderR "add") = pure o) :=
  tys_one ⟨_, fl_none, nofun⟩ ⟨_, fl_bool, fun _ => ⟨_, tl_bool⟩⟩ ⟨_, fl_int, fun _ => ⟨_, tl_int⟩⟩ ⟨_, fl_str, nofun⟩ ⟨_, fl_list, nofun⟩ ⟨_, fl_tuple, nofun⟩ ⟨_, fl_dict, nofun⟩
section
open PySem.W
variable {prog : Program} {w : World} {A : Around} {E : Value → Shared → Prop} {s : Shared} {K : Frag} {x C f : Addr} {ox : Obj} {od : Option Obj} {u : Value} {T : String} {Q : Value → Shared → Prop}
theorem self_first (hc : selfFirst K C = true) : ∃ cd rest, clsIn K C = some cd ∧ cd.mro = .ref C :: rest := by
  obtain ⟨cd, hcd, hm⟩ := any_some hc
  cases q : cd.mro with
  | nil => rw [q] at hm; cases hm
  | cons a r => rw [q] at hm; rw [List.head?_cons] at hm; cases (beq_iff_eq.mp hm); exact ⟨cd, r, hcd, q⟩
theorem nsp {M : Model} {h : Heap} {f f2 : Addr} (X : K.In h) (hs : findIn K (.ref C) (PySem.dunder "add") = some (some (.ref f))) (hs2 : findIn K (.ref C) (dunderR "add") = some (some (.ref f2))) : Looks M h (numberSlotInPython (.ref C) "add") true := by
  intro A Q E s k q
  unfold numberSlotInPython
  refine wpAny_bind (looks_findIn X hs A _ E s k ?_)
  refine wpAny_bind (wpAny_pure ?_)
  refine wpAny_bind (looks_findIn X hs2 A _ E s k ?_)
  refine wpAny_bind (wpAny_pure ?_)
  simp only [Bool.or_self, if_true]
  exact wpAny_pure q
/-- o + x, x of a built-in type, or an object of the same class -/
theorem add1_K {tb : Value} (X : K.In s.heap) (I : InstAt s.heap x ox C od) (hb : Looks (model prog w) s.heap (typeOf u) tb) (htb : tb = .ref C ∨ ∃ T, T ∈ tys ∧ tb = .type T) (hc : selfFirst K C = true) (hs : findIn K (.ref C) "__add__" = some (some (.ref f))) (hf : isFn K (.ref f) = true) {f2 : Addr} (hs2 : findIn K (.ref C) "__radd__" = some (some (.ref f2)))
    (h : wpAny (model prog w) A (call (.ref f) [.ref x, u]) (PySem.W.CmpBack Q) E s) : wpAny (model prog w) A (binaryOp1 "add" (.ref x) u) (fun v s' => ∃ z, v = some z ∧ Q z s') E s := by
  obtain ⟨cd, rest, hcd, hm⟩ := self_first hc
  have hs' : findIn K (.ref C) (PySem.dunder "add") = some (some (.ref f)) := by rw [dunder_add]; exact hs
  have hs2' : findIn K (.ref C) (dunderR "add") = some (some (.ref f2)) := by rw [dunderR_add]; exact hs2
  have hfin : wpAny (model prog w) A (tryMethod (.ref x) (PySem.dunder "add") u) (fun v s' => ∃ z, v = some z ∧ Q z s') E s := by
    unfold tryMethod
    refine wpAny_bind (special_fn X I hs' (beq_iff_eq.mp hf) (wpAny_mono h (fun v s' hv => ?_) fun _ _ e => e))
    cases v <;> first | exact hv.elim | exact wpAny_pure ⟨_, rfl, hv⟩
  unfold binaryOp1
  refine wpAny_bind (I.type.here (wpAny_bind (hb.here (wpAny_bind ((fills_K X hcd hm hs').here ?_)))))
  rcases htb with rfl | ⟨T, hT, rfl⟩
  · simp only [beq_self_eq_true, if_true]
    refine wpAny_bind (wpAny_pure ?_)
    simp only [Bool.and_false, Bool.false_eq_true, if_false, Bool.false_and]
    refine wpAny_bind (wpAny_pure ?_)
    simp only [Bool.false_eq_true, if_false]
    exact wpAny_bind (wpAny_mono hfin (fun v s' ⟨z, e, q⟩ => by subst e; exact wpAny_pure ⟨z, rfl, q⟩) fun _ _ e => e)
  obtain ⟨r, hr, ho⟩ := fl_tys T hT
  have hne : (Value.ref C == Value.type T) = false := rfl
  simp only [hne, Bool.false_eq_true, if_false, hr]
  refine wpAny_bind (wpAny_pure ?_)
  cases r
  · simp only [Bool.and_false, Bool.false_eq_true, if_false, Bool.false_and]
    refine wpAny_bind (wpAny_pure ?_)
    simp only [Bool.false_eq_true, if_false]
    exact wpAny_bind (wpAny_mono hfin (fun v s' ⟨z, e, q⟩ => by subst e; exact wpAny_pure ⟨z, rfl, q⟩) fun _ _ e => e)
  · obtain ⟨o, ho⟩ := ho rfl
    have n2 : ∀ {P : Bool → Shared → Prop}, P false s → wpAny (model prog w) A (numberSlotInPython (.type T) "add") P E s := fun hP => wpAny_pure hP
    simp only [Bool.and_true, Bool.and_self, if_true]
    refine wpAny_bind ((looks_subIn X (sub_tys C T hT)).here ?_)
    simp only [Bool.false_eq_true, if_false, Bool.not_false, Bool.and_self, Bool.and_true, if_true]
    refine wpAny_bind ((nsp X hs' hs2').here ?_)
    simp only [if_true]
    refine wpAny_bind (n2 ?_)
    simp only [Bool.not_false, if_true, ho]
    refine wpAny_bind (wpAny_pure ?_)
    exact wpAny_bind (wpAny_mono hfin (fun v s' ⟨z, e, q⟩ => by subst e; exact wpAny_pure ⟨z, rfl, q⟩) fun _ _ e => e)
theorem add_K {tb : Value} (X : K.In s.heap) (I : InstAt s.heap x ox C od) (hb : Looks (model prog w) s.heap (typeOf u) tb) (htb : tb = .ref C ∨ ∃ T, T ∈ tys ∧ tb = .type T) (hc : selfFirst K C = true) (hs : findIn K (.ref C) "__add__" = some (some (.ref f))) (hf : isFn K (.ref f) = true) {f2 : Addr} (hs2 : findIn K (.ref C) "__radd__" = some (some (.ref f2)))
    (h : wpAny (model prog w) A (call (.ref f) [.ref x, u]) (PySem.W.CmpBack Q) E s) : wpAny (model prog w) A (binaryOp .Add (.ref x) u) Q E s := by
  unfold binaryOp
  refine wpAny_holding (wpAny_bind ?_)
  exact wpAny_mono (add1_K X I hb htb hc hs hf hs2 h) (fun v s' ⟨z, e, q⟩ => by subst e; exact wpAny_pure q) fun _ _ e => e
def mro2 (K : Frag) (C : Addr) : Bool := (clsIn K C).any fun cd => cd.mro == [.ref C, .type "object"]
theorem tl_iobj : typeLookup (.type "object") (dunderI "add") = pure none := by kernel_rfl
theorem dunderI_add : (dunderI "add" : Str) = "__iadd__" := by decide +kernel
theorem iadd_K {tb : Value} (X : K.In s.heap) (I : InstAt s.heap x ox C od) (hb : Looks (model prog w) s.heap (typeOf u) tb) (htb : tb = .ref C ∨ ∃ T, T ∈ tys ∧ tb = .type T) (hc : selfFirst K C = true) (h2 : mro2 K C = true) (hi : findIn K (.ref C) "__iadd__" = some none) (hs : findIn K (.ref C) "__add__" = some (some (.ref f))) (hf : isFn K (.ref f) = true) {f2 : Addr} (hs2 : findIn K (.ref C) "__radd__" = some (some (.ref f2)))
    (h : wpAny (model prog w) A (call (.ref f) [.ref x, u]) (PySem.W.CmpBack Q) E s) : wpAny (model prog w) A (inplaceOp .Add (.ref x) u) Q E s := by
  obtain ⟨cd, hcd, hm⟩ := any_some h2
  have hm : cd.mro = [.ref C, .type "object"] := eq_of_beq hm
  have hi' : findIn K (.ref C) (dunderI "add") = some none := by rw [dunderI_add]; exact hi
  have fi : ∀ {P : Bool → Shared → Prop}, P false s → wpAny (model prog w) A (fillsInplaceSlot (.ref C) "add" true) P E s := fun hP => by
    unfold fillsInplaceSlot
    refine wpAny_bind ((looks_clsIn X hcd).andThen (f := fun cd => pure cd.mro) .now A _ E s (fun _ _ e => e) ?_)
    rw [hm, List.anyM_cons]
    refine wpAny_bind (wpAny_bind ((looks_findIn X hi').here ?_))
    refine wpAny_pure ?_
    simp only [Bool.false_eq_true, if_false]
    rw [List.anyM_cons]
    refine wpAny_bind ?_
    rw [tl_iobj]
    refine wpAny_bind (wpAny_pure (wpAny_pure ?_))
    simp only [Bool.false_eq_true, if_false]
    exact wpAny_pure hP
  unfold inplaceOp
  refine wpAny_holding (wpAny_bind (I.type.here (wpAny_bind (fi ?_))))
  simp only [Bool.false_eq_true, if_false]
  refine wpAny_bind ?_
  exact wpAny_mono (add1_K X I hb htb hc hs hf hs2 h) (fun v s' ⟨z, e, q⟩ => by subst e; exact wpAny_pure q) fun _ _ e => e
/-- x + o, x a tuple or a list -/
theorem radd_K (X : K.In s.heap) (I : InstAt s.heap x ox C od) (hb : Looks (model prog w) s.heap (typeOf u) (.type T)) (hc : selfFirst K C = true) (hT : T = "tuple" ∨ T = "list") (hs : findIn K (.ref C) "__add__" = some (some (.ref f))) {f2 : Addr} (hs2 : findIn K (.ref C) "__radd__" = some (some (.ref f2))) (hf : isFn K (.ref f2) = true)
    (h : wpAny (model prog w) A (call (.ref f2) [.ref x, u]) (PySem.W.CmpBack Q) E s) : wpAny (model prog w) A (binaryOp .Add u (.ref x)) Q E s := by
  obtain ⟨cd, rest, hcd, hm⟩ := self_first hc
  have hr : fillsNumberSlot (.type T) "add" = pure false := by rcases hT with rfl | rfl <;> first | exact fl_tuple | exact fl_list
  have hs' : findIn K (.ref C) (PySem.dunder "add") = some (some (.ref f)) := by rw [dunder_add]; exact hs
  have hs2' : findIn K (.ref C) (dunderR "add") = some (some (.ref f2)) := by rw [dunderR_add]; exact hs2
  have hfin : wpAny (model prog w) A (tryMethod (.ref x) (dunderR "add") u) (fun v s' => ∃ z, v = some z ∧ Q z s') E s := by
    unfold tryMethod
    refine wpAny_bind (special_fn X I hs2' (beq_iff_eq.mp hf) (wpAny_mono h (fun v s' hv => ?_) fun _ _ e => e))
    cases v <;> first | exact hv.elim | exact wpAny_pure ⟨_, rfl, hv⟩
  unfold binaryOp
  refine wpAny_holding (wpAny_bind ?_)
  show wpAny (model prog w) A (binaryOp1 "add" u (.ref x)) _ _ _
  unfold binaryOp1
  refine wpAny_bind (hb.here (wpAny_bind (I.type.here ?_)))
  rw [hr]
  refine wpAny_bind (wpAny_pure ?_)
  have hne : (Value.type T == Value.ref C) = false := rfl
  simp only [hne, Bool.false_eq_true, if_false]
  refine wpAny_bind ((fills_K X hcd hm hs').here ?_)
  simp only [Bool.false_and, Bool.false_eq_true, if_false]
  refine wpAny_bind (wpAny_pure ?_)
  simp only [Bool.false_eq_true, if_false, Bool.not_false, Bool.and_true, if_true]
  refine wpAny_bind (wpAny_mono hfin (fun v s' ⟨z, e, q⟩ => ?_) fun _ _ e => e)
  subst e
  exact wpAny_bind (wpAny_rule (wpAny_pure (wpAny_pure q)))
end
/-! ### as rules -/
def R.asO {β γ : Type} (d : D) (k : D → R β γ) : R β γ := match d with
  | .obj C gs => k (.obj C gs)
  | _ => .no
def sdA (C : Str) : D → Bool
  | .obj C' _ => decide (C' = C)
  | e => (tyn e).isSome
def okA (ca : Str → Bool) (C : Str) (e : D) : Bool := ca C && sdA C e
def isSq : D → Bool
  | .lst _ => true
  | .tup _ => true
  | _ => false
/-- o + x -/
def R.addO {β γ : Type} (mt : Str → Option (List D → R Unit D)) (ca : Str → Bool) (xb : β) (d e : D) (k : D → R β γ) : R β γ := match d with
  | .obj C gs => if okA ca C e then R.dun mt (.obj C gs) [e] xb fun z => R.asO z k else .no
  | _ => .no
/-- x + o, x a list or a tuple -/
def R.raddO {β γ : Type} (mt : Str → Option (List D → R Unit D)) (ca : Str → Bool) (xb : β) (d e : D) (k : D → R β γ) : R β γ := match e with
  | .obj C gs => if ca C && isSq d then R.dun mt (.obj C gs) [d] xb fun z => R.asO z k else .no
  | _ => .no
/-- o + x where no error comes -/
def R.addN {β γ : Type} (mt : Str → Option (List D → R Unit D)) (ca : Str → Bool) (d e : D) (k : D → R β γ) : R β γ := match d with
  | .obj C gs => if okA ca C e then (match mt C with | some mf => R.prop (mf [.obj C gs, e]) fun z => R.asO z k | none => .no) else .no
  | _ => .no
structure AddF (K : PySem.W.Frag) (c : Addr) : Prop where
  sf : PySem.W.selfFirst K c = true
  m2 : mro2 K c = true
  ia : PySem.W.findIn K (.ref c) "__iadd__" = some none
  ad : ∃ f, PySem.W.findIn K (.ref c) "__add__" = some (some (.ref f))
  ra : ∃ f, PySem.W.findIn K (.ref c) "__radd__" = some (some (.ref f))
structure AddC (K : PySem.W.Frag) (ca : Str → Bool) : Prop where
  ex : ∀ C, ca C = true → ∀ c, Cl K C c → AddF K c
section
variable {X : Cx} {K : PySem.W.Frag} {E : XE} {β γ : Type} {xF : Fm} {xb : β} {env : Fm} {a b : Expr} {p pos : Pos} {c1 c2 : (D → R β γ) → R β γ} {k : Nat} {mt : Str → Option (List D → R Unit D)} {ca : Str → Bool}
def rAddO (X : Cx) (k : Nat) (Ek : XK) : R2 := fun x y H Q => ∃ a c dx fs tb, x = .ref a ∧ H a = some (.ins c dx fs) ∧ TyB X H y tb ∧ (tb = .ref c ∨ ∃ T, T ∈ tys ∧ tb = .type T) ∧ AddF X.K c ∧ rDun X k "__add__" Ek x y H (fun z H' => (∃ b, z = .ref b) ∧ Q z H')
def rRaddO (X : Cx) (k : Nat) (Ek : XK) : R2 := fun x y H Q => ∃ a c dx fs T, y = .ref a ∧ H a = some (.ins c dx fs) ∧ TyB X H x (.type T) ∧ (T = "tuple" ∨ T = "list") ∧ AddF X.K c ∧ rDun X k "__radd__" Ek y x H (fun z H' => (∃ b, z = .ref b) ∧ Q z H')
theorem back_ref {pins : List (Addr × Obj)} {σ : L2.St} {Q : VK} {z : Value} {s : Shared} (h : EP X pins σ (fun z H' => (∃ b, z = .ref b) ∧ Q z H') z s) : PySem.W.CmpBack (EP X pins σ Q) z s := by
  obtain ⟨x3, H3, I3, r3, ⟨b, rfl⟩, q3⟩ := h
  obtain rfl : z = Value.ref b := r3
  exact ⟨.ref b, H3, I3, rfl, q3⟩
theorem op_addO (hr : Room k X.A) (hG : Quiet X.A) (hx : ∀ σ, PassesAt (L2.CX X.prog X.w) X σ (E σ)) (σ : L2.St) : OpS X σ (binaryOp .Add) (rAddO X k (E σ)) := by
  intro pins s H x y v u Q I rx ry h
  obtain ⟨a, c, dx, fs, tb, rfl, ea, ht, hb, F, a', c', dx', fs', f, mf, ex, ea', hm, hp, hs⟩ := h
  cases ex
  rw [ea] at ea'
  cases ea'
  obtain rfl : v = Value.ref a := rx
  obtain ⟨mA, O, _, _, _, _⟩ := ins_get I.hok ea
  obtain ⟨od, J, _⟩ := O.look
  obtain ⟨f2, hr2⟩ := F.ra
  exact add_K I.kIn J (ht.look I ry) hb F.sf hm.at_ hm.fn hr2 (thn (runP (vs := [.ref a, y]) (hp 2) hr hG (hx _) I (.cons rfl (.cons ry .nil)) hs) fun z s3 q => back_ref q)
theorem op_raddO (hr : Room k X.A) (hG : Quiet X.A) (hx : ∀ σ, PassesAt (L2.CX X.prog X.w) X σ (E σ)) (σ : L2.St) : OpS X σ (binaryOp .Add) (rRaddO X k (E σ)) := by
  intro pins s H x y v u Q I rx ry h
  obtain ⟨a, c, dx, fs, T, rfl, ea, ht, hb, F, a', c', dx', fs', f, mf, ex, ea', hm, hp, hs⟩ := h
  cases ex
  rw [ea] at ea'
  cases ea'
  obtain rfl : u = Value.ref a := ry
  obtain ⟨mA, O, _, _, _, _⟩ := ins_get I.hok ea
  obtain ⟨od, J, _⟩ := O.look
  obtain ⟨f2, hr2⟩ := F.ad
  exact radd_K I.kIn J (ht.look I rx) F.sf hb hr2 hm.at_ hm.fn (thn (runP (vs := [.ref a, x]) (hp 2) hr hG (hx _) I (.cons rfl (.cons rx .nil)) hs) fun z s3 q => back_ref q)
theorem ip_addO (hr : Room k X.A) (hG : Quiet X.A) : PIp X .Add (rAddO X k fun _ _ _ => False) := by
  intro pins s σ H x y v u Q I rx ry h
  obtain ⟨a, c, dx, fs, tb, rfl, ea, ht, hb, F, a', c', dx', fs', f, mf, ex, ea', hm, hp, hs⟩ := h
  cases ex
  rw [ea] at ea'
  cases ea'
  obtain rfl : v = Value.ref a := rx
  obtain ⟨mA, O, _, _, _, _⟩ := ins_get I.hok ea
  obtain ⟨od, J, _⟩ := O.look
  obtain ⟨f2, hr2⟩ := F.ra
  refine iadd_K I.kIn J (ht.look I ry) hb F.sf F.m2 F.ia hm.at_ hm.fn hr2 (wpAny_call (codeAny_mono (hp 2 X.A X.stack s H [.ref a, u] [.ref a, y] _ (fun _ _ _ => False) hr hG I.env0 (.cons rfl (.cons ry .nil)) hs) fun z s' hq => ?_))
  match z, hq with
  | .error er, hq =>
    obtain ⟨_, _, _, _, _, _, _, _, _, _, _, _, he⟩ := hq
    exact he.elim
  | .ok (.ret u), hq => exact back_ref (I.after hq)
  | .ok .next, hq | .ok .brk, hq | .ok .cont, hq => exact False.elim hq
theorem tyb_of {F H : Hp} {B : Bs} {σ : L2.St} {u : V} {e : D} {c : Addr} {C : Str} (s : SR X.K B F H σ env) (hu : Dr X.K F u e) (g2 : Cl X.K C c) (hok : sdA C e = true) : ∃ tb, TyB X H u tb ∧ (tb = .ref c ∨ ∃ T, T ∈ tys ∧ tb = .type T) := by
  have plain : ∀ t, tyn e = some t → ∃ tb, TyB X H u tb ∧ (tb = .ref c ∨ ∃ T, T ∈ tys ∧ tb = .type T) := fun t ht => ⟨.type t, Or.inl ((show Dh X.K F H u e from .inl hu).ty s.ex ht), Or.inr ⟨t, tyn_mem ht, rfl⟩⟩
  cases e with
  | obj C' gs' =>
    obtain rfl : C' = C := of_decide_eq_true hok
    obtain ⟨a2, c2, dx2, fs2, rfl, j1, j2, j3, j4⟩ := (Dh.obj s.ex (.inl hu))
    have e := g2.symm.trans j2
    cases e
    exact ⟨.ref c, Or.inr ⟨a2, c, dx2, fs2, rfl, j1, rfl⟩, Or.inl rfl⟩
  | non => exact plain _ rfl
  | bl b => exact plain _ rfl
  | int i => exact plain _ rfl
  | str z => exact plain _ rfl
  | lst ds => exact plain _ rfl
  | tup ds => exact plain _ rfl
  | dct ds => exact plain _ rfl
  | ty T => cases hok
  | exc C fs => cases hok
theorem oc_addO (hF : ∀ C mf, mt C = some mf → MethC X.prog X.w K X.mg X.base k C "__add__" none mf) (hE : AddC K ca) (hK : X.K = K := by rfl) : OpC (γ := γ) K E xF xb env (fun σ => rAddO X k (E σ)) (R.addO mt ca xb) := by
  subst hK
  intro B F H σ v u d e Q kk G s w gx hv hu hk hG
  cases d <;> first | exact (gx.no hG).elim | skip
  rename_i C gs
  unfold R.addO at hG
  simp only at hG
  split at hG
  case isFalse => exact (gx.no hG).elim
  rename_i hok
  unfold okA at hok
  rw [Bool.and_eq_true] at hok
  have hv0 := hv
  obtain ⟨a, c, dx, fs, rfl, g1, g2, g3, g4⟩ := (Dh.obj s.ex (.inl hv))
  obtain ⟨tb, h1, h2⟩ := tyb_of s hu g2 hok.2
  exact ⟨a, c, dx, fs, tb, rfl, g1, h1, h2, hE.ex C hok.1 c g2, dun_core hF s w gx hv0 hu (fun d v F' H' g e1 eh1 s1 d1 => by
    cases d <;> first | exact (gx.no g).elim | skip
    obtain ⟨a2, c2, dx2, fs2, rfl, _⟩ := (Dh.obj s1.ex (.inl d1))
    exact ⟨⟨_, rfl⟩, hk _ _ F' H' g e1 eh1 s1 d1⟩) hG⟩
theorem oc_raddO (hF : ∀ C mf, mt C = some mf → MethC X.prog X.w K X.mg X.base k C "__radd__" none mf) (hE : AddC K ca) (hK : X.K = K := by rfl) : OpC (γ := γ) K E xF xb env (fun σ => rRaddO X k (E σ)) (R.raddO mt ca xb) := by
  subst hK
  intro B F H σ v u d e Q kk G s w gx hv hu hk hG
  cases e <;> first | exact (gx.no hG).elim | skip
  rename_i C gs
  unfold R.raddO at hG
  simp only at hG
  split at hG
  case isFalse => exact (gx.no hG).elim
  rename_i hok
  rw [Bool.and_eq_true] at hok
  have hu0 := hu
  obtain ⟨a, c, dx, fs, rfl, g1, g2, g3, g4⟩ := (Dh.obj s.ex (.inl hu))
  have tb : ∃ T, TyB X H v (.type T) ∧ (T = "tuple" ∨ T = "list") := by
    have h2 := hok.2
    cases d with
    | lst ds => exact ⟨"list", Or.inl ((show Dh X.K F H v (.lst ds) from .inl hv).ty s.ex rfl), Or.inr rfl⟩
    | tup ds => exact ⟨"tuple", Or.inl ((show Dh X.K F H v (.tup ds) from .inl hv).ty s.ex rfl), Or.inl rfl⟩
    | _ => cases h2
  obtain ⟨T, h1, h2⟩ := tb
  exact ⟨a, c, dx, fs, T, rfl, g1, h1, h2, hE.ex C hok.1 c g2, dun_core hF s w gx hu0 hv (fun d v F' H' g e1 eh1 s1 d1 => by
    cases d <;> first | exact (gx.no g).elim | skip
    obtain ⟨a2, c2, dx2, fs2, rfl, _⟩ := (Dh.obj s1.ex (.inl d1))
    exact ⟨⟨_, rfl⟩, hk _ _ F' H' g e1 eh1 s1 d1⟩) hG⟩
theorem a_opS {op : Operator} {r : L2.St → R2} {cc : D → D → (D → R β γ) → R β γ} (ho : ∀ σ, OpS X σ (binaryOp op) (r σ)) (hc : OpC K E xF xb env r cc) (ha : AE X K E xF xb env a c1) (hb : AE X K E xF xb env b c2) :
    AE X K E xF xb env (.BinOp a op b pos) (fun (k : D → R β γ) => c1 fun d => c2 fun e => cc d e k) :=
  ⟨ha.1, fun B F H σ Q kk G s w gx hk hG => ⟨fun σ' H' Q' => σ' = σ ∧ teC X a σ H' fun x H1 => teC X b σ H1 fun y H2 => r σ x y H2 Q', ⟨fun pins s' σ' H' Q' I ⟨e1, h⟩ => by
    subst e1
    exact wpAny_BinOp (binT pe_C pe_C I h fun v u s2 x y H2 I2 rx ry q => ho _ pins s2 H2 x y v u Q' I2 rx ry q)⟩, rfl, ajS hc ha hb s w gx hk hG⟩⟩
end
section
variable {X : Cx} {K : PySem.W.Frag} {E : XE} {β ω : Type} {κ : Kt β ω} {env : Fm} {rest : List Stmt} {pos : Pos} {k : Nat} {mt : Str → Option (List D → R Unit D)} {ca : Str → Bool}
/-- x += e, x an object -/
theorem ab_augO (i : Nat) {x : Str} {e : Expr} {d : D} (hi : fget env i = .fz d) {p2 : Pos} {c : (D → R β ω) → R β ω} {m : D → R β ω} (xb : β) (hF : ∀ C mf, mt C = some mf → MethC X.prog X.w K X.mg X.base k C "__add__" none mf) (hE : AddC K ca) (he : AE X K E (κ.fx xb) xb env e c) (hr : Room k X.A) (hG : Quiet X.A) (hx : Wk env (κ.fx xb)) (hrest : ∀ d, AB X K E κ (fput env i (.fz d)) rest (m d)) (hN : X.N.Nodup) (hl : Loc X.env.scope x) (hj : X.N[i]? = some x := by rfl)
    (hf : X.fn x = true ∨ X.env.scope.names.lookup x = some .local := by first | exact .inl rfl | exact .inr rfl | assumption) : AB X K E κ env (.AugAssign (.Name x p2) .Add e pos :: rest) (c fun y => R.addN mt ca d y m) := by
  have hK := he.1
  subst hK
  refine ⟨rfl, fun B F H σ Dn G sr gs hG' => ?_⟩
  obtain ⟨v, h1, h2⟩ := sr.fz i d hi
  refine ⟨_, pss_cons (ps_aug hN hj hl pe_C (ip_addO hr hG) hf) ps_C, v, h1, he.2 B F H σ _ _ G sr hx (gs.gx xb) (fun y u F1 H1 g1 e1 eh1 s1 d1 => ?_) hG'⟩
  cases d <;> first | exact (gs.no g1).elim | skip
  rename_i C gs'
  unfold R.addN at g1
  simp only at g1
  split at g1
  case isFalse => exact (gs.no g1).elim
  rename_i hok
  unfold okA at hok
  rw [Bool.and_eq_true] at hok
  have h2 := h2.mono e1
  have hv0 := h2
  obtain ⟨a, c, dx, fs, rfl, j1, j2, j3, j4⟩ := (Dh.obj s1.ex (.inl h2))
  obtain ⟨tb, t1, t2⟩ := tyb_of s1 d1 j2 hok.2
  cases hmt : mt C with
  | none => rw [hmt] at g1; exact (gs.no g1).elim
  | some mf =>
    rw [hmt] at g1
    simp only at g1
    obtain ⟨k1, f, k3, k4⟩ := (hF C mf hmt).ex c j2
    cases hmm : mf [.obj C gs', y] with
    | ex _ _ => rw [hmm] at g1; exact (gs.no g1).elim
    | no => rw [hmm] at g1; exact (gs.no g1).elim
    | ok d' =>
      rw [hmm] at g1
      refine ⟨a, c, dx, fs, tb, rfl, j1, t1, t2, hE.ex C hok.1 c j2, a, c, dx, fs, f, mf, rfl, j1, k3, k4, sp_pure (ds := [.obj C gs', y]) s1 (.cons hv0 (.cons d1 .nil)) rfl (fun d os hq v F' H' e2 eh2 s2 r2 => ?_) (fun y os hq => ?_) fun z => ?_⟩
      · unfold Lp at hq
        rw [hmm] at hq
        cases hq
        cases d' <;> first | exact (gs.no g1).elim | skip
        obtain ⟨a2, c2, dx2, fs2, rfl, _⟩ := (Dh.obj s2.ex (.inl r2))
        exact ⟨⟨_, rfl⟩, (hrest _).2 B F' H' _ Dn G (s2.setF r2) (gs.mono (e1.trans e2)) g1⟩
      · unfold Lp at hq; rw [hmm] at hq; cases hq
      · unfold Lp at z; rw [hmm] at z; cases z
end
section
open PySem.W
variable {K : PySem.W.Frag} {C : Str} {c f g : Addr}
theorem addf_mk (h1 : selfFirst K c = true) (h2 : mro2 K c = true) (h3 : findIn K (.ref c) "__iadd__" = some none) (h4 : findIn K (.ref c) "__add__" = some (some (.ref f))) (h5 : findIn K (.ref c) "__radd__" = some (some (.ref g))) : AddF K c := ⟨h1, h2, h3, ⟨f, h4⟩, ⟨g, h5⟩⟩
theorem addc_mk (a : nsIn K mainGlobals C = some (some (.ref c))) (h : AddF K c) : AddC K (fun C' => decide (C' = C)) := ⟨fun C' hC c' hc => by
  obtain rfl := of_decide_eq_true hC
  have e := a.symm.trans hc
  cases e
  exact h⟩
end
/-! ### y = [..] on one line, where the items change a slot's thing -/
section
variable {X : Cx} {K : PySem.W.Frag} {E : XE} {β ω : Type} {κ : Kt β ω} {env : Fm} {rest : List Stmt} {pos : Pos} {tag : Option Nat} {fs : List Str} {w : D} {i : Nat}
theorem ab_setLcF {elt tg iter : Expr} {ifs : List Expr} {scope : Scope} {ci : (List D → D → R β ω) → R β ω} {mb : D → D → R Unit (Option D × D)} {m : D → D → R β ω} {y : Str} {py spos : Pos} (j : Nat) (hi0 : fget env i = .ow tag w fs) (own : List (Str × Nat)) (xb : β) (hi : AFI X K E (κ.fx xb) xb env i tag fs w tg iter ci) (hx : ∀ w, Wk (fput env i (.ow tag w fs)) (κ.fx xb))
    (hb : ∀ (bi : BI) (z : D) (d : D), AG (Xb X scope bi) K (own.map (·.2)) (fput env i (.ow tag z fs)) tg d (fun env' m' => AEl (Xb X scope) K (fun z => fput env i (.ow tag z fs)) false env' ifs elt m') (mb d z)) (hr : ∀ d w, AB X K E κ (fput (fput env i (.ow tag w fs)) j (.fz d)) rest (m d w)) (hc : X.calm = true) (hN : X.N.Nodup) (ok : BlkOk X.N X.env.scope scope own)
    (hu : ∀ z, ∀ j ∈ own.map (·.2), fget (fput env i (.ow tag z fs)) j = .un) (hyl : X.env.scope.names.lookup y = some .local) (hsw : swapsWith (.ListComp elt [⟨tg, iter, ifs, 0⟩] scope pos) (some (.Name y py)) spos.line X.env = pure true) (hy : X.N[j]? = some y := by rfl) (hs : ∀ x, foldedSetIterable iter X.env x = pure x := by intro _; rfl) :
    AB X K E κ env (.Assign [.Name y py] (.ListComp elt [⟨tg, iter, ifs, 0⟩] scope pos) spos :: rest) (ci fun ds w1 => R.few ds fun ds => R.lst (R.fmapS mb ds w1) fun d w2 => m d w2) :=
  ⟨hi.1, fun B F H σ Dn G sr gs hG => ⟨_, pss_cons (ps_setLc (wi := tiC X tg iter) (g := tgB X scope tg) (tt := ttB X scope ifs) (te := teB X scope elt) hc hN hy hyl hsw pi_C ok (fun s H C cl fp => ⟨fun pins s' σ H' v u Q I r h => (pg_C (X := X.blk s H scope (compEnvC scope cl C X.env) fp)).run pins s' σ H' v u Q I r (h (s, H, C, cl, fp))⟩)
    (fun s H C cl fp => ⟨fun pins s' σ H' Q I h => (pts_C (X := X.blk s H scope (compEnvC scope cl C X.env) fp)).run pins s' σ H' Q I (h (s, H, C, cl, fp))⟩)
    (fun s H C cl fp => ⟨fun pins s' σ H' Q I h => (pe_C (X := X.blk s H scope (compEnvC scope cl C X.env) fp)).run pins s' σ H' Q I (h (s, H, C, cl, fp))⟩) hs) ps_C,
    Gs.afj hi.2 hi0 hx sr gs hG fun ds w1 J F1 H1 h1 e1 s1 r1 => by
      unfold R.few at h1
      split at h1
      · rename_i hz
        have h1 : G (R.lst (R.fmapS mb ds w1) fun d w2 => m d w2) := h1
        cases hm : R.fmapS mb ds w1 with
        | no => rw [hm] at h1; exact (gs.no h1).elim
        | ex x b => rw [hm] at h1; exact (gs.no h1).elim
        | ok q =>
          obtain ⟨ys, u⟩ := q
          rw [hm] at h1
          exact lc_all (f := fun z => fput env i (.ow tag z fs)) (s0 := w1) hb hu s1 r1 hm (of_decide_eq_true hz) fun v F' H' e2 _ s2 r2 => by
            obtain ⟨F3, e3, d3, s3⟩ := s2.frzN r2
            exact (hr _ u).2 B F3 H' _ Dn G (s3.setF d3) (gs.mono (e1.trans (e2.trans e3))) h1
      · exact (gs.no h1).elim⟩⟩
end
/-! ### repr, also of an empty dict -/
def rReprA (K : PySem.W.Frag) : List V → Hp → VK → Prop := fun xs H Q => rRepr K xs H Q ∨ ∃ a, xs = [.ref a] ∧ H a = some (.dK []) ∧ Q (.str "{}") H
theorem cr_reprA {X : Cx} {K : PySem.W.Frag} (hG : Quiet X.A) (hu : X.A.units + 64 < cLine) (hK : X.K = K := by rfl) : CallR X (.builtin "repr") (rReprA K) := by
  intro pins s σ H xs us Q I r h
  rcases h with h | ⟨a, rfl, ea, q⟩
  · exact cr_repr hG hu hK pins s σ H xs us Q I r h
  · obtain ⟨u, rfl, ru⟩ := vals1 r
    obtain rfl : u = Value.ref a := ru
    obtain ⟨_, hne, vs, kv, o, es, ep, h1, h2, h3, _, h5, _⟩ := dk_of I.hok ea
    cases kv
    have e0 : es.toList = [] := List.eq_nil_of_length_eq_zero h5.length
    have rd : Reads s.heap (.ref a) (.dict []) (a :: [] ++ []) := .dict h1 h2.1 h3 (by rw [e0]; exact .nil) (by rw [e0]; exact .nil)
    have hdp : (PyData.dict []).depth ≤ 1 := by decide +kernel
    refine repr_of_reads' rd (by decide +kernel) (fun _ hm => ?_) hG (by omega) (fun _ _ e => e) (fun h' u tk hk => ⟨.str _, H, I.kept (t' := tk) hk, ⟨_, rfl⟩, q⟩) (by decide +kernel)
    simp only [List.append_nil, List.mem_singleton] at hm
    rw [← hm] at hne
    simp at hne
def reprA : List D → Option D
  | [.dct []] => some (.str "{}")
  | ds => reprG ds
theorem cd_reprA {K : PySem.W.Frag} : CallD K (rReprA K) reprA := by
  intro B F H σ env xs as c Q s hx hg q
  unfold reprA at hg
  split at hg
  · cases hg
    obtain ⟨v, rfl, hv⟩ := hx.one
    rcases hv with hv | ⟨p, o, rfl, ho, hd⟩
    · cases hv with
      | dct h1 h2 h3 =>
        have : _ = [] := List.map_eq_nil_iff.mp h2
        subst this
        exact Or.inr ⟨_, rfl, s.ex _ _ h1, q _ F H (Ex.refl F) (Ex.refl H) s (.str _)⟩
    · cases hd with
      | dct h2 h3 =>
        have : _ = [] := List.map_eq_nil_iff.mp h2
        subst this
        exact Or.inr ⟨_, rfl, ho, q _ F H (Ex.refl F) (Ex.refl H) s (.str _)⟩
  · exact Or.inl (cd_repr B F H σ env xs _ c Q s hx hg q)
end DM

/-! The end: facts of the module's top in the form that the rules want. -/
namespace DM
open PySem PySem.Spec PyProof.Rows L2 DL

/-- a written value of the module is d -/
def DK (K : PySem.W.Frag) (u : Value) (d : D) : Prop := ∃ v, RelV v u ∧ ∀ F, Dr K F v d
def DKs (K : PySem.W.Frag) (us : List Value) (ds : List D) : Prop := ∃ vs, Vals vs us ∧ ∀ F, DrA K F vs ds
section
variable {K : PySem.W.Frag} {u : Value} {us : List Value} {d : D} {ds : List D}
theorem dk_str {x : Str} {t : Tok} : DK K (.str x t) (.str x) := ⟨.str x, ⟨t, rfl⟩, fun _ => .str x⟩
theorem dk_int {x : Int} {t : Tok} : DK K (.int x t) (.int x) := ⟨.int x, ⟨t, rfl⟩, fun _ => .int x⟩
theorem dk_bl {x : Bool} : DK K (.bool x) (.bl x) := ⟨.bl x, rfl, fun _ => .bl x⟩
theorem dk_non : DK K .none .non := ⟨.non, rfl, fun _ => .non⟩
theorem dk_nil : DKs K [] [] := ⟨[], .nil, fun _ => .nil⟩
theorem dk_cons (h : DK K u d) (hs : DKs K us ds) : DKs K (u :: us) (d :: ds) := by
  obtain ⟨v, r, h⟩ := h
  obtain ⟨vs, rs, hs⟩ := hs
  exact ⟨v :: vs, .cons r rs, fun F => .cons (h F) (hs F)⟩
theorem dk_tup {a : Addr} {its : List Value} {n : Nat} {sl : Array (Option Value)} (l : K.lookup a = some ⟨.type "tuple", none, .seq its.toArray n, sl⟩) (h : DKs K its ds) (hz : Nat.ble its.length 1000 = true) : DK K (.ref a) (.tup ds) := by
  obtain ⟨vs, r, h⟩ := h
  exact ⟨.ref a, rfl, fun F => .tup (Or.inr ⟨_, _, _, l, rfl, rfl, rfl, by rw [List.size_toArray, sizeLine_eq]; have := Nat.le_of_ble_eq_true hz; omega, by rw [List.toList_toArray]; exact r⟩) (h F)⟩
theorem DK.glob {mg : Str → Option Value} {x : Str} {h : Heap} (q : DK K u d) (X : K.In h) (G : h.Ns mainGlobals mg) (e : PySem.W.nsIn K mainGlobals x = some (some u)) : GlobD K mg x d := by
  obtain ⟨v, r, q⟩ := q
  exact ⟨v, u, PySem.W.mg_of X G e, r, q⟩
end
/-! dicts of the module with text keys -/
def litK (e : DictEntry) : Str := match e.key with
  | .str x _ => x
  | _ => Str.empty
theorem lit_find {P : Params} {z : Str} : ∀ {l : List DictEntry}, PySem.W.KeysLit P l → (l.find? (·.key.isStr z)).isSome = (l.map litK).contains z
  | [], _ => rfl
  | e :: r, ⟨⟨x, t, h, _⟩, hr⟩ => by
    have ih := lit_find (z := z) hr
    have e1 : litK e = x := by unfold litK; rw [h]
    have e2 : e.key.isStr z = (x == z) := by rw [h]; rfl
    rw [List.map_cons, List.contains_cons, e1, List.find?_cons, e2]
    by_cases q : x = z
    · subst q; simp
    · have q1 : (x == z) = false := by simpa using q
      have q2 : (z == x) = false := by simpa using Ne.symm q
      rw [q1, q2, Bool.false_or]
      exact ih
theorem lit_noref {P : Params} : ∀ {l : List DictEntry}, PySem.W.KeysLit P l → l.any (·.refKey) = false
  | [], _ => rfl
  | e :: r, ⟨⟨x, t, h, _⟩, hr⟩ => by
    have : e.refKey = false := by unfold DictEntry.refKey; rw [h]
    rw [List.any_cons, this, lit_noref hr]; rfl
theorem kd_of {K : PySem.W.Frag} {w : World} {mg : Str → Option Value} {x : Str} {h : Heap} {d : Addr} {es : List DictEntry} {n : Nat} {ks : List Str} (X : K.In h) (G : h.Ns mainGlobals mg) (e : PySem.W.nsIn K mainGlobals x = some (some (.ref d)))
    (l : K.lookup d = some ⟨.type "dict", none, .dict es.toArray n, #[]⟩) (t : PySem.W.KeysLit w.params es) (s : (d == sysModules) = false) (hk : es.map litK = ks) : KdC K w mg x ks := by
  refine ⟨d, es.toArray, n, PySem.W.mg_of X G e, ⟨l, by rw [List.toList_toArray]; exact t, s⟩, fun z => ?_⟩
  unfold PySem.W.nsIn
  rw [l]
  simp only [List.toList_toArray]
  rw [← hk, ← lit_find (z := z) t]
  cases q : es.find? (·.key.isStr z) with
  | some e => exact ⟨_, rfl, rfl⟩
  | none => rw [lit_noref t]; exact ⟨_, rfl, rfl⟩
section
variable {P : Program} {w : World} {K : PySem.W.Frag} {mg : Str → Option Value} {base : Heap} {j k : Nat} {f : Addr} {nw : Option (List Str)} {fs : List Str} {C m : Str} {c : Addr}
theorem PrP.up {mf : List D → R Unit D} (F : PrP P w K mg base j f nw mf) (h : Nat.ble j k = true) : PrP P w K mg base k f nw mf := fun n => (F n).up (Nat.le_of_ble_eq_true h)
theorem PrR.up {mf : List D → R Unit (D × D)} (F : PrR P w K mg base j f fs mf) (h : Nat.ble j k = true) : PrR P w K mg base k f fs mf := fun n => (F n).up (Nat.le_of_ble_eq_true h)
theorem meth_mk {mf : List D → R Unit D} (a : PySem.W.nsIn K mainGlobals C = some (some (.ref c))) (h : Cls K c) (hm : Meth K c m f) (F : PrP P w K mg base k f nw mf) : MethC P w K mg base k C m nw mf := ⟨fun c' h' => by
  have e := a.symm.trans h'
  cases e
  exact ⟨h, f, hm, F⟩⟩
theorem prop_mk {mf : List D → R Unit D} {p : Addr} (a : PySem.W.nsIn K mainGlobals C = some (some (.ref c))) (h : Cls K c) (hm : PropOf K c m p f) (F : PrP P w K mg base k f none mf) : PropC P w K mg base k C m mf := ⟨fun c' h' => by
  have e := a.symm.trans h'
  cases e
  exact ⟨h, p, f, hm, F⟩⟩
theorem fld_mk (a : PySem.W.nsIn K mainGlobals C = some (some (.ref c))) (h : Cls K c) (n : NoAttr K c m) : FldC K C m := ⟨fun c' h' => by
  have e := a.symm.trans h'
  cases e
  exact ⟨h, n⟩⟩
theorem bind_star1 {B : List Value → Sem (List (Str × Value))} {p1 pv : Str} (h0 : ∀ a, B [a] = (newTuple [] >>= fun t => pure [(p1, a), (pv, t)])) (h1 : ∀ a r rs, B (a :: r :: rs) = (newTuple (r :: rs) >>= fun t => pure [(p1, a), (pv, t)])) :
    ∀ us rest : List Value, us.length = [p1].length → B (us ++ rest) = (newTuple rest >>= fun t => pure ([p1].zip us ++ [(pv, t)]))
  | [a], [], _ => h0 a
  | [a], r :: rs, _ => h1 a r rs
theorem bind_star2 {B : List Value → Sem (List (Str × Value))} {p1 p2 pv : Str} (h0 : ∀ a b, B [a, b] = (newTuple [] >>= fun t => pure [(p1, a), (p2, b), (pv, t)])) (h1 : ∀ a b r rs, B (a :: b :: r :: rs) = (newTuple (r :: rs) >>= fun t => pure [(p1, a), (p2, b), (pv, t)])) :
    ∀ us rest : List Value, us.length = [p1, p2].length → B (us ++ rest) = (newTuple rest >>= fun t => pure ([p1, p2].zip us ++ [(pv, t)]))
  | [a, b], [], _ => h0 a b
  | [a, b], r :: rs, _ => h1 a b r rs
theorem bind_star0 {B : List Value → Sem (List (Str × Value))} {pv : Str} (h0 : B [] = (newTuple [] >>= fun t => pure [(pv, t)])) (h1 : ∀ r rs, B (r :: rs) = (newTuple (r :: rs) >>= fun t => pure [(pv, t)])) :
    ∀ us rest : List Value, us.length = ([] : List Str).length → B (us ++ rest) = (newTuple rest >>= fun t => pure (([] : List Str).zip us ++ [(pv, t)]))
  | [], [], _ => h0
  | [], r :: rs, _ => h1 r rs
end
end DM

/-! The end: facts of the module about its own errors. -/
namespace DM
open PySem PySem.Spec PyProof.Rows PySem.W L2 DL DX
section
variable {P : Program} {K : PySem.W.Frag} {mg : Str → Option Value} {h : Heap} {B newId i : String} {bmB bm : List Value} {x p r : Str} {C fI cda cc : Addr} {nm q : Str} {N : Addr} {bs : List Value} {sn : List Str} {sub : List Value} {ab : Bool} {col : Option Bool} {dd : Option Addr} {k0 k1 k2 k3 k5 : Option Value}
  {oc doc pm ct : Value} {od an : Option Addr} {osl : Array (Option Value)} {qn : Str} {p0 p1 p2 q1 q2 q3 q4 q4' q5 q6 q7 q8 q9 q10 r7 r8 r9 r10 : Pos} {oce ocd : Obj} {vs : Array Value} {file : Str} {tf : Tok}
theorem err_mk1 (BF : BaseF B newId i bmB) (X : K.In h) (G : h.Ns mainGlobals mg) (aC : nsIn K mainGlobals x = some (some (.ref C))) (lC : K.lookup C = some (excClassObj nm q C N bs bm true sn sub ab col dd k0 k1 k2 k3 k5 newId)) (rb : refsB bmB bm = true)
    (sB : subIn K (.ref C) (.type B) = some true) (su : ks_superIn K C C "__init__" = some (some (.builtin i))) (sa : findIn K (.ref C) "__setattr__" = some (some (.builtin "object.__setattr__"))) (n1 : findIn K (.ref C) p = some none) (iC : findIn K (.ref C) "__init__" = some (some (.ref fI)))
    (tC : typeIn K (.ref fI) = some (.type "function")) (kC : keepIn K (.ref C) = true) (sb : subIn K (.ref C) (.ref C) = some true) (eC : subIn K (.ref C) (.type "BaseException") = some true) (tyC : typeIn K (.ref C) = some (.type "type")) (top : nsIn K cStatics "thirdparty.any" = some none) (hs : nsIn K mainGlobals "super" = some none)
    (lf : K.lookup fI = some ⟨oc, od, .func (ksFn "__init__" qn (pars [("self", p0), (p, p1)]) (bd1 p q1 q2 q3 q4 q5 q6 q7 q8 q9 q10) (scp [p]) .none .none doc pm an (.ref cda) ct cc), osl⟩) (cI : codeIn K (.ref cda) qn = true) (lc : K.lookup cc = some oce) (ec : oce.data = .cell (some (.ref C))) (ld : K.lookup cda = some ocd) (ed : ocd.data = .fields vs) (e2 : vs[2]? = some (.str file tf))
    (fe : ((P.main.file : Str) == file) = true) (tp : (P.main.scope.names.lookup ("super" : Str)).isSome = false) (s1 : (scp [p]).names.lookup ("super" : Str) = some .globalImplicit) (s2 : (scp [p]).names.lookup ("__class__" : Str) = some .free) (s3 : (scp [p]).names.lookup ("self" : Str) = some .local) (s4 : (scp [p]).names.lookup p = some .local) (s5 : (p == ("__debug__" : Str)) = false) (s6 : p ≠ "self")
    (hb : L2.Binds K (ksFn "__init__" qn (pars [("self", p0), (p, p1)]) (bd1 p q1 q2 q3 q4 q5 q6 q7 q8 q9 q10) (scp [p]) .none .none doc pm an (.ref cda) ct cc) ["self", p] []) (hev : Hev qn (scp [p]) fI cda cc q1 q2 q3 q5 [.Name p q4]) : ErrC P K mg x [p] := by
  refine ⟨C, fI, ⟨mg_of X G aC, ⟨B, newId, i, bmB, nm, q, N, bs, bm, sn, sub, ab, col, dd, k0, k1, k2, k3, k5, BF, lC, rb, sB, su⟩, sa, ?_, iC, tC, kC, sb, eC, tyC, top, mg_none_of X G hs, tp, s1, s2, s3, ?_, ⟨oc, od, doc, pm, an, cda, cc, ct, osl, qn, [p0, p1], _, ocd, oce, vs, file, tf, lf, hb, cI, rfl, lc, ec, ld, ed, e2, fe, .inl ⟨p, rfl, _, _, _, _, _, _, _, _, _, _, rfl, hev⟩⟩⟩, aC⟩
  · intro y hy
    rw [List.mem_singleton.mp hy]; exact n1
  · intro y hy
    rw [List.mem_singleton.mp hy]; exact ⟨s4, s5, s6⟩
theorem err_mk2 (BF : BaseF B newId i bmB) (X : K.In h) (G : h.Ns mainGlobals mg) (aC : nsIn K mainGlobals x = some (some (.ref C))) (lC : K.lookup C = some (excClassObj nm q C N bs bm true sn sub ab col dd k0 k1 k2 k3 k5 newId)) (rb : refsB bmB bm = true)
    (sB : subIn K (.ref C) (.type B) = some true) (su : ks_superIn K C C "__init__" = some (some (.builtin i))) (sa : findIn K (.ref C) "__setattr__" = some (some (.builtin "object.__setattr__"))) (n1 : findIn K (.ref C) p = some none) (n2 : findIn K (.ref C) r = some none) (iC : findIn K (.ref C) "__init__" = some (some (.ref fI)))
    (tC : typeIn K (.ref fI) = some (.type "function")) (kC : keepIn K (.ref C) = true) (sb : subIn K (.ref C) (.ref C) = some true) (eC : subIn K (.ref C) (.type "BaseException") = some true) (tyC : typeIn K (.ref C) = some (.type "type")) (top : nsIn K cStatics "thirdparty.any" = some none) (hs : nsIn K mainGlobals "super" = some none)
    (lf : K.lookup fI = some ⟨oc, od, .func (ksFn "__init__" qn (pars [("self", p0), (p, p1), (r, p2)]) (bd2 p r q1 q2 q3 q4 q4' q5 q6 q7 q8 q9 q10 r7 r8 r9 r10) (scp [p, r]) .none .none doc pm an (.ref cda) ct cc), osl⟩) (cI : codeIn K (.ref cda) qn = true) (lc : K.lookup cc = some oce) (ec : oce.data = .cell (some (.ref C))) (ld : K.lookup cda = some ocd) (ed : ocd.data = .fields vs) (e2 : vs[2]? = some (.str file tf))
    (fe : ((P.main.file : Str) == file) = true) (tp : (P.main.scope.names.lookup ("super" : Str)).isSome = false) (s1 : (scp [p, r]).names.lookup ("super" : Str) = some .globalImplicit) (s2 : (scp [p, r]).names.lookup ("__class__" : Str) = some .free) (s3 : (scp [p, r]).names.lookup ("self" : Str) = some .local) (s4 : (scp [p, r]).names.lookup p = some .local) (s5 : (p == ("__debug__" : Str)) = false) (s6 : p ≠ "self") (s7 : (scp [p, r]).names.lookup r = some .local) (s8 : (r == ("__debug__" : Str)) = false) (s9 : r ≠ "self") (hpr : p ≠ r)
    (hb : L2.Binds K (ksFn "__init__" qn (pars [("self", p0), (p, p1), (r, p2)]) (bd2 p r q1 q2 q3 q4 q4' q5 q6 q7 q8 q9 q10 r7 r8 r9 r10) (scp [p, r]) .none .none doc pm an (.ref cda) ct cc) ["self", p, r] []) (hev : Hev qn (scp [p, r]) fI cda cc q1 q2 q3 q5 [.Name p q4, .Name r q4']) : ErrC P K mg x [p, r] := by
  refine ⟨C, fI, ⟨mg_of X G aC, ⟨B, newId, i, bmB, nm, q, N, bs, bm, sn, sub, ab, col, dd, k0, k1, k2, k3, k5, BF, lC, rb, sB, su⟩, sa, ?_, iC, tC, kC, sb, eC, tyC, top, mg_none_of X G hs, tp, s1, s2, s3, ?_, ⟨oc, od, doc, pm, an, cda, cc, ct, osl, qn, [p0, p1, p2], _, ocd, oce, vs, file, tf, lf, hb, cI, rfl, lc, ec, ld, ed, e2, fe, .inr ⟨p, r, rfl, hpr, _, _, _, _, _, _, _, _, _, _, _, _, _, _, _, rfl, hev⟩⟩⟩, aC⟩
  · intro y hy
    rcases List.mem_cons.mp hy with rfl | hy
    · exact n1
    · rw [List.mem_singleton.mp hy]; exact n2
  · intro y hy
    rcases List.mem_cons.mp hy with rfl | hy
    · exact ⟨s4, s5, s6⟩
    · rw [List.mem_singleton.mp hy]; exact ⟨s7, s8, s9⟩
theorem exm_mk {c d : Addr} {b : Bool} (h1 : subIn K (.ref c) (.type "BaseException") = some true) (h2 : isClsIn K c = true) (h3 : typeIn K (.ref c) = some (.type "type")) (h4 : subIn K (.ref d) (.ref c) = some b) : exmOne K (.ref d) (.ref c) = some b := by
  have e1 : (subIn K (.ref c) (.type "BaseException") == some true) = true := by rw [h1] <;> rfl
  have e2 : ((clsIn K c).isSome && typeIn K (.ref c) == some (.type "type")) = true := by
    have h2' : (clsIn K c).isSome = true := h2
    rw [h2', h3] <;> rfl
  unfold exmOne kitCls
  rw [if_pos e1]
  simp only
  rw [if_pos e2]
  exact h4
theorem mtk_mk {c : Addr} {mt : Str → Option Bool} (X : K.In h) (G : h.Ns mainGlobals mg) (a : nsIn K mainGlobals x = some (some (.ref c))) (h1 : subIn K (.ref c) (.type "BaseException") = some true) (h2 : isClsIn K c = true) (h3 : typeIn K (.ref c) = some (.type "type"))
    (hm : ∀ C b, mt C = some b → ∃ d, nsIn K mainGlobals C = some (some (.ref d)) ∧ subIn K (.ref d) (.ref c) = some b) : MtK K mg x mt := by
  refine ⟨.ref c, .inl (mg_of X G a), fun C b hb c' hc => ?_⟩
  obtain ⟨d, h4, h5⟩ := hm C b hb
  have e := h4.symm.trans hc
  cases e
  exact exm_mk h1 h2 h3 h5
theorem xfd_mk {f : Str} {mt : Str → Option Bool} (hm : ∀ C, mt C = some true → ∃ d, nsIn K mainGlobals C = some (some (.ref d)) ∧ findIn K (.ref d) "__getattribute__" = some (some (.builtin "BaseException.__getattribute__")) ∧ findIn K (.ref d) "__getattr__" = some none ∧ subIn K (.ref d) (.type "BaseException") = some true ∧ hasDictIn K d = true ∧ findIn K (.ref d) f = some none) : XfD K mt f := by
  refine ⟨fun C hC c hc => ?_⟩
  obtain ⟨d, h4, h5, h6, h7, h8, h9⟩ := hm C hC
  have e := h4.symm.trans hc
  cases e
  exact ⟨⟨h5, h6, h7, h8⟩, h9⟩
end
end DM

/-! Plain lemmas about mirrors: how the words of R are read. -/
namespace PL
open PySem L2 DM
section
variable {β α γ ω S : Type}
@[simp] theorem bind_ok (a : α) (k : α → R β γ) : R.bind (.ok a) k = k a := id rfl
@[simp] theorem bind_ex (x : Exn) (b : β) (k : α → R β γ) : R.bind (.ex x b) k = .ex x b := id rfl
@[simp] theorem call_ok (a : α) (xb : β) (k : α → R β γ) : R.call (.ok a) xb k = k a := id rfl
@[simp] theorem call_ex (x : Exn) (u : Unit) (xb : β) (k : α → R β γ) : R.call (.ex x u) xb k = .ex x xb := id rfl
@[simp] theorem call1e_ok (a w : D) (xb : β) (k : D → D → R β γ) : R.call1e (.ok (a, w)) xb k = k a w := id rfl
@[simp] theorem call1e_ex (x : Exn) (u : Unit) (xb : β) (k : D → D → R β γ) : R.call1e (.ex x u) xb k = .ex x xb := id rfl
@[simp] theorem make_ok (o : D) (xb : β) (k : D → R β γ) : R.make (.ok (.non, o)) xb k = k o := id rfl
@[simp] theorem make_ex (x : Exn) (u : Unit) (xb : β) (k : D → R β γ) : R.make (.ex x u) xb k = .ex x xb := id rfl
@[simp] theorem lft_some (a : α) (k : α → R β γ) : R.lft (some a) k = k a := id rfl
@[simp] theorem asB_bl (b : Bool) (k : Bool → R β γ) : R.asB (.bl b) k = k b := id rfl
@[simp] theorem asI_int (i : Int) (k : Int → R β γ) : R.asI (.int i) k = k i := id rfl
@[simp] theorem asL_lst (ds : List D) (k : List D → R β γ) : R.asL (.lst ds) k = k ds := id rfl
@[simp] theorem asQ_lst (ds : List D) (k : List D → R β γ) : R.asQ (.lst ds) k = k ds := id rfl
@[simp] theorem asQ_tup (ds : List D) (k : List D → R β γ) : R.asQ (.tup ds) k = k ds := id rfl
@[simp] theorem asS_str (z : Str) (k : Str → R β γ) : R.asS (.str z) k = k z := id rfl
@[simp] theorem items_lst (ds : List D) (k : List D → R β γ) : R.items (.lst ds) k = k ds := id rfl
@[simp] theorem items_tup (ds : List D) (k : List D → R β γ) : R.items (.tup ds) k = k ds := id rfl
@[simp] theorem tup2_tup (x y : D) (k : D → D → R β γ) : R.tup2 (.tup [x, y]) k = k x y := id rfl
@[simp] theorem tup2_lst (x y : D) (k : D → D → R β γ) : R.tup2 (.lst [x, y]) k = k x y := id rfl
@[simp] theorem join_eq (r : S → R β ω) (f : (S → R β ω) → R β ω) : R.join r f = f r := id rfl
@[simp] theorem bind2_ok (a : α) (w : D) (k : α → D → R β γ) : R.bind2 (.ok (a, w)) k = k a w := id rfl
@[simp] theorem after_nx (s : S) (k : S → R β ω) (kr : D → S → R β ω) : R.after (.ok (.nx s)) k kr = k s := id rfl
@[simp] theorem after_rt (d : D) (s : S) (k : S → R β ω) (kr : D → S → R β ω) : R.after (.ok (.rt d s)) k kr = kr d s := id rfl
@[simp] theorem turn_nx (s : S) (n : S → R β (Step S)) : R.turn (.ok (.nx s)) n = n s := id rfl
@[simp] theorem turn_bk (s : S) (n : S → R β (Step S)) : R.turn (.ok (.bk s)) n = .ok (.nx s) := id rfl
@[simp] theorem turn_rt (d : D) (s : S) (n : S → R β (Step S)) : R.turn (.ok (.rt d s)) n = .ok (.rt d s) := id rfl
@[simp] theorem for_nil (s : S) (f : D → S → R β (Step S)) : R.for' [] s f = .ok (.nx s) := id rfl
@[simp] theorem for_cons (d : D) (ds : List D) (s : S) (f : D → S → R β (Step S)) : R.for' (d :: ds) s f = R.turn (f d s) fun s' => R.for' ds s' f := id rfl
@[simp] theorem lst_ok (ys : List D) (s : S) (k : D → S → R β γ) : R.lst (.ok (ys, s)) k = k (.lst ys) s := id rfl
@[simp] theorem prop_ok (a : α) (k : α → R β γ) : R.prop (.ok a) k = k a := id rfl
theorem szl : sizeLine = 16777216 := sizeLine_eq
@[simp] theorem few_eq (ds : List D) (k : List D → R β γ) : R.few ds k = if ds.length ≤ 16777216 then k ds else .no := by
  unfold R.few DM.few
  rw [szl]
  by_cases h : ds.length ≤ 16777216 <;> simp [h]
theorem few0 (k' : List D → R β γ) : R.few [] k' = k' [] := by rw [few_eq, if_pos (by simp only [List.length_cons, List.length_nil]; omega)]
theorem few1 (a : D) (k' : List D → R β γ) : R.few [a] k' = k' [a] := by rw [few_eq, if_pos (by simp only [List.length_cons, List.length_nil]; omega)]
theorem few2 (a b : D) (k' : List D → R β γ) : R.few [a, b] k' = k' [a, b] := by rw [few_eq, if_pos (by simp only [List.length_cons, List.length_nil]; omega)]
theorem few3 (a b c : D) (k' : List D → R β γ) : R.few [a, b, c] k' = k' [a, b, c] := by rw [few_eq, if_pos (by simp only [List.length_cons, List.length_nil]; omega)]
theorem few4 (a b c d : D) (k' : List D → R β γ) : R.few [a, b, c, d] k' = k' [a, b, c, d] := by rw [few_eq, if_pos (by simp only [List.length_cons, List.length_nil]; omega)]
theorem few5 (a b c d e : D) (k' : List D → R β γ) : R.few [a, b, c, d, e] k' = k' [a, b, c, d, e] := by rw [few_eq, if_pos (by simp only [List.length_cons, List.length_nil]; omega)]
theorem few6 (a b c d e f : D) (k' : List D → R β γ) : R.few [a, b, c, d, e, f] k' = k' [a, b, c, d, e, f] := by rw [few_eq, if_pos (by simp only [List.length_cons, List.length_nil]; omega)]
theorem few7 (a b c d e f g : D) (k' : List D → R β γ) : R.few [a, b, c, d, e, f, g] k' = k' [a, b, c, d, e, f, g] := by rw [few_eq, if_pos (by simp only [List.length_cons, List.length_nil]; omega)]
theorem few8 (a b c d e f g h : D) (k' : List D → R β γ) : R.few [a, b, c, d, e, f, g, h] k' = k' [a, b, c, d, e, f, g, h] := by rw [few_eq, if_pos (by simp only [List.length_cons, List.length_nil]; omega)]
theorem few9 (a b c d e f g h i : D) (k' : List D → R β γ) : R.few [a, b, c, d, e, f, g, h, i] k' = k' [a, b, c, d, e, f, g, h, i] := by rw [few_eq, if_pos (by simp only [List.length_cons, List.length_nil]; omega)]
theorem few10 (a b c d e f g h i j : D) (k' : List D → R β γ) : R.few [a, b, c, d, e, f, g, h, i, j] k' = k' [a, b, c, d, e, f, g, h, i, j] := by rw [few_eq, if_pos (by simp only [List.length_cons, List.length_nil]; omega)]
theorem few11 (a b c d e f g h i j k : D) (k' : List D → R β γ) : R.few [a, b, c, d, e, f, g, h, i, j, k] k' = k' [a, b, c, d, e, f, g, h, i, j, k] := by rw [few_eq, if_pos (by simp only [List.length_cons, List.length_nil]; omega)]
theorem few12 (a b c d e f g h i j k l : D) (k' : List D → R β γ) : R.few [a, b, c, d, e, f, g, h, i, j, k, l] k' = k' [a, b, c, d, e, f, g, h, i, j, k, l] := by rw [few_eq, if_pos (by simp only [List.length_cons, List.length_nil]; omega)]
theorem few13 (a b c d e f g h i j k l m : D) (k' : List D → R β γ) : R.few [a, b, c, d, e, f, g, h, i, j, k, l, m] k' = k' [a, b, c, d, e, f, g, h, i, j, k, l, m] := by rw [few_eq, if_pos (by simp only [List.length_cons, List.length_nil]; omega)]
theorem few14 (a b c d e f g h i j k l m n : D) (k' : List D → R β γ) : R.few [a, b, c, d, e, f, g, h, i, j, k, l, m, n] k' = k' [a, b, c, d, e, f, g, h, i, j, k, l, m, n] := by rw [few_eq, if_pos (by simp only [List.length_cons, List.length_nil]; omega)]
@[simp] theorem push_eq (ds : List D) (y : D) (k : D → R β ω) : R.push ds y k = if ds.length < 16777216 then k (.lst (ds ++ [y])) else .no := by
  unfold R.push
  rw [szl]
@[simp] theorem fld_obj (cs : Str → Bool) (f C : Str) (gs : List (Str × D)) (k : D → R β γ) : R.fld cs f (.obj C gs) k = if cs C then R.lft (gs.lookup f) k else .no := id rfl
@[simp] theorem meth_obj (mt : Str → Option (List D → R Unit D)) (m C : Str) (gs : List (Str × D)) (k : (List D → R Unit D) → R β γ) : R.meth mt m (.obj C gs) k = if (gs.lookup m).isNone then R.lft (mt C) k else .no := id rfl
/-! conditionals -/
@[simp] theorem ite_ok (c : Prop) [Decidable c] (x y : α) : (if c then (R.ok x : R β α) else R.ok y) = R.ok (if c then x else y) := by split <;> rfl
@[simp] theorem ite_bl (c : Prop) [Decidable c] (x y : Bool) : (if c then D.bl x else D.bl y) = D.bl (if c then x else y) := by split <;> rfl
@[simp] theorem ite_int (c : Prop) [Decidable c] (x y : Int) : (if c then D.int x else D.int y) = D.int (if c then x else y) := by split <;> rfl
/-! operators -/
@[simp] theorem eq_str (a b : Str) : eqG (.str a) (.str b) = some (.bl (decide (a = b))) := id rfl
@[simp] theorem eq_int (a b : Int) : eqG (.int a) (.int b) = some (.bl (decide (a = b))) := id rfl
@[simp] theorem eq_bl (a b : Bool) : eqG (.bl a) (.bl b) = some (.bl (decide (a = b))) := id rfl
@[simp] theorem ne_str (a b : Str) : neG (.str a) (.str b) = some (.bl (!decide (a = b))) := id rfl
@[simp] theorem ne_int (a b : Int) : neG (.int a) (.int b) = some (.bl (!decide (a = b))) := id rfl
@[simp] theorem ne_bl (a b : Bool) : neG (.bl a) (.bl b) = some (.bl (!decide (a = b))) := id rfl
@[simp] theorem add_int (a b : Int) : addA (.int a) (.int b) = some (.int (a + b)) := id rfl
@[simp] theorem add_lst (a b : List D) : addA (.lst a) (.lst b) = if a.length + b.length ≤ 16777216 then some (.lst (a ++ b)) else none := by
  rw [← szl]; rfl
@[simp] theorem cat_lst (a b : List D) : catLG (.lst a) (.lst b) = if a.length + b.length ≤ 16777216 then some (.lst (a ++ b)) else none := by
  rw [← szl]; rfl
@[simp] theorem sub_int (a b : Int) : subG (.int a) (.int b) = some (.int (a - b)) := id rfl
@[simp] theorem lt_int (a b : Int) : ltG (.int a) (.int b) = some (.bl (decide (a < b))) := id rfl
@[simp] theorem le_int (a b : Int) : leG (.int a) (.int b) = some (.bl (decide (a ≤ b))) := id rfl
@[simp] theorem gt_int (a b : Int) : gtG (.int a) (.int b) = some (.bl (decide (b < a))) := id rfl
@[simp] theorem ge_int (a b : Int) : geG (.int a) (.int b) = some (.bl (decide (b ≤ a))) := id rfl
@[simp] theorem max_int (a b : Int) : max2G [.int a, .int b] = some (.int (if b > a then b else a)) := id rfl
@[simp] theorem min_int (a b : Int) : min2G [.int a, .int b] = some (.int (if b < a then b else a)) := id rfl
@[simp] theorem int_int (a : Int) : intG1 [.int a] = some (.int a) := id rfl
@[simp] theorem int_bl (b : Bool) : intG1 [.bl b] = some (.int (if b then 1 else 0)) := id rfl
@[simp] theorem len_lst (ds : List D) : lenG [.lst ds] = some (.int ds.length) := id rfl
@[simp] theorem len_tup (ds : List D) : lenG [.tup ds] = some (.int ds.length) := id rfl
@[simp] theorem list_lst (ds : List D) : listG [.lst ds] = some (.lst ds) := id rfl
@[simp] theorem list_tup (ds : List D) : listG [.tup ds] = some (.lst ds) := id rfl
@[simp] theorem sl_lst (ds : List D) (lo hi : Option Int) : slG (.lst ds) lo hi = some (.lst (cutD ds lo hi)) := id rfl
@[simp] theorem sl_tup (ds : List D) (lo hi : Option Int) : slG (.tup ds) lo hi = some (.tup (cutD ds lo hi)) := id rfl
@[simp] theorem ix_lst (ds : List D) (i : Int) : ixG (.lst ds) (.int i) = atI ds i := id rfl
@[simp] theorem ix_tup (ds : List D) (i : Int) : ixG (.tup ds) (.int i) = atI ds i := id rfl
@[simp] theorem isi_str (z : Str) : isiG [.str z, .ty "str"] = some (.bl true) := id rfl
@[simp] theorem notN_non : notNG .non .non = some (.bl false) := id rfl
theorem at_nat {α : Type} {xs : List α} {i : Nat} {x : α} (h : xs[i]? = some x) : atI xs (i : Int) = some x := by
  have hl : i < xs.length := by
    rcases List.getElem?_eq_some_iff.mp h with ⟨h, _⟩; exact h
  unfold atI ixN
  rw [if_pos (by omega), if_pos (by omega)]
  simp [h]
theorem at_int {α : Type} {xs : List α} {i : Int} (h0 : 0 ≤ i) (h1 : i < xs.length) : ∃ x, atI xs i = some x ∧ x ∈ xs := by
  obtain ⟨n, rfl⟩ : ∃ n : Nat, i = n := ⟨i.toNat, by omega⟩
  have hn : n < xs.length := by omega
  exact ⟨xs[n], at_nat (List.getElem?_eq_getElem hn), List.getElem_mem hn⟩
theorem cut_lo {α : Type} (xs : List α) (n : Nat) : cutD xs none (some (n : Int)) = xs.take n := by
  unfold cutD
  rw [HT.sIx_nat, HT.sIx_none]
  simp only [List.drop_zero, Nat.sub_zero]
  rcases Nat.le_total n xs.length with h | h
  · rw [Nat.min_eq_left h]
  · rw [Nat.min_eq_right h, List.take_length, List.take_of_length_le h]
theorem cut_hi {α : Type} (xs : List α) (n : Nat) : cutD xs (some (n : Int)) none = xs.drop n := by
  unfold cutD
  rw [HT.sIx_nat, HT.sIx_none]
  rcases Nat.le_total n xs.length with h | h
  · rw [Nat.min_eq_left h, List.take_of_length_le (by rw [List.length_drop]; omega)]
  · rw [Nat.min_eq_right h, List.drop_length, List.drop_of_length_le h]; simp
theorem cut_mid {α : Type} (xs : List α) (n m : Nat) : cutD xs (some (n : Int)) (some (m : Int)) = (xs.take m).drop n := by
  unfold cutD
  rw [HT.sIx_nat, HT.sIx_nat, List.drop_take]
  rcases Nat.le_total n xs.length with h | h
  · rw [Nat.min_eq_left h]
    rcases Nat.le_total m xs.length with h' | h'
    · rw [Nat.min_eq_left h']
    · rw [Nat.min_eq_right h', List.take_of_length_le (by rw [List.length_drop]; omega), List.take_of_length_le (by rw [List.length_drop]; omega)]
  · rw [Nat.min_eq_right h, List.drop_length, List.drop_of_length_le h]; simp
/-! loops, comprehensions -/
theorem fmapS_ok {f : D → Unit → R Unit (Option D × Unit)} {g : D → Option D} : ∀ {xs : List D}, (∀ d ∈ xs, f d () = .ok (g d, ())) → R.fmapS f xs () = .ok (xs.filterMap g, ())
  | [], _ => rfl
  | d :: ds, h => by
    unfold R.fmapS
    rw [h d List.mem_cons_self]
    simp only
    rw [fmapS_ok fun x hx => h x (List.mem_cons_of_mem _ hx)]
    simp only [List.filterMap_cons]
    cases g d <;> rfl
theorem for_inv {I : S → Prop} {f : D → S → R β (Step S)} : ∀ {ds : List D} {s : S}, I s → (∀ d ∈ ds, ∀ s, I s → ∃ s', f d s = .ok (.nx s') ∧ I s') → ∃ s', R.for' ds s f = .ok (.nx s') ∧ I s'
  | [], s, h, _ => ⟨s, rfl, h⟩
  | d :: ds, s, h, hf => by
    obtain ⟨s1, e, h1⟩ := hf d List.mem_cons_self s h
    rw [for_cons, e, turn_nx]
    exact for_inv h1 fun x hx => hf x (List.mem_cons_of_mem _ hx)
/-- every turn goes on -/
theorem for_unit {f : D → Unit → R β (Step Unit)} : ∀ {ds : List D}, (∀ d ∈ ds, f d () = .ok (.nx ())) → R.for' ds () f = .ok (.nx ())
  | [], _ => rfl
  | d :: ds, h => by
    rw [for_cons, h d List.mem_cons_self, turn_nx]
    exact for_unit fun x hx => h x (List.mem_cons_of_mem _ hx)
theorem enumA_lst (ds : List D) (k : List D → R β γ) : R.enumA (.lst ds) k = k (enumD ds) := rfl
theorem enumA_tup (ds : List D) (k : List D → R β γ) : R.enumA (.tup ds) k = k (enumD ds) := rfl
theorem enum_mem {ds : List D} {d : D} (h : d ∈ enumD ds) : ∃ (i : Nat) (x : D), ds[i]? = some x ∧ d = .tup [.int i, x] := by
  unfold enumD at h
  obtain ⟨i, hi, rfl⟩ := List.getElem_of_mem h
  simp only [List.getElem_zipWith, List.getElem_range]
  simp only [List.length_zipWith, List.length_range] at hi
  exact ⟨i, ds[i]'(by omega), List.getElem?_eq_getElem _, rfl⟩
end
end PL

/-! The numbers that a law draws. -/
namespace PL
open PySem L2 DM
def m_numbers : List D → R Unit D
  | [a0, a1, a2] => R.asI (.int 1) fun x3 => R.lft (subG (.int (-x3)) a0) fun x4 => R.lft (max2G [a0, x4]) fun x5 => R.few [] fun l6 => R.lft (lenG [a2]) fun x7 => R.rng1 x7 fun l8 => R.after (R.for' l8 ((x5, (.lst l6)) : D × D) fun d9 s10 => R.bind (R.lft (powG (.int 10) (.int 18)) fun x11 => R.lft (geG x5 x11) fun x12 => R.asB x12 fun b13 => if b13 then R.lft (gtG s10.1 (.int 0)) fun x14 => R.asB x14 fun b15 => R.ok b15 else R.ok false) fun b16 => if b16 then R.asL s10.2 fun l17 => R.lft (ixG a2 d9) fun x18 => R.lft (modG s10.1 x18) fun x19 => R.push l17 x19 fun x20 => R.lft (ixG a2 d9) fun x21 => R.lft (divG s10.1 x21) fun x22 => R.ok (Step.nx ((x22, x20) : D × D)) else R.lft (modG x5 (.int 2147483629)) fun x23 => R.lft (mulG (.int 7919) a1) fun x24 => R.lft (addA x23 x24) fun x25 => R.lft (addA x25 (.int 1)) fun x26 => R.lft (powG x26 (.int 3)) fun x27 => R.lft (modG x27 (.int 2147483647)) fun x28 => R.lft (addA d9 (.int 1)) fun x29 => R.lft (mulG (.int 104729) x29) fun x30 => R.lft (addA x28 x30) fun x31 => R.lft (addA d9 (.int 3)) fun x32 => R.lft (mulG x31 x32) fun x33 => R.lft (modG x33 (.int 2147483629)) fun x34 => R.lft (powG x34 (.int 5)) fun x35 => R.lft (modG x35 (.int 2147483647)) fun x36 => R.lft (mulG x36 (.int 48271)) fun x37 => R.lft (modG x37 (.int 2147483629)) fun x38 => R.asL s10.2 fun l39 => R.lft (divG x38 (.int 16)) fun x40 => R.lft (ixG a2 d9) fun x41 => R.lft (modG x40 x41) fun x42 => R.push l39 x42 fun x43 => R.ok (Step.nx ((s10.1, x43) : D × D))) (fun s44 => R.ok s44.2) fun d45 s46 => R.ok d45
  | _ => .no
def m_pool : List D → R Unit D
  | [a0, a1, a2] => R.few [(.int 420)] fun l3 => R.lft (repG (.lst l3) a2) fun x4 => R.call (m_numbers [a0, a1, x4]) () fun x5 => R.few [x5, (.int 0)] fun l6 => R.ok (.lst l6)
  | _ => .no
def m_draw : List D → R Unit (D × D)
  | [a0, a1] => R.lft (ixG a0 (.int 1)) fun x2 => R.asL a0 fun l3 => R.lft (addA x2 (.int 1)) fun x4 => R.setAt l3 (.int 1) x4 fun x5 => R.bind (R.lft (ixG x5 (.int 0)) fun x6 => R.lft (lenG [x6]) fun x7 => R.lft (ltG x2 x7) fun x8 => R.asB x8 fun b9 => if b9 then R.lft (ixG x5 (.int 0)) fun x10 => R.lft (ixG x10 x2) fun x11 => R.lft (intG1 [x11]) fun x12 => R.lft (modG x12 a1) fun x13 => R.ok x13 else R.ok (.int 0)) fun x14 => R.ok (x14, x5)
  | _ => .no
def m_pick : List D → R Unit (D × D)
  | [a0, a1] => R.lft (lenG [a1]) fun x2 => R.call1e (m_draw [a0, x2]) () fun x3 w4 => R.lft (ixG a1 x3) fun x5 => R.ok (x5, w4)
  | _ => .no

theorem mod_int {a b : Int} (h : 0 < b) : modG (.int a) (.int b) = some (.int (a % b)) := by
  show (if cMod a b then _ else _) = _
  rw [if_pos (by simp [cMod, h])]
theorem div_int {a b : Int} (h : 0 < b ∧ b < 1073741824) : divG (.int a) (.int b) = some (.int (a / b)) := by
  show (if cDiv a b then _ else _) = _
  rw [if_pos (by simp [cDiv, h])]
theorem mul_int {a b : Int} (h : (-(2 ^ 64) < a ∧ a < 2 ^ 64) ∨ (-(2 ^ 64) < b ∧ b < 2 ^ 64)) : mulG (.int a) (.int b) = some (.int (a * b)) := by
  show (if cMul a b then _ else _) = _
  rw [if_pos (by unfold cMul; rcases h with h | h <;> simp only [h, and_self, decide_true, Bool.true_or, Bool.or_true])]
theorem pow_int {a b : Int} (h : 0 ≤ b ∧ b ≤ 1000000 ∧ a.natAbs < 2 ^ 64) : powG (.int a) (.int b) = some (.int (a ^ b.toNat)) := by
  show (if cPow a b then _ else _) = _
  rw [if_pos (by unfold cPow; exact decide_eq_true h)]
section
variable {β γ S : Type}
theorem for_ix {I : Nat → S → Prop} {f : D → S → R β (Step S)} : ∀ {ds : List D} {s : S} (n : Nat), I n s → (∀ i d, ds[i]? = some d → ∀ s, I (n + i) s → ∃ s', f d s = .ok (.nx s') ∧ I (n + i + 1) s') → ∃ s', R.for' ds s f = .ok (.nx s') ∧ I (n + ds.length) s'
  | [], s, n, h, _ => ⟨s, rfl, h⟩
  | d :: ds, s, n, h, hf => by
    obtain ⟨s1, e, h1⟩ := hf 0 d rfl s h
    rw [for_cons, e, turn_nx]
    obtain ⟨s2, e2, h2⟩ := for_ix (ds := ds) (n + 1) h1 fun i x hx s hs => by
      have := hf (i + 1) x (by simpa using hx) s (by rw [show n + (i + 1) = n + 1 + i by omega]; exact hs)
      rw [show n + (i + 1) + 1 = n + 1 + i + 1 by omega] at this
      exact this
    exact ⟨s2, e2, by rw [List.length_cons, show n + (ds.length + 1) = n + 1 + ds.length by omega]; exact h2⟩
theorem rng_get {n i : Nat} {d : D} (h : (rngD 0 n)[i]? = some d) : i < n ∧ d = .int i := by
  unfold rngD at h
  rw [List.getElem?_map] at h
  cases q : (List.range n)[i]? with
  | none => rw [q] at h; cases h
  | some j =>
    rw [q] at h
    obtain ⟨hj, e⟩ := List.getElem?_eq_some_iff.mp q
    rw [List.getElem_range] at e
    rw [List.length_range] at hj
    subst e
    cases h
    exact ⟨hj, by simp⟩
theorem rng1_nat (n : Nat) (h : n ≤ 16777216) (k : List D → R β γ) : R.rng1 (.int n) k = k (rngD 0 n) := by
  unfold R.rng1
  simp only
  split
  · rw [Int.toNat_natCast]
  · rename_i q
    exact absurd ⟨by omega, by omega⟩ q
end
theorem get_map_int {zs : List Int} {i : Nat} {z : Int} (h : zs[i]? = some z) : atI (zs.map D.int) (i : Int) = some (.int z) := at_nat (by rw [List.getElem?_map, h]; rfl)
def Below (ns zs : List Int) (i : Nat) : Prop := ns.length = i ∧ ∀ (k : Nat) (v : Int), ns[k]? = some v → ∃ z : Int, zs[k]? = some z ∧ 0 ≤ v ∧ v < z
theorem Below.push {ns zs : List Int} {i : Nat} {z v : Int} (h : Below ns zs i) (hz : zs[i]? = some z) (h0 : 0 ≤ v) (h1 : v < z) : Below (ns ++ [v]) zs (i + 1) := by
  refine ⟨by rw [List.length_append, h.1]; rfl, fun k u hu => ?_⟩
  rw [List.getElem?_append] at hu
  split at hu
  · exact h.2 k u hu
  · rename_i hk
    have : k - ns.length = 0 := by
      rcases Nat.eq_zero_or_pos (k - ns.length) with q | q
      · exact q
      · rw [List.getElem?_eq_none (by simp only [List.length_singleton]; omega)] at hu; cases hu
    rw [this] at hu
    cases hu
    have : k = i := by have := h.1; omega
    subst this
    exact ⟨z, hz, h0, h1⟩
def turnN (whole salt : Int) (zs : List D) : D → D × D → R Unit (Step (D × D)) := fun d9 s10 => R.bind (R.lft (powG (.int 10) (.int 18)) fun x11 => R.lft (geG (.int whole) x11) fun x12 => R.asB x12 fun b13 => if b13 then R.lft (gtG s10.1 (.int 0)) fun x14 => R.asB x14 fun b15 => R.ok b15 else R.ok false) fun b16 => if b16 then R.asL s10.2 fun l17 => R.lft (ixG (.lst zs) d9) fun x18 => R.lft (modG s10.1 x18) fun x19 => R.push l17 x19 fun x20 => R.lft (ixG (.lst zs) d9) fun x21 => R.lft (divG s10.1 x21) fun x22 => R.ok (Step.nx ((x22, x20) : D × D)) else R.lft (modG (.int whole) (.int 2147483629)) fun x23 => R.lft (mulG (.int 7919) (.int salt)) fun x24 => R.lft (addA x23 x24) fun x25 => R.lft (addA x25 (.int 1)) fun x26 => R.lft (powG x26 (.int 3)) fun x27 => R.lft (modG x27 (.int 2147483647)) fun x28 => R.lft (addA d9 (.int 1)) fun x29 => R.lft (mulG (.int 104729) x29) fun x30 => R.lft (addA x28 x30) fun x31 => R.lft (addA d9 (.int 3)) fun x32 => R.lft (mulG x31 x32) fun x33 => R.lft (modG x33 (.int 2147483629)) fun x34 => R.lft (powG x34 (.int 5)) fun x35 => R.lft (modG x35 (.int 2147483647)) fun x36 => R.lft (mulG x36 (.int 48271)) fun x37 => R.lft (modG x37 (.int 2147483629)) fun x38 => R.asL s10.2 fun l39 => R.lft (divG x38 (.int 16)) fun x40 => R.lft (ixG (.lst zs) d9) fun x41 => R.lft (modG x40 x41) fun x42 => R.push l39 x42 fun x43 => R.ok (Step.nx ((s10.1, x43) : D × D))
theorem lftB {α γ : Type} {m : Option α} {a : α} {k : α → R Unit γ} {Q : R Unit γ → Prop} (h : m = some a) (q : Q (k a)) : Q (R.lft m k) := by rw [h]; exact q
theorem turnN_ok (whole salt : Int) (zs ns : List Int) (left : Int) (i : Nat) (hs : 0 ≤ salt ∧ salt ≤ 1000000000) (hi : i < 1000000) (hb : Below ns zs i) (z : Int) (hzi : zs[i]? = some z) (z0 : 0 < z) (z1 : z < 1073741824) : ∃ s', turnN whole salt (zs.map .int) (.int i) (.int left, .lst (ns.map .int)) = .ok (.nx s') ∧ ∃ (left : Int) (ns : List Int), s' = (.int left, .lst (ns.map .int)) ∧ Below ns zs (i + 1) := by
  have hn : (ns.map D.int).length < 16777216 := by rw [List.length_map]; have := hb.1; omega
  unfold turnN
  rw [pow_int ⟨by omega, by omega, by omega⟩, lft_some, ge_int, lft_some, asB_bl]
  generalize decide ((10 : Int) ^ (18 : Int).toNat ≤ whole) = b
  have e1 : (if b = true then R.lft (gtG (D.int left) (.int 0)) fun x14 => R.asB x14 fun b15 => R.ok b15 else R.ok false : R Unit Bool) = R.ok (b && decide (0 < left)) := by
    cases b <;> rfl
  show ∃ s', R.bind (if b = true then R.lft (gtG (D.int left) (.int 0)) fun x14 => R.asB x14 fun b15 => R.ok b15 else R.ok false) _ = _ ∧ _
  rw [e1, bind_ok]
  generalize (b && decide (0 < left)) = c
  cases c
  · rw [if_neg (by simp)]
    have a1 : 0 ≤ whole % 2147483629 ∧ whole % 2147483629 < 2147483629 := ⟨Int.emod_nonneg _ (by omega), Int.emod_lt_of_pos _ (by omega)⟩
    rw [mod_int (by omega), lft_some]
    generalize whole % 2147483629 = v0 at a1
    rw [mul_int (Or.inl (by omega)), lft_some, add_int, lft_some, add_int, lft_some, pow_int (by omega), lft_some]
    generalize (v0 + 7919 * salt + 1) ^ (3 : Int).toNat = v1
    rw [mod_int (by omega), lft_some]
    generalize v1 % 2147483647 = v2
    rw [add_int, lft_some, mul_int (Or.inl (by omega)), lft_some, add_int, lft_some, add_int, lft_some, mul_int (Or.inr (by omega)), lft_some]
    generalize (v2 + 104729 * ((i : Int) + 1)) * ((i : Int) + 3) = v3
    have a2 : 0 ≤ v3 % 2147483629 ∧ v3 % 2147483629 < 2147483629 := ⟨Int.emod_nonneg _ (by omega), Int.emod_lt_of_pos _ (by omega)⟩
    rw [mod_int (by omega), lft_some]
    generalize v3 % 2147483629 = v4 at a2
    rw [pow_int (by omega), lft_some]
    generalize v4 ^ (5 : Int).toNat = v5
    rw [mod_int (by omega), lft_some, mul_int (Or.inr (by omega)), lft_some, mod_int (by omega), lft_some, asL_lst, div_int (by omega), lft_some, ix_lst, get_map_int hzi, lft_some, mod_int z0, lft_some, push_eq, if_pos hn]
    generalize v5 % 2147483647 * 48271 % 2147483629 / 16 = v6
    exact ⟨_, rfl, left, ns ++ [v6 % z], by rw [List.map_append]; rfl, hb.push hzi (Int.emod_nonneg _ (by omega)) (Int.emod_lt_of_pos _ z0)⟩
  · rw [if_pos rfl, asL_lst, ix_lst, get_map_int hzi, lft_some, mod_int z0, lft_some, push_eq, if_pos hn, lft_some, div_int (And.intro z0 z1), lft_some]
    exact ⟨_, rfl, left / z, ns ++ [left % z], by rw [List.map_append]; rfl, hb.push hzi (Int.emod_nonneg _ (by omega)) (Int.emod_lt_of_pos _ z0)⟩
theorem numbers_eq (c salt : Int) (zs : List Int) (hl : zs.length ≤ 1000000) : m_numbers [.int c, .int salt, .lst (zs.map .int)] = R.after (R.for' (rngD 0 zs.length) ((.int (if -1 - c > c then -1 - c else c), .lst []) : D × D) (turnN (if -1 - c > c then -1 - c else c) salt (zs.map .int))) (fun s => R.ok s.2) fun d s => R.ok d := by
  unfold m_numbers
  simp only [asI_int, sub_int, lft_some, max_int, len_lst, List.length_map]
  rw [few_eq, if_pos (by simp), rng1_nat _ (by omega)]
  rfl
theorem numbers_ok (c salt : Int) (zs : List Int) (hs : 0 ≤ salt ∧ salt ≤ 1000000000) (hl : zs.length ≤ 1000000) (hz : ∀ z ∈ zs, 0 < z ∧ z < 1073741824) : ∃ ns : List Int, m_numbers [.int c, .int salt, .lst (zs.map .int)] = .ok (.lst (ns.map .int)) ∧ Below ns zs zs.length := by
  rw [numbers_eq c salt zs hl]
  generalize (if -1 - c > c then -1 - c else c) = whole
  obtain ⟨s', e, left, ns, rfl, hb⟩ := for_ix (I := fun i (s : D × D) => ∃ (left : Int) (ns : List Int), s = (.int left, .lst (ns.map .int)) ∧ Below ns zs i) (ds := rngD 0 zs.length) (s := ((.int whole, .lst []) : D × D)) (f := turnN whole salt (zs.map .int)) 0 ⟨whole, [], rfl, rfl, fun k v h => by cases h⟩ (fun i d hd s ⟨left, ns, es, hb⟩ => by
    subst es
    obtain ⟨hi, rfl⟩ := rng_get hd
    rw [Nat.zero_add] at hb ⊢
    obtain ⟨z, hzi⟩ : ∃ z, zs[i]? = some z := ⟨_, List.getElem?_eq_getElem hi⟩
    obtain ⟨z0, z1⟩ := hz z (List.mem_of_getElem? hzi)
    exact turnN_ok whole salt zs ns left i hs (by omega) hb z hzi z0 z1)
  refine ⟨ns, ?_, by rw [show 0 + (rngD 0 zs.length).length = zs.length by simp [rngD]] at hb; exact hb⟩
  rw [e]
  rfl
/-- a pool of numbers -/
def Pool (d : D) : Prop := ∃ (ns : List Int) (i : Nat), d = .lst [.lst (ns.map .int), .int i]
theorem pool_ok (c salt : Int) (m : Nat) (hs : 0 ≤ salt ∧ salt ≤ 1000000000) (hm : m ≤ 1000000) : ∃ p, m_pool [.int c, .int salt, .int m] = .ok p ∧ Pool p := by
  unfold m_pool
  have e : (List.replicate (m : Int).toNat [D.int 420]).flatten = (List.replicate m (420 : Int)).map D.int := by
    rw [Int.toNat_natCast]
    induction m with
    | zero => rfl
    | succ n ih => rw [List.replicate_succ, List.flatten_cons, ih (by omega)]; rfl
  have r : repG (.lst [.int 420]) (.int m) = some (.lst ((List.replicate m (420 : Int)).map D.int)) := by
    unfold repG
    simp only
    rw [if_pos (by refine ⟨by omega, by omega, ?_⟩; rw [szl]; simp; omega), e]
  obtain ⟨ns, e2, _⟩ := numbers_ok c salt (List.replicate m 420) hs (by rw [List.length_replicate]; exact hm) (fun z hz => by rw [List.eq_of_mem_replicate hz]; omega)
  simp only
  rw [few_eq, if_pos (by simp), r, lft_some, e2, call_ok, few_eq, if_pos (by simp)]
  exact ⟨_, rfl, ns, 0, rfl⟩
theorem draw_ok {p : D} {m : Int} (hp : Pool p) (hm : 0 < m) : ∃ (v : Nat) (p' : D), m_draw [p, .int m] = .ok (.int v, p') ∧ (v : Int) < m ∧ Pool p' := by
  obtain ⟨ns, i, rfl⟩ := hp
  have hp' : Pool (.lst [.lst (ns.map .int), .int ((i : Int) + 1)]) := ⟨ns, i + 1, rfl⟩
  unfold m_draw
  have x1 : ixG (.lst [.lst (ns.map .int), .int i]) (.int 1) = some (.int i) := rfl
  have x0 : ∀ y, ixG (.lst [.lst (ns.map .int), y]) (.int 0) = some (.lst (ns.map .int)) := fun _ => rfl
  have xs : ∀ (y : D) (k : D → R Unit (D × D)), R.setAt [.lst (ns.map .int), .int i] (.int 1) y k = k (.lst [.lst (ns.map .int), y]) := fun _ _ => rfl
  simp only [x1, lft_some, asL_lst, add_int, xs, x0, len_lst, lt_int, asB_bl]
  by_cases h : (i : Int) < ((ns.map D.int).length : Nat)
  · rw [decide_eq_true h, if_pos rfl]
    have hi : i < ns.length := by rw [List.length_map] at h; omega
    rw [ix_lst, get_map_int (List.getElem?_eq_getElem hi), lft_some, int_int, lft_some, mod_int hm, lft_some, bind_ok]
    have h0 := Int.emod_nonneg ns[i] (show m ≠ 0 by omega)
    exact ⟨(ns[i] % m).toNat, _, by rw [Int.toNat_of_nonneg h0], by rw [Int.toNat_of_nonneg h0]; exact Int.emod_lt_of_pos _ hm, hp'⟩
  · rw [decide_eq_false h, if_neg (by simp), bind_ok]
    exact ⟨0, _, rfl, by simpa using hm, hp'⟩
theorem pick_ok {p : D} {xs : List D} (hp : Pool p) (hm : 0 < xs.length) : ∃ (x p' : D), m_pick [p, .lst xs] = .ok (x, p') ∧ x ∈ xs ∧ Pool p' := by
  unfold m_pick
  obtain ⟨v, p', e, hv, hp'⟩ := draw_ok (m := xs.length) hp (by omega)
  simp only [len_lst, lft_some, e, call1e_ok, ix_lst]
  obtain ⟨x, hx, hm⟩ := at_int (xs := xs) (i := v) (by omega) hv
  rw [hx, lft_some]
  exact ⟨x, p', rfl, hm, hp'⟩
end PL

/-! Things of a type of Lean's own as data: ==, in, index. -/
namespace PL
open PySem L2 DM
theorem pds_map {α : Type} (e : α → D) : ∀ xs : List α, pds (xs.map e) = xs.map fun x => pd (e x)
  | [] => by simp [pds]
  | x :: xs => by simp [pds, pds_map e xs]
theorem pds_eq : ∀ xs : List D, pds xs = xs.map pd
  | [] => by simp [pds]
  | x :: xs => by simp [pds, pds_eq xs]
theorem canLays {ds : List PyData} (h : ∀ d ∈ ds, d.canLay0 = true) : PyData.canLayAll0 ds = true := by
  induction ds with
  | nil => simp [PyData.canLayAll0]
  | cons d ds ih => simp only [PyData.canLayAll0, h d List.mem_cons_self, ih fun x hx => h x (List.mem_cons_of_mem _ hx), Bool.and_self]
theorem depths {ds : List PyData} {n : Nat} (h : ∀ d ∈ ds, d.depth ≤ n) : PyData.depthAll ds ≤ n := by
  induction ds with
  | nil => simp [PyData.depthAll]
  | cons d ds ih =>
    have h1 := h d List.mem_cons_self
    have h2 := ih fun x hx => h x (List.mem_cons_of_mem _ hx)
    simp only [PyData.depthAll]
    omega
theorem shp_of {d : D} (h : (pd d).canLay0 = true) (h2 : (pd d).depth ≤ 64) : shp d = true := by
  unfold shp SeqAt.shaped
  rw [h, decide_eq_true h2]; rfl
theorem eq_shp {a b : D} (ha : shp a = true) (hb : shp b = true) : eqG a b = some (.bl (PyData.eqv (pd a) (pd b))) := by
  have : (shp a && shp b) = true := by rw [ha, hb]; rfl
  cases a <;> cases b <;> first | (unfold eqG; simp only [this, if_true]; done) | (simp only [eqG, pd, PyData.eqv, Option.some.injEq, D.bl.injEq]; rw [Bool.eq_iff_iff]; simp)
theorem ne_shp {a b : D} (ha : shp a = true) (hb : shp b = true) : neG a b = some (.bl (!PyData.eqv (pd a) (pd b))) := by
  have : (shp a && shp b) = true := by rw [ha, hb]; rfl
  cases a <;> cases b <;> first | (unfold neG; simp only [this, if_true]; done) | (simp only [neG, pd, PyData.eqv, Option.some.injEq, D.bl.injEq]; rw [Bool.eq_iff_iff]; simp)
theorem eqF_eqv {a b : D} (ha : flat a = true) (hb : flat b = true) : eqF a b = PyData.eqv (pd a) (pd b) := by
  cases a <;> first | (simp [flat] at ha; done) | (cases b <;> first | (simp [flat] at hb; done) | simp [eqF, pd, PyData.eqv])
theorem inL_shp {d : D} {ds : List D} (hd : shp d = true) (hs : shp (.lst ds) = true) : inL d ds = some (ds.any fun y => PyData.eqv (pd y) (pd d)) := by
  have e2 : inP d ds = some (ds.any fun y => PyData.eqv (pd y) (pd d)) := by
    unfold inP
    rw [hd, hs, Bool.and_self, if_pos rfl, pds_eq, List.any_map]
    rfl
  unfold inL inF
  by_cases h : (flat d && ds.all flat) = true
  · rw [if_pos h]
    simp only
    rw [Bool.and_eq_true, List.all_eq_true] at h
    congr 1
    rw [Bool.eq_iff_iff, List.any_eq_true, List.any_eq_true]
    exact ⟨fun ⟨x, hx, e⟩ => ⟨x, hx, by rw [← eqF_eqv (h.2 x hx) h.1]; exact e⟩, fun ⟨x, hx, e⟩ => ⟨x, hx, by rw [eqF_eqv (h.2 x hx) h.1]; exact e⟩⟩
  · rw [if_neg h]
    exact e2
theorem in_lst {d : D} {ds : List D} : inA d (.lst ds) = (inL d ds).map .bl := by
  cases d <;> rfl
theorem in_tup {d : D} {ds : List D} : inA d (.tup ds) = (inL d ds).map .bl := by
  cases d <;> rfl
theorem notIn_lst {d : D} {ds : List D} : notInA d (.lst ds) = (inL d ds).map fun k => .bl (!k) := by
  cases d <;> rfl
theorem notIn_tup {d : D} {ds : List D} : notInA d (.tup ds) = (inL d ds).map fun k => .bl (!k) := by
  cases d <;> rfl
theorem shp_tl {ds : List D} : shp (.tup ds) = shp (.lst ds) := by
  unfold shp SeqAt.shaped
  simp only [pd, PyData.canLay0, PyData.depth]
/-- things of a type as data: n: how deep -/
structure Enc {α : Type} [DecidableEq α] (e : α → D) (n : Nat) : Prop where
  ok : ∀ a, (pd (e a)).canLay0 = true
  dep : ∀ a, (pd (e a)).depth ≤ n
  eq : ∀ a b, PyData.eqv (pd (e a)) (pd (e b)) = decide (a = b)
section
variable {α : Type} [DecidableEq α] {e : α → D} {n : Nat}
theorem Enc.up {m : Nat} (h : Enc e n) (hn : n ≤ m) : Enc e m := ⟨h.ok, fun a => Nat.le_trans (h.dep a) hn, h.eq⟩
theorem Enc.shp (h : Enc e n) (hn : n ≤ 64) (a : α) : shp (e a) = true := shp_of (h.ok a) (Nat.le_trans (h.dep a) hn)
theorem Enc.shpL (h : Enc e n) (hn : n < 64) (xs : List α) : DM.shp (.lst (xs.map e)) = true := by
  refine shp_of ?_ ?_
  · simp only [pd, PyData.canLay0, pds_map]
    exact canLays fun d hd => by obtain ⟨x, _, rfl⟩ := List.mem_map.mp hd; exact h.ok x
  · simp only [pd, PyData.depth, pds_map]
    have : PyData.depthAll (xs.map fun x => pd (e x)) ≤ n := depths fun d hd => by obtain ⟨x, _, rfl⟩ := List.mem_map.mp hd; exact h.dep x
    omega
theorem Enc.eqG (h : Enc e n) (hn : n ≤ 64) (a b : α) : eqG (e a) (e b) = some (.bl (decide (a = b))) := by rw [eq_shp (h.shp hn a) (h.shp hn b), h.eq]
theorem Enc.neG (h : Enc e n) (hn : n ≤ 64) (a b : α) : neG (e a) (e b) = some (.bl (!decide (a = b))) := by rw [ne_shp (h.shp hn a) (h.shp hn b), h.eq]
theorem Enc.any (h : Enc e n) (a : α) (xs : List α) : ((xs.map e).any fun y => PyData.eqv (pd y) (pd (e a))) = decide (a ∈ xs) := by
  rw [Bool.eq_iff_iff, List.any_map, List.any_eq_true, decide_eq_true_iff]
  constructor
  · rintro ⟨x, hx, q⟩
    simp only [Function.comp, h.eq, decide_eq_true_eq] at q
    exact q ▸ hx
  · intro hx
    exact ⟨a, hx, by simp only [Function.comp, h.eq, decide_true]⟩
theorem Enc.inL (h : Enc e n) (hn : n < 64) (a : α) (xs : List α) : inL (e a) (xs.map e) = some (decide (a ∈ xs)) := by
  rw [inL_shp (h.shp (by omega) a) (h.shpL hn xs), h.any]
theorem Enc.in_l (h : Enc e n) (hn : n < 64) (a : α) (xs : List α) : inA (e a) (.lst (xs.map e)) = some (.bl (decide (a ∈ xs))) := by rw [in_lst, h.inL hn]; rfl
theorem Enc.in_t (h : Enc e n) (hn : n < 64) (a : α) (xs : List α) : inA (e a) (.tup (xs.map e)) = some (.bl (decide (a ∈ xs))) := by rw [in_tup, h.inL hn]; rfl
theorem Enc.ni_l (h : Enc e n) (hn : n < 64) (a : α) (xs : List α) : notInA (e a) (.lst (xs.map e)) = some (.bl (!decide (a ∈ xs))) := by rw [notIn_lst, h.inL hn]; rfl
theorem Enc.ni_t (h : Enc e n) (hn : n < 64) (a : α) (xs : List α) : notInA (e a) (.tup (xs.map e)) = some (.bl (!decide (a ∈ xs))) := by rw [notIn_tup, h.inL hn]; rfl
theorem Enc.idx (h : Enc e n) (a : α) : ∀ xs : List α, idxD (e a) (xs.map e) = if a ∈ xs then some (xs.idxOf a) else none
  | [] => by simp [idxD, pds]
  | x :: xs => by
    have ih := h.idx a xs
    unfold idxD at ih ⊢
    rw [List.map_cons, pds, List.findIdx?_cons, h.eq]
    by_cases q : x = a
    · subst q
      simp
    · rw [decide_eq_false q, if_neg (by simp), ih]
      have qa : a ≠ x := Ne.symm q
      by_cases hm : a ∈ xs
      · rw [if_pos hm, if_pos (List.mem_cons_of_mem _ hm), List.idxOf_cons, show (x == a) = false by simpa using q]; rfl
      · rw [if_neg hm, if_neg (by simp [qa, hm])]; rfl
theorem Enc.idx_l (h : Enc e n) (hn : n < 64) {a : α} {xs : List α} (hm : a ∈ xs) : idxG (.lst (xs.map e)) [e a] = some (.int (xs.idxOf a)) := by
  unfold idxG
  simp only
  rw [h.shp (by omega), h.shpL hn, Bool.and_self, if_pos rfl, h.idx, if_pos hm]; rfl
theorem Enc.idx_t (h : Enc e n) (hn : n < 64) {a : α} {xs : List α} (hm : a ∈ xs) : idxG (.tup (xs.map e)) [e a] = some (.int (xs.idxOf a)) := by
  unfold idxG
  simp only
  rw [h.shp (by omega), shp_tl, h.shpL hn, Bool.and_self, if_pos rfl, h.idx, if_pos hm]; rfl
theorem eqvAll_map (h : Enc e n) : ∀ xs ys : List α, PyData.eqvAll (pds (xs.map e)) (pds (ys.map e)) = decide (xs = ys)
  | [], [] => by simp [pds, PyData.eqvAll]
  | [], y :: ys => by simp [pds, PyData.eqvAll]
  | x :: xs, [] => by simp [pds, PyData.eqvAll]
  | x :: xs, y :: ys => by
    rw [List.map_cons, List.map_cons, pds, pds, PyData.eqvAll, h.eq, eqvAll_map h xs ys, Bool.eq_iff_iff]
    simp
theorem Enc.lst (h : Enc e n) : Enc (fun xs : List α => D.lst (xs.map e)) (n + 1) where
  ok xs := by
    simp only [pd, PyData.canLay0, pds_map]
    exact canLays fun d hd => by obtain ⟨x, _, rfl⟩ := List.mem_map.mp hd; exact h.ok x
  dep xs := by
    simp only [pd, PyData.depth, pds_map]
    have : PyData.depthAll (xs.map fun x => pd (e x)) ≤ n := depths fun d hd => by obtain ⟨x, _, rfl⟩ := List.mem_map.mp hd; exact h.dep x
    omega
  eq a b := by rw [pd, pd, PyData.eqv, eqvAll_map h]
theorem Enc.tup (h : Enc e n) : Enc (fun xs : List α => D.tup (xs.map e)) (n + 1) where
  ok xs := by
    simp only [pd, PyData.canLay0, pds_map]
    exact canLays fun d hd => by obtain ⟨x, _, rfl⟩ := List.mem_map.mp hd; exact h.ok x
  dep xs := by
    simp only [pd, PyData.depth, pds_map]
    have : PyData.depthAll (xs.map fun x => pd (e x)) ≤ n := depths fun d hd => by obtain ⟨x, _, rfl⟩ := List.mem_map.mp hd; exact h.dep x
    omega
  eq a b := by rw [pd, pd, PyData.eqv, eqvAll_map h]
end
theorem enc_int : Enc D.int 0 := ⟨fun a => by simp [pd, PyData.canLay0], fun a => by simp [pd, PyData.depth], fun a b => by simp only [pd, PyData.eqv]; rw [Bool.eq_iff_iff]; simp⟩
theorem enc_bl : Enc D.bl 0 := ⟨fun a => by simp [pd, PyData.canLay0], fun a => by simp [pd, PyData.depth], fun a b => by simp only [pd, PyData.eqv]; rw [Bool.eq_iff_iff]; simp⟩
/-- words -/
theorem enc_word {α : Type} [DecidableEq α] {w : α → Str} (ok : ∀ a, PyData.strOk (w a) = true) (inj : ∀ a b, w a = w b → a = b) : Enc (fun a => D.str (w a)) 0 where
  ok a := by simp only [pd, PyData.canLay0]; exact ok a
  dep a := by simp [pd, PyData.depth]
  eq a b := by
    simp only [pd, PyData.eqv]
    rw [Bool.eq_iff_iff]
    simp only [beq_iff_eq, decide_eq_true_eq]
    exact ⟨inj a b, fun h => by rw [h]⟩
end PL

/-! What can be shown by repr; loops that end early; errors. -/
namespace PL
open PySem L2 DM
/-- plain data: depth m, a text of at most n signs -/
structure Sh (m n : Nat) (d : D) : Prop where
  lay : (pd d).canLay0 = true
  sh : (pd d).showable = true
  nd : (pd d).hasDict = false
  dep : (pd d).depth ≤ m
  len : (pd d).shown.length ≤ n
theorem Sh.up {m n m' n' : Nat} {d : D} (h : Sh m n d) (hm : m ≤ m') (hn : n ≤ n') : Sh m' n' d := ⟨h.lay, h.sh, h.nd, Nat.le_trans h.dep hm, Nat.le_trans h.len hn⟩
theorem sh_non : Sh 0 5 .non := ⟨by decide, by decide, by decide, by decide, by decide +kernel⟩
theorem sh_bl (b : Bool) : Sh 0 5 (.bl b) := by cases b <;> exact ⟨by decide, by decide, by decide, by decide, by decide +kernel⟩
theorem sh_nat (i : Nat) (h : i < 10 ^ 10) : Sh 0 10 (.int i) where
  lay := by simp [pd, PyData.canLay0]
  sh := by
    simp only [pd, PyData.showable, Int.natAbs_natCast, decide_eq_true_eq]
    by_cases q : i = 0
    · subst q; decide
    · have : i.log2 < 34 := (Nat.log2_lt q).mpr (by omega)
      omega
  nd := by simp [pd, PyData.hasDict]
  dep := by simp [pd, PyData.depth]
  len := by
    simp only [pd, PyData.shown]
    exact PyProof.Rows.toString_length_le (by omega) (by decide) (by exact_mod_cast h)
theorem sh_str (x : Str) (h : PyData.strOk x = true) : Sh 0 (10 * x.length + 2) (.str x) where
  lay := by simp only [pd, PyData.canLay0]; exact h
  sh := by simp [pd, PyData.showable]
  nd := by simp [pd, PyData.hasDict]
  dep := by simp [pd, PyData.depth]
  len := by
    simp only [pd, PyData.shown]
    refine StrLaws.reprText_len x fun c hc => ?_
    unfold PyData.strOk at h
    rw [Array.all_eq_true_iff_forall_mem] at h
    have := h c (by simpa using hc)
    simp only [decide_eq_true_eq] at this
    omega
theorem shAll {m n : Nat} {xs : List D} (h : ∀ x ∈ xs, Sh m n x) : PyData.canLayAll0 (pds xs) = true ∧ PyData.showableAll (pds xs) = true ∧ PyData.hasDictAll (pds xs) = false ∧ PyData.depthAll (pds xs) ≤ m ∧ piled (PyData.shownAll (pds xs)) ≤ xs.length * (n + 2) := by
  induction xs with
  | nil => simp [pds, PyData.canLayAll0, PyData.showableAll, PyData.hasDictAll, PyData.depthAll, PyData.shownAll, piled]
  | cons x xs ih =>
    obtain ⟨h1, h2, h3, h4, h5⟩ := ih fun y hy => h y (List.mem_cons_of_mem _ hy)
    have hx := h x List.mem_cons_self
    simp only [pds, PyData.canLayAll0, PyData.showableAll, PyData.hasDictAll, PyData.depthAll, PyData.shownAll, piled_cons, List.length_cons]
    refine ⟨by rw [hx.lay, h1]; rfl, by rw [hx.sh, h2]; rfl, by rw [hx.nd, h3]; rfl, by have := hx.dep; omega, ?_⟩
    have := hx.len
    rw [Nat.add_mul, Nat.one_mul]
    omega
theorem listText_le (ts : List Str) : (listText ts).length ≤ piled ts + 2 := by
  unfold listText
  rw [strLen_append]
  have e1 : (("]" : String) : Str).length = 1 := rfl
  rw [e1]
  cases ts with
  | nil => show (("[" : String) : Str).length + 1 ≤ _; exact Nat.le_add_left _ _
  | cons t r =>
    show (textFrom 1 ((("[" : String) : Str) ++ (if 0 > 0 then ", " else "" : String) ++ t) r).length + 1 ≤ _
    rw [textFrom_length_pos r 1 _ (by decide), strLen_append, strLen_append, piled_cons]
    have e2 : ((("[" : String) : Str)).length = 1 := rfl
    have e3 : (((if 0 > 0 then ", " else "" : String) : Str)).length = 0 := rfl
    rw [e2, e3]
    omega
theorem tupleText_le (ts : List Str) : (tupleText ts).length ≤ piled ts + 3 := by
  unfold tupleText
  rw [strLen_append, strLen_append]
  have e1 : ((("(" : String) : Str)).length = 1 := rfl
  have e3 : (((if ts.length == 1 then ",)" else ")" : String) : Str)).length ≤ 2 := by split <;> decide
  rw [e1]
  by_cases h : ts = []
  · subst h
    have : (Str.join ", " []).length = 0 := rfl
    omega
  · have := join_length_add ts h
    omega
theorem sh_lst {m n : Nat} {xs : List D} (h : ∀ x ∈ xs, Sh m n x) : Sh (m + 1) (xs.length * (n + 2) + 2) (.lst xs) := by
  obtain ⟨h1, h2, h3, h4, h5⟩ := shAll h
  refine ⟨by rw [pd, PyData.canLay0]; exact h1, by rw [pd, PyData.showable]; exact h2, by rw [pd, PyData.hasDict]; exact h3, by rw [pd, PyData.depth]; omega, ?_⟩
  rw [pd, PyData.shown]
  have := listText_le (PyData.shownAll (pds xs))
  omega
theorem sh_tup {m n : Nat} {xs : List D} (h : ∀ x ∈ xs, Sh m n x) : Sh (m + 1) (xs.length * (n + 2) + 3) (.tup xs) := by
  obtain ⟨h1, h2, h3, h4, h5⟩ := shAll h
  refine ⟨by rw [pd, PyData.canLay0]; exact h1, by rw [pd, PyData.showable]; exact h2, by rw [pd, PyData.hasDict]; exact h3, by rw [pd, PyData.depth]; omega, ?_⟩
  rw [pd, PyData.shown]
  have := tupleText_le (PyData.shownAll (pds xs))
  omega
theorem repr_ok {m n : Nat} {d : D} (h : Sh m n d) (hm : m ≤ 60) (hn : n ≤ 16777216) : reprG [d] = some (.str (pd d).shown) := by
  show (if _ then _ else _) = _
  rw [if_pos]
  rw [Bool.and_eq_true]
  refine ⟨h.lay, ?_⟩
  unfold shwB
  rw [h.sh, h.nd, decide_eq_true (Nat.le_trans h.dep hm), szl, decide_eq_true (Nat.le_trans h.len hn)]
  rfl
section
variable {β α γ ω S : Type}
@[simp] theorem tryc_ok {α : Type} (o : α → R β ω) (a : α) (mt : Str → Option Bool) (mS : Exn → R Unit α) (xb : β) : R.tryc o (.ok a) mt mS xb = o a := id rfl
theorem tryc_ex {α : Type} (o : α → R β ω) (x : Exn) (mt : Str → Option Bool) (mS : Exn → R Unit α) (xb : β) (h : mt x.C = some true) : R.tryc o (.ex x ()) mt mS xb = R.fin (mS x) o := by
  show R.clause mt x (mS x) o (.ex x xb) = _
  unfold R.clause
  rw [h]
@[simp] theorem fin_ok {α : Type} (a : α) (o : α → R β ω) : R.fin (.ok a) o = o a := id rfl
@[simp] theorem out_nx {S Sb Sc Sr : Type} (k : S → R β ω) (kb : Sb → R β ω) (kc : Sc → R β ω) (kr : D → Sr → R β ω) (s : S) : R.out k kb kc kr (.nx s) = k s := id rfl
@[simp] theorem out_rt {S Sb Sc Sr : Type} (k : S → R β ω) (kb : Sb → R β ω) (kc : Sc → R β ω) (kr : D → Sr → R β ω) (d : D) (s : Sr) : R.out k kb kc kr (.rt d s) = kr d s := id rfl
end
/-- the first item that the test lets by -/
theorem for_first {β : Type} {α : Type} {e : α → D} {f : D → Unit → R β (Step Unit)} {t : α → Bool} {v : α → D} : ∀ {xs : List α}, (∀ x ∈ xs, f (e x) () = .ok (if t x then .rt (v x) () else .nx ())) → R.for' (xs.map e) () f = .ok (match xs.find? t with | some x => .rt (v x) () | none => .nx ())
  | [], _ => rfl
  | x :: xs, h => by
    rw [List.map_cons, for_cons, h x List.mem_cons_self, List.find?_cons]
    cases q : t x
    · simp only [Bool.false_eq_true, if_false, turn_nx]
      exact for_first fun y hy => h y (List.mem_cons_of_mem _ hy)
    · simp only [if_true, turn_rt]
theorem step_ite {β : Type} (c : Prop) [Decidable c] (x y : Step Unit) : (if c then (R.ok x : R β (Step Unit)) else R.ok y) = R.ok (if c then x else y) := by split <;> rfl
theorem fmap_map {α : Type} {e : α → D} {g : α → Option D} {f : D → Unit → R Unit (Option D × Unit)} {xs : List α} (h : ∀ x ∈ xs, f (e x) () = .ok (g x, ())) : R.fmapS f (xs.map e) () = .ok (xs.filterMap g, ()) := by
  induction xs with
  | nil => rfl
  | cons x xs ih =>
    rw [List.map_cons]
    unfold R.fmapS
    rw [h x List.mem_cons_self]
    simp only
    rw [ih fun y hy => h y (List.mem_cons_of_mem _ hy), List.filterMap_cons]
    cases g x <;> rfl
theorem bools_map (bs : List Bool) : boolsOf (bs.map D.bl) = some bs := by
  induction bs with
  | nil => rfl
  | cons b bs ih => rw [List.map_cons]; unfold boolsOf; rw [ih]; rfl
theorem any_bls (bs : List Bool) : anyG [.lst (bs.map D.bl)] = some (.bl (bs.any id)) := by
  show Option.map _ (boolsOf (bs.map D.bl)) = _
  rw [bools_map]; rfl
theorem maxN (a b : Nat) : (if (b : Int) > (a : Int) then (b : Int) else (a : Int)) = ((max a b : Nat) : Int) := by omega
theorem maxN' (a b : Nat) : (if a < b then (b : Int) else (a : Int)) = ((max a b : Nat) : Int) := by omega
theorem minN (a b : Nat) : (if (b : Int) < (a : Int) then (b : Int) else (a : Int)) = ((min a b : Nat) : Int) := by omega
theorem find_any {α : Type} (t : α → Bool) (xs : List α) : (xs.find? t).isSome = xs.any t := by
  induction xs with
  | nil => rfl
  | cons x xs ih => rw [List.find?_cons, List.any_cons]; cases t x <;> simp [ih]
theorem fmap_filter {α : Type} {e : α → D} {p : α → Bool} {f : D → Unit → R Unit (Option D × Unit)} {xs : List α} (h : ∀ x ∈ xs, f (e x) () = if p x then R.ok (some (e x), ()) else R.ok (none, ())) : R.fmapS f (xs.map e) () = .ok ((xs.filter p).map e, ()) := by
  rw [fmap_map (g := fun x => if p x then some (e x) else none)]
  · congr 2
    induction xs with
    | nil => rfl
    | cons x xs ih =>
      have := ih fun y hy => h y (List.mem_cons_of_mem _ hy)
      cases q : p x <;> simp [q, this]
  · intro x hx
    rw [h x hx]
    cases p x <;> rfl
theorem sort_iff (ns : List Int) : (ns = PySem.W.sortI ns) ↔ ns.Pairwise (· ≤ ·) := ⟨fun h => by rw [h]; exact PySem.W.sortI_rises ns, fun h => PySem.W.eq_sortI (List.Perm.refl _) h⟩
theorem ints_map (ns : List Int) : intsOf (ns.map D.int) = some ns := by
  induction ns with
  | nil => rfl
  | cons b bs ih => rw [List.map_cons]; unfold intsOf; rw [ih]; rfl
theorem sort_ints (ns : List Int) : sortG [.lst (ns.map D.int)] = some (.lst ((PySem.W.sortI ns).map D.int)) := by
  show Option.map _ (intsOf (ns.map D.int)) = _
  rw [ints_map]; rfl
theorem eqI (xs ys : List Int) : eqG (.lst (xs.map D.int)) (.lst (ys.map D.int)) = some (.bl (decide (xs = ys))) := enc_int.lst.eqG (by decide) xs ys
theorem ifn {α : Type} {b : Bool} {x y : α} (h : b = false) : (if b = true then x else y) = y := by rw [h]; rfl
theorem rep01 (x : D) (b : Bool) : repG (.lst [x]) (.int (if b = true then 1 else 0)) = some (.lst (if b = true then [x] else [])) := by
  cases b <;> simp [repG, szl]
end PL

/-! Loops over enumerate with a state; drawn lists; the cells of a script. -/
namespace PL
open PySem L2 DM
def enumN : Nat → List D → List D
  | _, [] => []
  | n, d :: ds => .tup [.int (n : Nat), d] :: enumN (n + 1) ds
theorem enum_from (n : Nat) (ds : List D) : (List.range' n ds.length).zipWith (fun i d => D.tup [.int (i : Nat), d]) ds = enumN n ds := by
  induction ds generalizing n with
  | nil => rfl
  | cons d ds ih => rw [List.length_cons, List.range'_succ, List.zipWith_cons_cons, ih]; rfl
theorem enumD_eq (ds : List D) : enumD ds = enumN 0 ds := by
  unfold enumD
  rw [List.range_eq_range', enum_from]
/-- goes along the items until one stops it -/
def goAl {α S : Type} (t : Nat → α → S → Option S) : List α → Nat → S → Nat ⊕ S
  | [], _, s => .inr s
  | x :: xs, i, s => match t i x s with
    | some s' => goAl t xs (i + 1) s'
    | none => .inl i
theorem for_run {β α S S' : Type} {e : α → D} {g : S → S'} {f : D → S' → R β (Step S')} {t : Nat → α → S → Option S} {stop : Nat → S' → R β (Step S')} (hs : ∀ i s k, R.turn (stop i s) k = stop i s) :
    ∀ {xs : List α} {n : Nat} {s : S}, (∀ i x s, xs[i]? = some x → f (.tup [.int ((n + i : Nat) : Int), e x]) (g s) = match t (n + i) x s with | some s' => .ok (.nx (g s')) | none => stop (n + i) (g s)) →
      match goAl t xs n s with
      | .inr s' => R.for' (enumN n (xs.map e)) (g s) f = .ok (.nx (g s'))
      | .inl i => ∃ s', R.for' (enumN n (xs.map e)) (g s) f = stop i s'
  | [], n, s, _ => rfl
  | x :: xs, n, s, h => by
    have h0 := h 0 x s rfl
    rw [Nat.add_zero] at h0
    unfold goAl
    rw [List.map_cons, enumN, for_cons, h0]
    cases q : t n x s with
    | none => exact ⟨g s, hs _ _ _⟩
    | some s1 =>
      simp only [turn_nx]
      exact for_run hs fun i y s hy => by
        have := h (i + 1) y s (by simpa using hy)
        rw [show n + (i + 1) = n + 1 + i by omega] at this
        exact this
theorem for_runR {β α S S' : Type} {e : α → D} (g : S → S') {f : D → S' → R β (Step S')} (t : Nat → α → S → Option S) (v : Nat → D) {xs : List α} (s : S)
    (h : ∀ i x s, xs[i]? = some x → f (.tup [.int ((i : Nat) : Int), e x]) (g s) = match t i x s with | some s' => .ok (.nx (g s')) | none => .ok (.rt (v i) (g s))) :
      match goAl t xs 0 s with
      | .inr s' => R.for' (enumD (xs.map e)) (g s) f = .ok (.nx (g s'))
      | .inl i => ∃ s', R.for' (enumD (xs.map e)) (g s) f = .ok (.rt (v i) s') := by
  rw [enumD_eq]
  exact for_run (stop := fun i s => .ok (.rt (v i) s)) (fun _ _ _ => rfl) (fun i x s hx => by rw [Nat.zero_add]; exact h i x s hx)
theorem for_runX {β α S S' : Type} {e : α → D} (g : S → S') {f : D → S' → R β (Step S')} (t : Nat → α → S → Option S) (v : Nat → Exn) (b : β) {xs : List α} (s : S)
    (h : ∀ i x s, xs[i]? = some x → f (.tup [.int ((i : Nat) : Int), e x]) (g s) = match t i x s with | some s' => .ok (.nx (g s')) | none => .ex (v i) b) :
      match goAl t xs 0 s with
      | .inr s' => R.for' (enumD (xs.map e)) (g s) f = .ok (.nx (g s'))
      | .inl i => R.for' (enumD (xs.map e)) (g s) f = .ex (v i) b := by
  rw [enumD_eq]
  have := for_run (g := g) (f := f) (t := t) (e := e) (n := 0) (s := s) (stop := fun i _ => (.ex (v i) b : R β (Step S'))) (fun _ _ _ => rfl) (fun i x s hx => by rw [Nat.zero_add]; exact h i x s hx)
  cases q : goAl t xs 0 s with
  | inr s' => rw [q] at this; exact this
  | inl i => rw [q] at this; obtain ⟨_, e⟩ := this; exact e
theorem fmap_enum {α : Type} {e : α → D} {p : Nat → α → Bool} {f : D → Unit → R Unit (Option D × Unit)} {xs : List α} (h : ∀ i x, xs[i]? = some x → f (.tup [.int (i : Nat), e x]) () = if p i x then R.ok (some (e x), ()) else R.ok (none, ())) :
    ∃ ys : List α, R.fmapS f (enumD (xs.map e)) () = .ok (ys.map e, ()) ∧ ys.length ≤ xs.length ∧ ∀ y ∈ ys, y ∈ xs := by
  rw [enumD_eq]
  have main : ∀ (xs : List α) (n : Nat), (∀ i x, xs[i]? = some x → f (.tup [.int ((n + i : Nat) : Int), e x]) () = if p (n + i) x then R.ok (some (e x), ()) else R.ok (none, ())) → ∃ ys : List α, R.fmapS f (enumN n (xs.map e)) () = .ok (ys.map e, ()) ∧ ys.length ≤ xs.length ∧ ∀ y ∈ ys, y ∈ xs := by
    intro xs
    induction xs with
    | nil => exact fun n _ => ⟨[], rfl, Nat.le_refl _, by simp⟩
    | cons x xs ih =>
      intro n h
      have h0 := h 0 x rfl
      rw [Nat.add_zero] at h0
      obtain ⟨ys, e1, l1, m1⟩ := ih (n + 1) fun i y hy => by
        have := h (i + 1) y (by simpa using hy)
        rw [show n + (i + 1) = n + 1 + i by omega] at this
        exact this
      rw [List.map_cons, enumN]
      unfold R.fmapS
      rw [h0]
      cases p n x
      · refine ⟨ys, ?_, by simp; omega, fun y hy => List.mem_cons_of_mem _ (m1 y hy)⟩
        simp only [Bool.false_eq_true, if_false, e1]
      · refine ⟨x :: ys, ?_, by simp; omega, fun y hy => ?_⟩
        · simp only [if_true, e1]
          rfl
        · rcases List.mem_cons.mp hy with rfl | hy
          · exact List.mem_cons_self
          · exact List.mem_cons_of_mem _ (m1 y hy)
  exact main xs 0 (fun i x hx => by rw [Nat.zero_add]; exact h i x hx)
/-- a drawn list: each turn hands on a pool -/
theorem fmap_pool {α : Type} {e : α → D} {f : D → D → R Unit (Option D × D)} {ok : α → Prop} {I : D → Prop} (h : ∀ d w, I w → ∃ (x : α) (w' : D), f d w = .ok (some (e x), w') ∧ ok x ∧ I w') :
    ∀ (ds : List D) (w : D), I w → ∃ (xs : List α) (w' : D), R.fmapS f ds w = .ok (xs.map e, w') ∧ xs.length = ds.length ∧ (∀ x ∈ xs, ok x) ∧ I w'
  | [], w, hw => ⟨[], w, rfl, rfl, by simp, hw⟩
  | d :: ds, w, hw => by
    obtain ⟨x, w1, e1, h1, hw1⟩ := h d w hw
    obtain ⟨xs, w2, e2, l2, h2, hw2⟩ := fmap_pool h ds w1 hw1
    refine ⟨x :: xs, w2, ?_, by rw [List.length_cons, l2]; rfl, fun y hy => ?_, hw2⟩
    · unfold R.fmapS
      rw [e1]
      simp only
      rw [e2]
      rfl
    · rcases List.mem_cons.mp hy with rfl | hy
      · exact h1
      · exact h2 y hy
theorem pick_enc {α : Type} {e : α → D} {p : D} {xs : List α} (hp : Pool p) (hm : 0 < xs.length) : ∃ (x : α) (p' : D), m_pick [p, .lst (xs.map e)] = .ok (e x, p') ∧ x ∈ xs ∧ Pool p' := by
  obtain ⟨d, p', h1, h2, h3⟩ := pick_ok (xs := xs.map e) hp (by rw [List.length_map]; exact hm)
  obtain ⟨x, hx, rfl⟩ := List.mem_map.mp h2
  exact ⟨x, p', h1, hx, h3⟩
theorem rng_len (n : Nat) : (rngD 0 n).length = n := by simp [rngD]
theorem rng_mem {n : Nat} {d : D} (h : d ∈ rngD 0 n) : ∃ i : Nat, i < n ∧ d = .int i := by
  obtain ⟨i, hi, rfl⟩ := List.getElem_of_mem h
  have := rng_get (n := n) (i := i) (List.getElem?_eq_getElem hi)
  exact ⟨i, this⟩
/-- a loop over drawn things -/
theorem for_pool {β S : Type} {I : S → Prop} {f : D → S → R β (Step S)} (ds : List D) (s : S) (hs : I s) (h : ∀ d ∈ ds, ∀ s, I s → ∃ s', f d s = .ok (.nx s') ∧ I s') : ∃ s', R.for' ds s f = .ok (.nx s') ∧ I s' := for_inv hs h
/-- the cells of a script -/
theorem cells_ok {β : Type} (ns : List Int) (hl : ns.length ≤ 63) (m : Int) (hm : 0 ≤ m) (x7 : Int) (k : List D → R β D) (h : ∀ cs : List Int, cs.length ≤ 64 → k (enumD (cs.map D.int)) = .ok (.bl true)) :
    (R.asI (.int m) fun i5 => R.lft (slG (.lst (ns.map .int)) none (some i5)) fun x6 => R.few [(.int x7)] fun l144 => R.few [] fun l145 => R.lft (eqG (.lst (ns.map .int)) (.lst l145)) fun x7 => R.lft (intG1 [x7]) fun x8 => R.lft (repG (.lst l144) x8) fun x9 => R.lft (addA x6 x9) fun x10 => R.enumA x10 k) = .ok (.bl true) := by
  obtain ⟨m, rfl⟩ : ∃ n : Nat, m = n := ⟨m.toNat, by omega⟩
  have e0 : eqG (.lst (ns.map D.int)) (.lst []) = some (.bl (decide (ns = []))) := enc_int.lst.eqG (by decide) ns []
  have e8 : cutD (ns.map D.int) none (some (m : Int)) = (ns.take m).map D.int := by
    rw [cut_lo, List.map_take]
  have er1 : repG (.lst [.int x7]) (.int (if decide (ns = []) = true then 1 else 0)) = some (.lst ((if decide (ns = []) = true then [x7] else []).map D.int)) := by
    rw [rep01]
    cases decide (ns = []) <;> rfl
  rw [asI_int, sl_lst, e8, lft_some, few1, few0, e0, lft_some, int_bl, lft_some, er1, lft_some, add_lst, if_pos (by split <;> simp <;> omega), lft_some, ← List.map_append, enumA_lst]
  exact h _ (by split <;> simp <;> omega)
theorem enumA_asL {β γ : Type} (d : D) (k : List D → R β γ) (h : ∃ ds, d = .lst ds) : R.enumA d k = R.asL d fun ds => k (enumD ds) := by
  obtain ⟨ds, rfl⟩ := h; rfl
theorem raise1 {β α : Type} (x p : Str) (d : D) (xb : β) : (R.raise x [p] [d] xb : R β α) = .ex ⟨x, [(p, d)]⟩ xb := by
  unfold R.raise DM.few
  rw [if_pos ⟨rfl, by rw [szl]; rfl⟩]
  rfl
theorem raise2 {β α : Type} (x p q : Str) (d e : D) (xb : β) : (R.raise x [p, q] [d, e] xb : R β α) = .ex ⟨x, [(p, d), (q, e)]⟩ xb := by
  unfold R.raise DM.few
  rw [if_pos ⟨rfl, by rw [szl]; rfl⟩]
  rfl
theorem for_enum_unit {β α : Type} {e : α → D} {f : D → Unit → R β (Step Unit)} {xs : List α} (h : ∀ i x, xs[i]? = some x → f (.tup [.int (i : Nat), e x]) () = .ok (.nx ())) : R.for' (enumD (xs.map e)) () f = .ok (.nx ()) := by
  refine for_unit fun d hd => ?_
  obtain ⟨i, x, hx, rfl⟩ := enum_mem hd
  rw [List.getElem?_map] at hx
  cases hi : xs[i]? with
  | none => rw [hi] at hx; cases hx
  | some c =>
    rw [hi] at hx
    obtain rfl : e c = x := Option.some.inj hx
    exact h i c hi
@[simp] theorem after_ex {β S ω : Type} (x : Exn) (b : β) (k : S → R β ω) (kr : D → S → R β ω) : R.after (.ex x b) k kr = .ex x b := id rfl
theorem len_obj {β γ : Type} {mt : Str → Option (List D → R Unit D)} {C : Str} {gs : List (Str × D)} {mf : List D → R Unit D} {n : Int} (h : mt C = some mf) (e : mf [.obj C gs] = .ok (.int n)) (h0 : 0 ≤ n) (h1 : n < 2 ^ 63) (k : D → R β γ) : R.len mt (.obj C gs) k = k (.int n) := by
  unfold R.len
  simp only [h, e]
  rw [if_pos]
  rw [Bool.and_eq_true, decide_eq_true_eq, decide_eq_true_eq]
  exact ⟨h0, h1⟩
end PL

set_option pp.maxSteps 600
set_option pp.deepTerms false
namespace K12
open PySem PySem.Spec PyProof.Rows L2 DL DM NdefX
def topS (i : Nat) : Stmt := PySem.Challenge.pw_pulledout_k12_runs_as_values.main.body.getD i (.Pass ⟨0, 0, 0, 0⟩)
def clsS (i j : Nat) : Stmt := match topS i with
  | .ClassDef _ _ _ body .. => body.getD j (.Pass ⟨0, 0, 0, 0⟩)
  | s => s
def gBEGIN : D := .str "begin"
def gCOME : D := .str "come"
def gGO : D := .str "go"
def gLETTERS : D := .str "abcdefghijklmnopqrstuvwxyz"
def gMOST_LETTERS : D := .int 8
def gRUN : D := .str "run"
def gSTEP : D := .str "step"
def cl_own_moves : Str → Bool := fun C => C == "Run"
def mt_InvalidMove : Str → Option Bool := fun C => if C = "InvalidMove" then some true else if C = "InvalidNumber" then some false else none
def mt_InvalidNumber : Str → Option Bool := fun C => if C = "InvalidMove" then some false else if C = "InvalidNumber" then some true else none
def ic_Run : Str → Option Bool := fun C => if C = "Run" then some true else none
def sb_eq : Str → Str → Bool := sbOf [("Run", "Run")]
def ca_add : Str → Bool := fun C => decide (C = "Run")
structure Txt (P : Program) (w : World) (K : PySem.W.Frag) (mg : Str → Option Value) : Prop where
  z_all : mg "all" = none
  z_bool : mg "bool" = none
  z_enumerate : mg "enumerate" = none
  z_int : mg "int" = none
  z_isinstance : mg "isinstance" = none
  z_len : mg "len" = none
  z_list : mg "list" = none
  z_max : mg "max" = none
  z_range : mg "range" = none
  z_repr : mg "repr" = none
  z_str : mg "str" = none
  z_tuple : mg "tuple" = none
  gBEGIN : GlobD K mg "BEGIN" gBEGIN
  gCOME : GlobD K mg "COME" gCOME
  gGO : GlobD K mg "GO" gGO
  gLETTERS : GlobD K mg "LETTERS" gLETTERS
  gMOST_LETTERS : GlobD K mg "MOST_LETTERS" gMOST_LETTERS
  gRUN : GlobD K mg "RUN" gRUN
  gSTEP : GlobD K mg "STEP" gSTEP
  f_own_moves : ∀ C, cl_own_moves C = true → FldC K C "own_moves"
  x_InvalidMove : ErrC P K mg "InvalidMove" ["move"]
  x_InvalidNumber : ErrC P K mg "InvalidNumber" ["value"]
  e_InvalidMove : MtK K mg "InvalidMove" mt_InvalidMove
  e_InvalidNumber : MtK K mg "InvalidNumber" mt_InvalidNumber
  xf_InvalidMove_move : XfD K mt_InvalidMove "move"
  xf_InvalidNumber_value : XfD K mt_InvalidNumber "value"
  i_Run : IsiC K mg "Run" ic_Run
  q_eq : EqC K sb_eq
  q_add : AddC K ca_add
section
variable {P : Program} {w : World} {K : PySem.W.Frag} {mg : Str → Option Value} {base : Heap}
def m_Run___eq__ : List D → R Unit D
  | [a174, a175] => R.bind (R.isiC ic_Run a175 fun b179 => R.asB (.bl b179) fun b181 => if b181 then R.fld cl_own_moves "own_moves" a174 fun x176 => R.fld cl_own_moves "own_moves" a175 fun x177 => R.lft (eqG x176 x177) fun x178 => R.ok x178 else R.ok (.bl false)) fun x180 => R.ok x180
  | _ => .no
theorem l_Run___eq__ : ∀ ds, m_Run___eq__ ds ≠ .no → ds.length = 2 := by
  intro ds h
  unfold m_Run___eq__ at h
  split at h
  · rfl
  · exact absurd rfl h
def mt___eq__ : Str → Option (List D → R Unit D) := fun C => if C = "Run" then some m_Run___eq__ else none
abbrev s_Run___eq__ : Stmt := clsS 17 11
theorem sc_Run___eq__ : FnScope ["self", "other"] ["self", "other"] (defScope s_Run___eq__) := ⟨rfl, rfl, rfl, by decide +kernel, rfl, by decide +kernel, by decide +kernel⟩
theorem ok_Run___eq__ {f : Addr} {fd : FuncData} (F : Fun K "__eq__" "Run.__eq__" s_Run___eq__ f fd) (T : Txt P w K mg) : FnG P w K mg base (L2.CX P w) 1 f fd ["self", "other"] (spM K (mk0 2) none (Lp m_Run___eq__)) := by
  refine okP F sc_Run___eq__ rfl (fun cdv A outer s H E hr hG te tk po ds hl => ?_)
  match ds, hl with
  | [a174, a175], _ => exact AB.eq (ab_ret () () (a_and (a_isiC T.i_Run T.z_isinstance (by rfl) (by rfl) (AE.al (av 1 rfl))) (a_one (a_cmp (op_eqA hr.units) od_eq (AE.al (a_fld T.f_own_moves (AE.al (av 0 rfl)))) (AE.al (a_fld T.f_own_moves (AE.al (av 1 rfl)))) (nomark _)))) (wk_un rfl) (wk_un rfl) rfl) rfl
def m_Run___len__ : List D → R Unit D
  | [a182] => R.fld cl_own_moves "own_moves" a182 fun x183 => R.lft (lenG [x183]) fun x184 => R.ok x184
  | _ => .no
theorem l_Run___len__ : ∀ ds, m_Run___len__ ds ≠ .no → ds.length = 1 := by
  intro ds h
  unfold m_Run___len__ at h
  split at h
  · rfl
  · exact absurd rfl h
def mt___len__ : Str → Option (List D → R Unit D) := fun C => if C = "Run" then some m_Run___len__ else none
abbrev s_Run___len__ : Stmt := clsS 17 8
theorem sc_Run___len__ : FnScope ["self"] ["self"] (defScope s_Run___len__) := ⟨rfl, rfl, rfl, by decide +kernel, rfl, by decide +kernel, by decide +kernel⟩
theorem ok_Run___len__ {f : Addr} {fd : FuncData} (F : Fun K "__len__" "Run.__len__" s_Run___len__ f fd) (T : Txt P w K mg) : FnG P w K mg base (L2.CX P w) 1 f fd ["self"] (spM K (mk0 1) none (Lp m_Run___len__)) := by
  refine okP F sc_Run___len__ rfl (fun cdv A outer s H E hr hG te tk po ds hl => ?_)
  match ds, hl with
  | [a182], _ => exact AB.eq (ab_ret () () (a_callB call_len cd_len PySem.boot_len T.z_len (by rfl) (aal_cons (AE.al (a_fld T.f_own_moves (AE.al (av 0 rfl)))) aal_nil)) (wk_un rfl) (wk_un rfl) rfl) rfl
def m_is_integer : List D → R Unit D
  | [a229, a230, a231] => R.bind (R.lft (isiG [a229, (.ty "int")]) fun x240 => R.asB x240 fun b242 => if b242 then R.bind (R.lft (isiG [a229, (.ty "bool")]) fun x236 => R.asB x236 fun b237 => R.asB (.bl (!b237)) fun b239 => if b239 then R.bind (R.lft (leG a230 a229) fun x232 => R.asB x232 fun b233 => if b233 then R.lft (leG a229 a231) fun x234 => R.ok x234 else R.ok (.bl false)) fun x235 => R.ok x235 else R.ok (.bl false)) fun x238 => R.ok x238 else R.ok (.bl false)) fun x241 => R.ok x241
  | _ => .no
theorem l_is_integer : ∀ ds, m_is_integer ds ≠ .no → ds.length = 3 := by
  intro ds h
  unfold m_is_integer at h
  split at h
  · rfl
  · exact absurd rfl h
abbrev s_is_integer : Stmt := topS 8
theorem sc_is_integer : FnScope ["value", "lowest", "highest"] ["value", "lowest", "highest"] (defScope s_is_integer) := ⟨rfl, rfl, rfl, by decide +kernel, rfl, by decide +kernel, by decide +kernel⟩
theorem ok_is_integer {f : Addr} {fd : FuncData} (F : Fun K "is_integer" "is_integer" s_is_integer f fd) (T : Txt P w K mg) : FnG P w K mg base (L2.CX P w) 1 f fd ["value", "lowest", "highest"] (spM K (mk0 3) none (Lp m_is_integer)) := by
  refine okP F sc_is_integer rfl (fun cdv A outer s H E hr hG te tk po ds hl => ?_)
  match ds, hl with
  | [a229, a230, a231], _ => exact AB.eq (ab_ret () () (a_and (a_callB call_isi cd_isi boot_isinstance T.z_isinstance (by rfl) (aal_cons (AE.al (av 0 rfl)) (aal_cons (AE.al (a_bty boot_int T.z_int (by rfl))) aal_nil))) (a_and (a_not (a_callB call_isi cd_isi boot_isinstance T.z_isinstance (by rfl) (aal_cons (AE.al (av 0 rfl)) (aal_cons (AE.al (a_bty boot_bool T.z_bool (by rfl))) aal_nil)))) (a_one (a_chain op_le od_le op_le od_le (AE.al (av 1 rfl)) (AE.al (av 0 rfl)) (AE.al (av 2 rfl)))))) (wk_un rfl) (wk_un rfl) rfl) rfl
def m_is_name : List D → R Unit D
  | [a243] => R.bind (R.lft (isiG [a243, (.ty "str")]) fun x250 => R.asB x250 fun b251 => if (!b251) then R.ok true else R.bind (R.lft (lenG [a243]) fun x244 => R.lft (leG (.int 1) x244) fun x245 => R.asB x245 fun b246 => if b246 then R.lft (leG x244 gMOST_LETTERS) fun x247 => R.ok x247 else R.ok (.bl false)) fun x248 => R.asB x248 fun b249 => R.ok (!b249)) fun b252 => if b252 then R.ok (.bl false) else R.items a243 fun l253 => R.few l253 fun l257 => R.lst (R.fmapS (fun d254 _ => R.lft (inA d254 gLETTERS) fun x255 => R.ok (some x255, ())) l257 ()) fun x258 _ => R.lft (allG [x258]) fun x256 => R.ok x256
  | _ => .no
theorem l_is_name : ∀ ds, m_is_name ds ≠ .no → ds.length = 1 := by
  intro ds h
  unfold m_is_name at h
  split at h
  · rfl
  · exact absurd rfl h
abbrev s_is_name : Stmt := topS 7
theorem sc_is_name : FnScope ["value", "letter"] ["value"] (defScope s_is_name) := ⟨rfl, rfl, rfl, by decide +kernel, rfl, by decide +kernel, by decide +kernel⟩
theorem ok_is_name {f : Addr} {fd : FuncData} (F : Fun K "is_name" "is_name" s_is_name f fd) (T : Txt P w K mg) : FnG P w K mg base (L2.CX P w) 1 f fd ["value"] (spM K (mk0 1) none (Lp m_is_name)) := by
  refine okP F sc_is_name rfl (fun cdv A outer s H E hr hG te tk po ds hl => ?_)
  match ds, hl with
  | [a243], _ => exact AB.eq (ab_ifT () (AW.at (aw_or (at_not (at_val (a_callB call_isi cd_isi boot_isinstance T.z_isinstance (by rfl) (aal_cons (AE.al (av 0 rfl)) (aal_cons (AE.al (a_bty boot_str T.z_str (by rfl))) aal_nil))))) (aw_or1 (at_not (at_chain op_le od_le op_le od_le (AE.al a_int) (AE.al (a_callB call_len cd_len PySem.boot_len T.z_len (by rfl) (aal_cons (AE.al (av 0 rfl)) aal_nil))) (AE.al (a_glob T.gMOST_LETTERS (by rfl)))))))) (wk_un rfl) (ab_ret () () a_bl (wk_un rfl) (wk_un rfl) rfl) (ab_ret () () (a_callB (cr_all rfl) cd_all boot_all T.z_all (by rfl) (aal_cons (AE.al (AN.ae (a_lc [("letter", 1)] (ai_items (av 0 rfl)) (fun _ _ d254 => (ag_name 1 (ael_1 () (fun _ => (a_cmp (op_inA (u65 hr)) od_inA (AE.al (av 1 rfl)) (AE.al (a_glob T.gLETTERS (by rfl))) (by rfl))) (.k (.d .nil)) rfl) sc_is_name.nd (by first | exact Or.inl rfl | exact Or.inr rfl))) rfl sc_is_name.nd (blkOk_by (N := ["value", "letter"]) (sc := defScope s_is_name) (by decide +kernel)) (hu_cons rfl hu_nil)))) aal_nil)) (wk_un rfl) (wk_un rfl) rfl)) rfl
def m_is_move : List D → R Unit D
  | [a197] => R.bind (R.lft (isiG [a197, (.ty "tuple")]) fun x208 => R.asB x208 fun b209 => if (!b209) then R.ok true else R.bind (R.bind (R.lft (lenG [a197]) fun x201 => R.lft (leG (.int 1) x201) fun x202 => R.asB x202 fun b203 => if b203 then R.lft (leG x201 (.int 2)) fun x204 => R.ok x204 else R.ok (.bl false)) fun x205 => R.asB x205 fun b206 => if (!b206) then R.ok true else R.lft (ixG a197 (.int 0)) fun x198 => R.lft (isiG [x198, (.ty "str")]) fun x199 => R.asB x199 fun b200 => R.ok (!b200)) fun b207 => R.ok b207) fun b210 => if b210 then R.ok (.bl false) else R.lft (lenG [a197]) fun x211 => R.lft (eqG x211 (.int 1)) fun x212 => R.asB x212 fun b213 => if b213 then R.lft (ixG a197 (.int 0)) fun x214 => R.few [gCOME, gSTEP] fun l216 => R.lft (inA x214 (.tup l216)) fun x215 => R.ok x215 else R.lft (ixG a197 (.int 0)) fun x217 => R.lft (eqG x217 gGO) fun x218 => R.asB x218 fun b219 => if b219 then R.lft (ixG a197 (.int 1)) fun x221 => R.call (m_is_integer [x221, (.int 0), (.int 13)]) () fun x220 => R.ok x220 else R.bind (R.lft (ixG a197 (.int 0)) fun x224 => R.few [gBEGIN, gRUN] fun l228 => R.lft (inA x224 (.tup l228)) fun x225 => R.asB x225 fun b227 => if b227 then R.lft (ixG a197 (.int 1)) fun x223 => R.call (m_is_name [x223]) () fun x222 => R.ok x222 else R.ok (.bl false)) fun x226 => R.ok x226
  | _ => .no
theorem l_is_move : ∀ ds, m_is_move ds ≠ .no → ds.length = 1 := by
  intro ds h
  unfold m_is_move at h
  split at h
  · rfl
  · exact absurd rfl h
abbrev s_is_move : Stmt := topS 15
theorem sc_is_move : FnScope ["value"] ["value"] (defScope s_is_move) := ⟨rfl, rfl, rfl, by decide +kernel, rfl, by decide +kernel, by decide +kernel⟩
theorem ok_is_move {f : Addr} {fd : FuncData} (F : Fun K "is_move" "is_move" s_is_move f fd) (T : Txt P w K mg) (d_is_integer : Dfn P w K mg base 1 "is_integer" (mk0 3) none (Lp m_is_integer)) (d_is_name : Dfn P w K mg base 1 "is_name" (mk0 1) none (Lp m_is_name)) : FnG P w K mg base (L2.CX P w) 2 f fd ["value"] (spM K (mk0 1) none (Lp m_is_move)) := by
  refine okP F sc_is_move rfl (fun cdv A outer s H E hr hG te tk po ds hl => ?_)
  match ds, hl with
  | [a197], _ => exact AB.eq (ab_ifT () (AW.at (aw_or (at_not (at_val (a_callB call_isi cd_isi boot_isinstance T.z_isinstance (by rfl) (aal_cons (AE.al (av 0 rfl)) (aal_cons (AE.al (a_bty boot_tuple T.z_tuple (by rfl))) aal_nil))))) (aw_or (at_not (at_chain op_le od_le op_le od_le (AE.al a_int) (AE.al (a_callB call_len cd_len PySem.boot_len T.z_len (by rfl) (aal_cons (AE.al (av 0 rfl)) aal_nil))) (AE.al a_int))) (aw_or1 (at_not (at_val (a_callB call_isi cd_isi boot_isinstance T.z_isinstance (by rfl) (aal_cons (AE.al (a_ix (AE.al (av 0 rfl)) (AE.al a_int))) (aal_cons (AE.al (a_bty boot_str T.z_str (by rfl))) aal_nil))))))))) (wk_un rfl) (ab_ret () () a_bl (wk_un rfl) (wk_un rfl) rfl) (ab_ifT () (at_cmp (op_eqA hr.units) od_eq (AE.al (a_callB call_len cd_len PySem.boot_len T.z_len (by rfl) (aal_cons (AE.al (av 0 rfl)) aal_nil))) (AE.al a_int) (nomark _)) (wk_un rfl) (ab_ret () () (a_cmp (op_inA (u65 hr)) od_inA (AE.al (a_ix (AE.al (av 0 rfl)) (AE.al a_int))) (AE.al (a_tup (aa_cons (a_glob T.gCOME (by rfl)) (aa_cons (a_glob T.gSTEP (by rfl)) aa_nil)))) (by rfl)) (wk_un rfl) (wk_un rfl) rfl) (ab_ifT () (at_cmp (op_eqA hr.units) od_eq (AE.al (a_ix (AE.al (av 0 rfl)) (AE.al a_int))) (AE.al (a_glob T.gGO (by rfl))) (nomark _)) (wk_un rfl) (ab_ret () () (a_call d_is_integer l_is_integer (aa_cons (a_ix (AE.al (av 0 rfl)) (AE.al a_int)) (aa_cons a_int (aa_cons a_int aa_nil))) (hr.mono (by decide)) hG tk (by rfl)) (wk_un rfl) (wk_un rfl) rfl) (ab_ret () () (a_and (a_cmp (op_inA (u65 hr)) od_inA (AE.al (a_ix (AE.al (av 0 rfl)) (AE.al a_int))) (AE.al (a_tup (aa_cons (a_glob T.gBEGIN (by rfl)) (aa_cons (a_glob T.gRUN (by rfl)) aa_nil)))) (by rfl)) (a_one (a_call d_is_name l_is_name (aa_cons (a_ix (AE.al (av 0 rfl)) (AE.al a_int)) aa_nil) (hr.mono (by decide)) hG tk (by rfl)))) (wk_un rfl) (wk_un rfl) rfl)))) rfl
def m0_Run___init__ : List D → R Unit (D × D)
  | [a185, a186] => R.items a186 fun l187 => R.after (R.for' l187 () fun d190 s189 => R.call (m_is_move [d190]) () fun x191 => R.asB x191 fun b192 => if (!b192) then R.raise "InvalidMove" ["move"] [d190] () else R.ok (Step.nx ())) (fun s193 => R.putF cl_own_moves "own_moves" a185 a186 fun x194 => R.ok (.non, x194)) fun d196 s195 => R.ok (d196, a185)
  | _ => .no
def m_Run___init__ : List D → R Unit (D × D) := starM 1 m0_Run___init__
theorem l_Run___init__ : ∀ o ds, m0_Run___init__ (o :: ds) ≠ .no → ds.length = 1 := by
  intro o ds h
  unfold m0_Run___init__ at h
  split at h
  · rename_i e; cases e; rfl
  · exact absurd rfl h
abbrev s_Run___init__ : Stmt := clsS 17 0
theorem sc_Run___init__ : FnScope ["self", "moves", "move"] ["self", "moves"] (defScope s_Run___init__) := ⟨rfl, rfl, rfl, by decide +kernel, rfl, by decide +kernel, by decide +kernel⟩
theorem ok_Run___init__ {f : Addr} (T : Txt P w K mg) (d_is_move : Dfn P w K mg base 2 "is_move" (mk0 1) none (Lp m_is_move)) : Bod P w K mg base ["self", "moves", "move"] "Run.__init__" s_Run___init__ f 2 (spM K (some [] :: mk0 1) none (L1e m0_Run___init__)) := by
  refine okR0_b (m := 2) sc_Run___init__ rfl rfl (fun cdv A outer s H E hr hG te tk po o ds hl => ?_)
  match ds, hl with
  | [a186], _ =>
    exact AB.eq (ab_for (S := Unit) (own := [2]) (fun (s188 : Unit) => [.ow (some 0) o [], .fz a186, .un]) () (fun s195 => o) () (ai_items (av 1 rfl)) (wk_un rfl) (.k (.k (.d .nil))) (fun s195 => (.k (.d (.d .nil)))) (fun s189 d190 => (ag_name 2 (ab_ifL () (at_not (at_val (a_call d_is_move l_is_move (aa_cons (av 2 rfl) aa_nil) (hr.mono (by decide)) hG tk (by rfl)))) (wk_un rfl) (ab_raise (k := 0) () T.x_InvalidMove (ac_pos (aa_cons (av 2 rfl) aa_nil)) (wk_un rfl) rfl te (hr.mono (by decide)) (by rfl)) (ab_nil () (.k (.k (.d .nil))) rfl)) sc_Run___init__.nd (by first | exact Or.inl rfl | exact Or.inr rfl))) (fun s193 => (ab_fld (tag := (some 0)) (d := o) 0 rfl () T.f_own_moves (av 1 rfl) (wk_un rfl) (fun x194 => (ab_nil x194 (.k (.d (.d .nil))) rfl)))) rfl po rfl rfl) rfl
def m_Run_of : List D → R Unit D
  | [a259] => R.lft (listG [a259]) fun x260 => R.asQ x260 fun l262 => R.make (m_Run___init__ ((.obj "Run" []) :: l262)) () fun x263 => R.ok x263
  | _ => .no
theorem l_Run_of : ∀ ds, m_Run_of ds ≠ .no → ds.length = 1 := by
  intro ds h
  unfold m_Run_of at h
  split at h
  · rfl
  · exact absurd rfl h
abbrev s_Run_of : Stmt := clsS 17 1
theorem sc_Run_of : FnScope ["moves", "found"] ["moves"] (defScope s_Run_of) := ⟨rfl, rfl, rfl, by decide +kernel, rfl, by decide +kernel, by decide +kernel⟩
theorem ok_Run_of {f : Addr} {fd : FuncData} (F : Fun K "of" "Run.of" s_Run_of f fd) (T : Txt P w K mg) (d_Run : MakeC P w K mg base 3 "Run" [] m_Run___init__) : FnG P w K mg base (L2.CX P w) 5 f fd ["moves"] (spM K (mk0 1) none (Lp m_Run_of)) := by
  refine okP F sc_Run_of rfl (fun cdv A outer s H E hr hG te tk po ds hl => ?_)
  match ds, hl with
  | [a259], _ => exact AB.eq (ab_set 1 () (AN.ae (a_callTN call_list_of cn_list boot_list T.z_list (by rfl) (aal_cons (AE.al (av 0 rfl)) aal_nil))) (wk_un rfl) (fun x261 => (ab_ret () () (AN.ae (a_make d_Run (ac_s1 (AE.al (av 1 rfl))) (hr.mono (by decide)) hG tk (by rfl))) (wk_un rfl) (wk_un rfl) rfl)) sc_Run_of.nd (by first | exact Or.inl rfl | exact Or.inr rfl)) rfl
def m_Run_moves_of : List D → R Unit D
  | [a326, a327] => R.isiC ic_Run a327 fun b328 => R.asB (.bl b328) fun b329 => if b329 then R.fld cl_own_moves "own_moves" a327 fun x330 => R.ok x330 else R.few [(.ty "tuple"), (.ty "list")] fun l334 => R.lft (isiTG [a327, (.tup l334)]) fun x331 => R.asB x331 fun b332 => if (!b332) then R.raise "InvalidMove" ["move"] [a327] () else R.lft (tupleG [a327]) fun x333 => R.ok x333
  | _ => .no
theorem l_Run_moves_of : ∀ ds, m_Run_moves_of ds ≠ .no → ds.length = 2 := by
  intro ds h
  unfold m_Run_moves_of at h
  split at h
  · rfl
  · exact absurd rfl h
def mt_moves_of : Str → Option (List D → R Unit D) := fun C => if C = "Run" then some m_Run_moves_of else none
abbrev s_Run_moves_of : Stmt := clsS 17 4
theorem sc_Run_moves_of : FnScope ["self", "other"] ["self", "other"] (defScope s_Run_moves_of) := ⟨rfl, rfl, rfl, by decide +kernel, rfl, by decide +kernel, by decide +kernel⟩
theorem ok_Run_moves_of {f : Addr} {fd : FuncData} (F : Fun K "moves_of" "Run.moves_of" s_Run_moves_of f fd) (T : Txt P w K mg) : FnG P w K mg base (L2.CX P w) 2 f fd ["self", "other"] (spM K (mk0 2) none (Lp m_Run_moves_of)) := by
  refine okP F sc_Run_moves_of rfl (fun cdv A outer s H E hr hG te tk po ds hl => ?_)
  match ds, hl with
  | [a326, a327], _ => exact AB.eq (ab_ifT () (at_val (a_isiC T.i_Run T.z_isinstance (by rfl) (by rfl) (AE.al (av 1 rfl)))) (wk_un rfl) (ab_ret () () (a_fld T.f_own_moves (AE.al (av 1 rfl))) (wk_un rfl) (wk_un rfl) rfl) (ab_ifT () (at_not (at_val (a_callB call_isiZ' cd_isiT boot_isinstance T.z_isinstance (by rfl) (aal_cons (AE.al (av 1 rfl)) (aal_cons (AE.al (a_tup (aa_cons (a_bty boot_tuple T.z_tuple (by rfl)) (aa_cons (a_bty boot_list T.z_list (by rfl)) aa_nil)))) aal_nil))))) (wk_un rfl) (ab_raise (k := 0) () T.x_InvalidMove (ac_pos (aa_cons (av 1 rfl) aa_nil)) (wk_un rfl) rfl te (hr.mono (by decide)) (by rfl)) (ab_ret () () (a_callT call_tupleZ cd_tuple boot_tuple T.z_tuple (by rfl) (aal_cons (AE.al (av 1 rfl)) aal_nil)) (wk_un rfl) (wk_un rfl) rfl))) rfl
def m_Run___add__ : List D → R Unit D
  | [a317, a318] => R.fld cl_own_moves "own_moves" a317 fun x319 => R.meth mt_moves_of "moves_of" a317 fun g321 => R.call (g321 [a317, a318]) () fun x320 => R.lft (addA x319 x320) fun x322 => R.asQ x322 fun l324 => R.make (m_Run___init__ ((.obj "Run" []) :: l324)) () fun x325 => R.ok x325
  | _ => .no
theorem l_Run___add__ : ∀ ds, m_Run___add__ ds ≠ .no → ds.length = 2 := by
  intro ds h
  unfold m_Run___add__ at h
  split at h
  · rfl
  · exact absurd rfl h
def mt___add__ : Str → Option (List D → R Unit D) := fun C => if C = "Run" then some m_Run___add__ else none
abbrev s_Run___add__ : Stmt := clsS 17 5
theorem sc_Run___add__ : FnScope ["self", "other", "found"] ["self", "other"] (defScope s_Run___add__) := ⟨rfl, rfl, rfl, by decide +kernel, rfl, by decide +kernel, by decide +kernel⟩
theorem ok_Run___add__ {f : Addr} {fd : FuncData} (F : Fun K "__add__" "Run.__add__" s_Run___add__ f fd) (T : Txt P w K mg) (d_Run : MakeC P w K mg base 3 "Run" [] m_Run___init__) (d_m_moves_of : ∀ C mf, mt_moves_of C = some mf → MethC P w K mg base 2 C "moves_of" none mf) : FnG P w K mg base (L2.CX P w) 5 f fd ["self", "other"] (spM K (mk0 2) none (Lp m_Run___add__)) := by
  refine okP F sc_Run___add__ rfl (fun cdv A outer s H E hr hG te tk po ds hl => ?_)
  match ds, hl with
  | [a317, a318], _ => exact AB.eq (ab_set 2 () (a_op op_addA od_addA (AE.al (a_fld T.f_own_moves (AE.al (av 0 rfl)))) (AE.al (a_meth d_m_moves_of (av 0 rfl) (ac_pos (aa_cons (av 1 rfl) aa_nil)) (hr.mono (by decide)) hG tk))) (wk_un rfl) (fun x323 => (ab_ret () () (AN.ae (a_make d_Run (ac_s1 (AE.al (av 2 rfl))) (hr.mono (by decide)) hG tk (by rfl))) (wk_un rfl) (wk_un rfl) rfl)) sc_Run___add__.nd (by first | exact Or.inl rfl | exact Or.inr rfl)) rfl
def m_Run___radd__ : List D → R Unit D
  | [a335, a336] => R.meth mt_moves_of "moves_of" a335 fun g338 => R.call (g338 [a335, a336]) () fun x337 => R.fld cl_own_moves "own_moves" a335 fun x339 => R.lft (addA x337 x339) fun x340 => R.asQ x340 fun l342 => R.make (m_Run___init__ ((.obj "Run" []) :: l342)) () fun x343 => R.ok x343
  | _ => .no
theorem l_Run___radd__ : ∀ ds, m_Run___radd__ ds ≠ .no → ds.length = 2 := by
  intro ds h
  unfold m_Run___radd__ at h
  split at h
  · rfl
  · exact absurd rfl h
def mt___radd__ : Str → Option (List D → R Unit D) := fun C => if C = "Run" then some m_Run___radd__ else none
abbrev s_Run___radd__ : Stmt := clsS 17 6
theorem sc_Run___radd__ : FnScope ["self", "other", "found"] ["self", "other"] (defScope s_Run___radd__) := ⟨rfl, rfl, rfl, by decide +kernel, rfl, by decide +kernel, by decide +kernel⟩
theorem ok_Run___radd__ {f : Addr} {fd : FuncData} (F : Fun K "__radd__" "Run.__radd__" s_Run___radd__ f fd) (T : Txt P w K mg) (d_Run : MakeC P w K mg base 3 "Run" [] m_Run___init__) (d_m_moves_of : ∀ C mf, mt_moves_of C = some mf → MethC P w K mg base 2 C "moves_of" none mf) : FnG P w K mg base (L2.CX P w) 5 f fd ["self", "other"] (spM K (mk0 2) none (Lp m_Run___radd__)) := by
  refine okP F sc_Run___radd__ rfl (fun cdv A outer s H E hr hG te tk po ds hl => ?_)
  match ds, hl with
  | [a335, a336], _ => exact AB.eq (ab_set 2 () (a_op op_addA od_addA (AE.al (a_meth d_m_moves_of (av 0 rfl) (ac_pos (aa_cons (av 1 rfl) aa_nil)) (hr.mono (by decide)) hG tk)) (AE.al (a_fld T.f_own_moves (AE.al (av 0 rfl))))) (wk_un rfl) (fun x341 => (ab_ret () () (AN.ae (a_make d_Run (ac_s1 (AE.al (av 2 rfl))) (hr.mono (by decide)) hG tk (by rfl))) (wk_un rfl) (wk_un rfl) rfl)) sc_Run___radd__.nd (by first | exact Or.inl rfl | exact Or.inr rfl)) rfl
def m_Run___contains__ : List D → R Unit D
  | [a404, a405] => R.bind (R.call (m_is_move [a405]) () fun x408 => R.asB x408 fun b410 => if b410 then R.fld cl_own_moves "own_moves" a404 fun x406 => R.lft (inA a405 x406) fun x407 => R.ok x407 else R.ok (.bl false)) fun x409 => R.ok x409
  | _ => .no
theorem l_Run___contains__ : ∀ ds, m_Run___contains__ ds ≠ .no → ds.length = 2 := by
  intro ds h
  unfold m_Run___contains__ at h
  split at h
  · rfl
  · exact absurd rfl h
def mt___contains__ : Str → Option (List D → R Unit D) := fun C => if C = "Run" then some m_Run___contains__ else none
abbrev s_Run___contains__ : Stmt := clsS 17 9
theorem sc_Run___contains__ : FnScope ["self", "value"] ["self", "value"] (defScope s_Run___contains__) := ⟨rfl, rfl, rfl, by decide +kernel, rfl, by decide +kernel, by decide +kernel⟩
theorem ok_Run___contains__ {f : Addr} {fd : FuncData} (F : Fun K "__contains__" "Run.__contains__" s_Run___contains__ f fd) (T : Txt P w K mg) (d_is_move : Dfn P w K mg base 2 "is_move" (mk0 1) none (Lp m_is_move)) : FnG P w K mg base (L2.CX P w) 3 f fd ["self", "value"] (spM K (mk0 2) none (Lp m_Run___contains__)) := by
  refine okP F sc_Run___contains__ rfl (fun cdv A outer s H E hr hG te tk po ds hl => ?_)
  match ds, hl with
  | [a404, a405], _ => exact AB.eq (ab_ret () () (a_and (a_call d_is_move l_is_move (aa_cons (av 1 rfl) aa_nil) (hr.mono (by decide)) hG tk (by rfl)) (a_one (a_cmp (op_inA (u65 hr)) od_inA (AE.al (av 1 rfl)) (AE.al (a_fld T.f_own_moves (AE.al (av 0 rfl)))) (by rfl)))) (wk_un rfl) (wk_un rfl) rfl) rfl
def m_Run___getitem__ : List D → R Unit D
  | [a411, a412] => R.fld cl_own_moves "own_moves" a411 fun x414 => R.lft (lenG [x414]) fun x415 => R.lft (subG x415 (.int 1)) fun x416 => R.call (m_is_integer [a412, (.int 0), x416]) () fun x413 => R.asB x413 fun b417 => if (!b417) then R.raise "InvalidNumber" ["value"] [a412] () else R.fld cl_own_moves "own_moves" a411 fun x418 => R.lft (ixG x418 a412) fun x419 => R.ok x419
  | _ => .no
theorem l_Run___getitem__ : ∀ ds, m_Run___getitem__ ds ≠ .no → ds.length = 2 := by
  intro ds h
  unfold m_Run___getitem__ at h
  split at h
  · rfl
  · exact absurd rfl h
def mt___getitem__ : Str → Option (List D → R Unit D) := fun C => if C = "Run" then some m_Run___getitem__ else none
abbrev s_Run___getitem__ : Stmt := clsS 17 10
theorem sc_Run___getitem__ : FnScope ["self", "index"] ["self", "index"] (defScope s_Run___getitem__) := ⟨rfl, rfl, rfl, by decide +kernel, rfl, by decide +kernel, by decide +kernel⟩
theorem ok_Run___getitem__ {f : Addr} {fd : FuncData} (F : Fun K "__getitem__" "Run.__getitem__" s_Run___getitem__ f fd) (T : Txt P w K mg) (d_is_integer : Dfn P w K mg base 1 "is_integer" (mk0 3) none (Lp m_is_integer)) : FnG P w K mg base (L2.CX P w) 2 f fd ["self", "index"] (spM K (mk0 2) none (Lp m_Run___getitem__)) := by
  refine okP F sc_Run___getitem__ rfl (fun cdv A outer s H E hr hG te tk po ds hl => ?_)
  match ds, hl with
  | [a411, a412], _ => exact AB.eq (ab_ifT () (at_not (at_val (a_call d_is_integer l_is_integer (aa_cons (av 1 rfl) (aa_cons a_int (aa_cons (a_op op_sub od_sub (AE.al (a_callB call_len cd_len PySem.boot_len T.z_len (by rfl) (aal_cons (AE.al (a_fld T.f_own_moves (AE.al (av 0 rfl)))) aal_nil))) (AE.al a_int)) aa_nil))) (hr.mono (by decide)) hG tk (by rfl)))) (wk_un rfl) (ab_raise (k := 0) () T.x_InvalidNumber (ac_pos (aa_cons (av 1 rfl) aa_nil)) (wk_un rfl) rfl te (hr.mono (by decide)) (by rfl)) (ab_ret () () (a_ix (AE.al (a_fld T.f_own_moves (AE.al (av 0 rfl)))) (AE.al (av 1 rfl))) (wk_un rfl) (wk_un rfl) rfl)) rfl
def m_Run_listed : List D → R Unit D
  | [a420] => R.fld cl_own_moves "own_moves" a420 fun x421 => R.lft (listG [x421]) fun x422 => R.ok x422
  | _ => .no
theorem l_Run_listed : ∀ ds, m_Run_listed ds ≠ .no → ds.length = 1 := by
  intro ds h
  unfold m_Run_listed at h
  split at h
  · rfl
  · exact absurd rfl h
def mt_listed : Str → Option (List D → R Unit D) := fun C => if C = "Run" then some m_Run_listed else none
abbrev s_Run_listed : Stmt := clsS 17 3
theorem sc_Run_listed : FnScope ["self"] ["self"] (defScope s_Run_listed) := ⟨rfl, rfl, rfl, by decide +kernel, rfl, by decide +kernel, by decide +kernel⟩
theorem ok_Run_listed {f : Addr} {fd : FuncData} (F : Fun K "listed" "Run.listed" s_Run_listed f fd) (T : Txt P w K mg) : FnG P w K mg base (L2.CX P w) 1 f fd ["self"] (spM K (mk0 1) none (Lp m_Run_listed)) := by
  refine okP F sc_Run_listed rfl (fun cdv A outer s H E hr hG te tk po ds hl => ?_)
  match ds, hl with
  | [a420], _ => exact AB.eq (ab_ret () () (AN.ae (a_callTN call_list_of cn_list boot_list T.z_list (by rfl) (aal_cons (AE.al (a_fld T.f_own_moves (AE.al (av 0 rfl)))) aal_nil))) (wk_un rfl) (wk_un rfl) rfl) rfl
def m_Run_hands : List D → R Unit D
  | [a423] => R.fld cl_own_moves "own_moves" a423 fun x425 => R.asQ x425 fun _ => R.few [gCOME] fun l426 => R.lft (cntG x425 [(.tup l426)]) fun x424 => R.ok x424
  | _ => .no
theorem l_Run_hands : ∀ ds, m_Run_hands ds ≠ .no → ds.length = 1 := by
  intro ds h
  unfold m_Run_hands at h
  split at h
  · rfl
  · exact absurd rfl h
def mp_hands : Str → Option (List D → R Unit D) := fun C => if C = "Run" then some m_Run_hands else none
abbrev s_Run_hands : Stmt := clsS 17 2
theorem sc_Run_hands : FnScope ["self"] ["self"] (defScope s_Run_hands) := ⟨rfl, rfl, rfl, by decide +kernel, rfl, by decide +kernel, by decide +kernel⟩
theorem ok_Run_hands {f : Addr} {fd : FuncData} (F : Fun K "hands" "Run.hands" s_Run_hands f fd) (T : Txt P w K mg) : FnG P w K mg base (L2.CX P w) 1 f fd ["self"] (spM K (mk0 1) none (Lp m_Run_hands)) := by
  refine okP F sc_Run_hands rfl (fun cdv A outer s H E hr hG te tk po ds hl => ?_)
  match ds, hl with
  | [a423], _ => exact AB.eq (ab_ret () () (a_cnt (u65 hr) (AE.al (a_fld T.f_own_moves (AE.al (av 0 rfl)))) (aal_cons (AE.al (a_tup (aa_cons (a_glob T.gCOME (by rfl)) aa_nil))) aal_nil)) (wk_un rfl) (wk_un rfl) rfl) rfl
def m__law_index_refused : List D → R Unit D
  | [a427, a428] => R.tryc (R.out (fun (s437 : D) => R.few [(.str "no run")] fun l439 => R.lft (eqG s437 (.lst l439)) fun x438 => R.ok x438) Empty.elim Empty.elim (fun d (_ : Unit) => R.ok d)) (R.dun mt___getitem__ a427 [a428] () fun x430 => R.ok (TOut.nx x430)) mt_InvalidNumber (fun y440 => R.lft (xget y440.fs "value") fun x433 => R.lft (reprA [x433]) fun x434 => R.lft (reprA [a428]) fun x435 => R.lft (eqG x434 x435) fun x436 => R.ok (TOut.rt x436 ())) ()
  | _ => .no
theorem l__law_index_refused : ∀ ds, m__law_index_refused ds ≠ .no → ds.length = 2 := by
  intro ds h
  unfold m__law_index_refused at h
  split at h
  · rfl
  · exact absurd rfl h
abbrev s__law_index_refused : Stmt := topS 28
theorem sc__law_index_refused : FnScope ["_law_run", "_law_index", "_law_found", "e"] ["_law_run", "_law_index"] (defScope s__law_index_refused) := ⟨rfl, rfl, rfl, by decide +kernel, rfl, by decide +kernel, by decide +kernel⟩
theorem ok__law_index_refused {f : Addr} {fd : FuncData} (F : Fun K "_law_index_refused" "_law_index_refused" s__law_index_refused f fd) (T : Txt P w K mg) (dn___getitem__ : ∀ C mf, mt___getitem__ C = some mf → FnC K C "__getitem__") (d_m___getitem__ : ∀ C mf, mt___getitem__ C = some mf → MethC P w K mg base 2 C "__getitem__" none mf) : FnG P w K mg base (L2.CX P w) 4 f fd ["_law_run", "_law_index"] (spM K (mk0 2) none (Lp m__law_index_refused)) := by
  refine okP F sc__law_index_refused rfl (fun cdv A outer s H E hr hG te tk po ds hl => ?_)
  match ds, hl with
  | [a427, a428], _ => exact AB.eq (ab_try 3 [.un, .un, .un, .un] (S := D) (βB := Unit) (fun (s429 : D) => [.fz a427, .fz a428, .fz s429, .un]) (fun _ => [.fz a427, .fz a428, .un, .un]) (fun _ => ()) (T.e_InvalidNumber.at (by rfl)) te rfl rfl sc__law_index_refused.nd rfl rfl (fun E' pn xe te po => (ab_set 2 () (a_getO d_m___getitem__ dn___getitem__ (av 0 rfl) (av 1 rfl) (hr.mono (by decide)) hG (fun σ => passAt te σ)) (.k (.k (.d (.d .nil)))) (fun x431 => (ab_nil x431 (.k (.k (.k (.d .nil)))) rfl)) sc__law_index_refused.nd (by first | exact Or.inl rfl | exact Or.inr rfl))) (fun a d oe C c pn _ g432 hmt hC hz hv => (ab_ret () () (a_cmp (op_eqA hr.units) od_eq (AE.al (a_callB (cr_reprA hG hr.units) cd_reprA boot_repr T.z_repr (by rfl) (aal_cons (AE.al (a_xf 3 T.xf_InvalidNumber_value hmt hC hz hv rfl)) aal_nil))) (AE.al (a_callB (cr_reprA hG hr.units) cd_reprA boot_repr T.z_repr (by rfl) (aal_cons (AE.al (av 1 rfl)) aal_nil))) (nomark _)) (wk_un rfl) (wk_un rfl) rfl)) (fun _ => (wk_un rfl)) (fun _ => rfl) (fun z => Empty.elim z) (fun z => Empty.elim z) (fun s437 => (ab_ret () () (a_cmp (op_eqA hr.units) od_eq (AE.al (av 2 rfl)) (AE.al (AN.ae (a_lst (aa_cons a_str aa_nil)))) (nomark _)) (wk_un rfl) (wk_un rfl) rfl))) rfl
def m__law_basic : List D → R Unit D
  | [a344, a345] => R.bind (R.len mt___len__ a344 fun x357 => R.lft (lenG [a345]) fun x358 => R.lft (neG x357 x358) fun x359 => R.asB x359 fun b360 => if b360 then R.ok true else R.bind (R.meth mt_listed "listed" a344 fun g352 => R.call (g352 [a344]) () fun x351 => R.lft (listG [a345]) fun x353 => R.lft (neG x351 x353) fun x354 => R.asB x354 fun b355 => if b355 then R.ok true else R.propOf mp_hands a344 fun x346 => R.lft (listG [a345]) fun x348 => R.asQ x348 fun _ => R.few [(.str "come")] fun l403 => R.lft (cntG x348 [(.tup l403)]) fun x347 => R.lft (neG x346 x347) fun x349 => R.asB x349 fun b350 => R.ok b350) fun b356 => R.ok b356) fun b361 => if b361 then R.ok (.bl false) else R.lft (lenG [a345]) fun x362 => R.rng1 x362 fun l363 => R.after (R.for' l363 () fun d366 s365 => R.bind (R.dun mt___getitem__ a344 [d366] () fun x370 => R.lft (ixG a345 d366) fun x371 => R.lft (neG x370 x371) fun x372 => R.asB x372 fun b373 => if b373 then R.ok true else R.lft (ixG a345 d366) fun x367 => R.inO mt___contains__ true () x367 a344 fun x368 => R.asB x368 fun b369 => R.ok b369) fun b374 => if b374 then R.ok (Step.rt (.bl false) ()) else R.ok (Step.nx ())) (fun s375 => R.few [(.str "go")] fun l396 => R.few [(.str "come")] fun l397 => R.few [(.str "come"), (.int 1)] fun l398 => R.few [(.str "go"), (.bl true)] fun l399 => R.few [.non, (.tup l396), (.lst l397), (.tup l398), (.str "come"), (.tup l399)] fun l400 => R.items (.lst l400) fun l376 => R.after (R.for' l376 () fun d379 s378 => R.inO mt___contains__ false () d379 a344 fun x380 => R.asB x380 fun b381 => if b381 then R.ok (Step.rt (.bl false) ()) else R.ok (Step.nx ())) (fun s382 => R.asI (.int 1) fun x384 => R.lft (lenG [a345]) fun x383 => R.few [(.int (-x384)), x383, .non, (.bl true), (.str "0")] fun l390 => R.items (.lst l390) fun l385 => R.few l385 fun l391 => R.lst (R.fmapS (fun d386 _ => R.call (m__law_index_refused [a344, d386]) () fun x387 => R.asB x387 fun b388 => if (!b388) then R.ok (some d386, ()) else R.ok (none, ())) l391 ()) fun x392 _ => R.few [] fun l393 => R.lft (eqG x392 (.lst l393)) fun x389 => R.ok x389) fun d395 s394 => R.ok d395) fun d402 s401 => R.ok d402
  | _ => .no
theorem l__law_basic : ∀ ds, m__law_basic ds ≠ .no → ds.length = 2 := by
  intro ds h
  unfold m__law_basic at h
  split at h
  · rfl
  · exact absurd rfl h
abbrev s__law_basic : Stmt := topS 27
theorem sc__law_basic : FnScope ["_law_run", "_law_some", "_law_at", "_law_thing"] ["_law_run", "_law_some"] (defScope s__law_basic) := ⟨rfl, rfl, rfl, by decide +kernel, rfl, by decide +kernel, by decide +kernel⟩
theorem ok__law_basic {f : Addr} {fd : FuncData} (F : Fun K "_law_basic" "_law_basic" s__law_basic f fd) (T : Txt P w K mg) (dn___getitem__ : ∀ C mf, mt___getitem__ C = some mf → FnC K C "__getitem__") (d_m___contains__ : ∀ C mf, mt___contains__ C = some mf → MethC P w K mg base 3 C "__contains__" none mf) (d_m___getitem__ : ∀ C mf, mt___getitem__ C = some mf → MethC P w K mg base 2 C "__getitem__" none mf) (d_m___len__ : ∀ C mf, mt___len__ C = some mf → MethC P w K mg base 1 C "__len__" none mf) (d_m_listed : ∀ C mf, mt_listed C = some mf → MethC P w K mg base 1 C "listed" none mf) (d_p_hands : ∀ C mf, mp_hands C = some mf → PropC P w K mg base 1 C "hands" mf) (d__law_index_refused : Dfn P w K mg base 4 "_law_index_refused" (mk0 2) none (Lp m__law_index_refused)) : FnG P w K mg base (L2.CX P w) 5 f fd ["_law_run", "_law_some"] (spM K (mk0 2) none (Lp m__law_basic)) := by
  refine okP F sc__law_basic rfl (fun cdv A outer s H E hr hG te tk po ds hl => ?_)
  match ds, hl with
  | [a344, a345], _ => exact AB.eq (ab_ifT () (AW.at (aw_or (at_cmp (op_neA hr.units) od_ne (AE.al (a_lenO d_m___len__ T.z_len (by rfl) (av 0 rfl) (hr.mono (by decide)) hG)) (AE.al (a_callB call_len cd_len PySem.boot_len T.z_len (by rfl) (aal_cons (AE.al (av 1 rfl)) aal_nil))) (nomark _)) (aw_or (at_cmp (op_neA hr.units) od_ne (AE.al (a_meth d_m_listed (av 0 rfl) ac_nil (hr.mono (by decide)) hG tk)) (AE.al (AN.ae (a_callTN call_list_of cn_list boot_list T.z_list (by rfl) (aal_cons (AE.al (av 1 rfl)) aal_nil)))) (nomark _)) (aw_or1 (at_cmp (op_neA hr.units) od_ne (AE.al (a_prop d_p_hands (av 0 rfl) (hr.mono (by decide)) hG)) (AE.al (a_cnt (u65 hr) (AE.al (AN.ae (a_callTN call_list_of cn_list boot_list T.z_list (by rfl) (aal_cons (AE.al (av 1 rfl)) aal_nil)))) (aal_cons (AE.al (a_tup (aa_cons a_str aa_nil))) aal_nil))) (nomark _)))))) (wk_un rfl) (ab_ret () () a_bl (wk_un rfl) (wk_un rfl) rfl) (ab_for (S := Unit) (own := [2]) (fun (s364 : Unit) => [.fz a344, .fz a345, .un, .un]) () (fun s401 => ()) () (ai_rng1 T.z_range (by rfl) (AE.al (a_callB call_len cd_len PySem.boot_len T.z_len (by rfl) (aal_cons (AE.al (av 1 rfl)) aal_nil)))) (wk_un rfl) (.k (.k (.d (.d .nil)))) (fun s401 => (wk_un rfl)) (fun s365 d366 => (ag_name 2 (ab_ifL () (AW.at (aw_or (at_cmp (op_neA hr.units) od_ne (AE.al (a_getO d_m___getitem__ dn___getitem__ (av 0 rfl) (av 2 rfl) (hr.mono (by decide)) hG tk)) (AE.al (a_ix (AE.al (av 1 rfl)) (AE.al (av 2 rfl)))) (nomark _)) (aw_or1 (at_cmpS (op_notInO (hr.mono (by decide)) hG tk) (oc_inO d_m___contains__) (a_ix (AE.al (av 1 rfl)) (AE.al (av 2 rfl))) (av 0 rfl) (by rfl))))) (wk_un rfl) (ab_ret () () a_bl (wk_un rfl) (.k (.k (.d (.d .nil)))) rfl) (ab_nil () (.k (.k (.d (.d .nil)))) rfl)) sc__law_basic.nd (by first | exact Or.inl rfl | exact Or.inr rfl))) (fun s375 => (ab_for (S := Unit) (own := [3]) (fun (s377 : Unit) => [.fz a344, .fz a345, .un, .un]) () (fun s394 => ()) () (ai_items (AN.ae (a_lst (aa_cons a_non (aa_cons (a_tup (aa_cons a_str aa_nil)) (aa_cons (AN.ae (a_lst (aa_cons a_str aa_nil))) (aa_cons (a_tup (aa_cons a_str (aa_cons a_int aa_nil))) (aa_cons a_str (aa_cons (a_tup (aa_cons a_str (aa_cons a_bl aa_nil))) aa_nil))))))))) (wk_un rfl) (.k (.k (.d (.d .nil)))) (fun s394 => (wk_un rfl)) (fun s378 d379 => (ag_name 3 (ab_ifL () (at_cmpS (op_inO (hr.mono (by decide)) hG tk) (oc_inO d_m___contains__) (av 3 rfl) (av 0 rfl) (by rfl)) (wk_un rfl) (ab_ret () () a_bl (wk_un rfl) (.k (.k (.d (.d .nil)))) rfl) (ab_nil () (.k (.k (.d (.d .nil)))) rfl)) sc__law_basic.nd (by first | exact Or.inl rfl | exact Or.inr rfl))) (fun s382 => (ab_ret () () (a_cmp (op_eqA hr.units) od_eq (AE.al (AN.ae (a_lc [("_law_thing", 3)] (ai_items (AN.ae (a_lst (aa_cons (a_neg (AE.al a_int)) (aa_cons (a_callB call_len cd_len PySem.boot_len T.z_len (by rfl) (aal_cons (AE.al (av 1 rfl)) aal_nil)) (aa_cons a_non (aa_cons a_bl (aa_cons a_str aa_nil)))))))) (fun _ _ d386 => (ag_name 3 (ael_if () (fun _ => (at_not (at_val (a_call d__law_index_refused l__law_index_refused (aa_cons (av 0 rfl) (aa_cons (av 3 rfl) aa_nil)) (hr.mono (by decide)) hG tk0 (by rfl))))) (fun _ => (av 3 rfl)) (.k (.k (.d (.d .nil)))) rfl) sc__law_basic.nd (by first | exact Or.inl rfl | exact Or.inr rfl))) rfl sc__law_basic.nd (blkOk_by (N := ["_law_run", "_law_some", "_law_at", "_law_thing"]) (sc := defScope s__law_basic) (by decide +kernel)) (hu_cons rfl hu_nil)))) (AE.al (AN.ae (a_lst aa_nil))) (nomark _)) (wk_un rfl) (wk_un rfl) rfl)) rfl po rfl rfl)) rfl po rfl rfl)) rfl
def m__law_sum : List D → R Unit D
  | [a442, a443] => R.tryc (R.out (fun (s450 : Unit) => R.ok .non) Empty.elim Empty.elim (fun d (_ : Unit) => R.ok d)) (R.addO mt___add__ ca_add () a442 a443 fun x445 => R.ok (TOut.rt x445 ())) mt_InvalidMove (fun y451 => R.lft (xget y451.fs "move") fun x447 => R.lft (reprA [x447]) fun x448 => R.few [x448] fun l449 => R.ok (TOut.rt (.lst l449) ())) ()
  | _ => .no
theorem l__law_sum : ∀ ds, m__law_sum ds ≠ .no → ds.length = 2 := by
  intro ds h
  unfold m__law_sum at h
  split at h
  · rfl
  · exact absurd rfl h
abbrev s__law_sum : Stmt := topS 26
theorem sc__law_sum : FnScope ["_law_one", "_law_other", "e"] ["_law_one", "_law_other"] (defScope s__law_sum) := ⟨rfl, rfl, rfl, by decide +kernel, rfl, by decide +kernel, by decide +kernel⟩
theorem ok__law_sum {f : Addr} {fd : FuncData} (F : Fun K "_law_sum" "_law_sum" s__law_sum f fd) (T : Txt P w K mg) (d_m___add__ : ∀ C mf, mt___add__ C = some mf → MethC P w K mg base 5 C "__add__" none mf) : FnG P w K mg base (L2.CX P w) 7 f fd ["_law_one", "_law_other"] (spM K (mk0 2) none (Lp m__law_sum)) := by
  refine okP F sc__law_sum rfl (fun cdv A outer s H E hr hG te tk po ds hl => ?_)
  match ds, hl with
  | [a442, a443], _ => exact AB.eq (ab_try 2 [.un, .un, .un] (S := Unit) (βB := Unit) (fun (s444 : Unit) => [.fz a442, .fz a443, .un]) (fun _ => [.fz a442, .fz a443, .un]) (fun _ => ()) (T.e_InvalidMove.at (by rfl)) te rfl rfl sc__law_sum.nd rfl rfl (fun E' pn xe te po => (ab_ret () () (a_opS (op_addO (hr.mono (by decide)) hG (fun σ => passAt te σ)) (oc_addO d_m___add__ T.q_add) (av 0 rfl) (av 1 rfl)) (.k (.k (.d .nil))) (wk_un rfl) rfl)) (fun a d oe C c pn _ g446 hmt hC hz hv => (ab_ret () () (AN.ae (a_lst (aa_cons (a_callB (cr_reprA hG hr.units) cd_reprA boot_repr T.z_repr (by rfl) (aal_cons (AE.al (a_xf 2 T.xf_InvalidMove_move hmt hC hz hv rfl)) aal_nil)) aa_nil))) (wk_un rfl) (wk_un rfl) rfl)) (fun _ => (wk_un rfl)) (fun _ => rfl) (fun z => Empty.elim z) (fun z => Empty.elim z) (fun s450 => (ab_nil () (wk_un rfl) rfl))) rfl
def m__law_both_right : List D → R Unit D
  | [a264, a265] => R.call (m_Run_of [a264]) () fun x267 => R.call (m_Run_of [a265]) () fun x266 => (match [x267, x266] with | [x268, x269] => R.lft (addA a264 a265) fun x270 => R.few [x270, x268] fun l316 => R.tup2 (.tup l316) fun x272 x273 => R.addO mt___add__ ca_add () x268 x269 fun x280 => R.addO mt___add__ ca_add () x268 a265 fun x279 => R.raddO mt___radd__ ca_add () a264 x269 fun x278 => R.lft (listG [a265]) fun x276 => R.addO mt___add__ ca_add () x268 x276 fun x277 => R.lft (listG [a264]) fun x274 => R.raddO mt___radd__ ca_add () x274 x269 fun x275 => R.few [x280, x279, x278, x277, x275] fun l315 => R.items (.lst l315) fun l282 => R.few l282 fun l312 => R.lst (R.fmapS (fun d283 _ => R.call (m__law_basic [d283, x272]) () fun x284 => R.asB x284 fun b285 => if (!b285) then R.ok (some d283, ()) else R.ok (none, ())) l312 ()) fun x313 _ => R.few [] fun l314 => R.lft (neG x313 (.lst l314)) fun x286 => R.asB x286 fun b287 => if b287 then R.ok (.bl false) else R.addN mt___add__ ca_add x268 a265 fun x288 => R.bind (R.call (m_Run_of [x272]) () fun x296 => R.eqO mt___eq__ sb_eq true () x288 x296 fun x297 => R.asB x297 fun b298 => if b298 then R.ok true else R.bind (R.call (m__law_basic [x273, a264]) () fun x293 => R.asB x293 fun b294 => if (!b294) then R.ok true else R.eqO mt___eq__ sb_eq false () x273 x269 fun x289 => R.lft (eqG a264 a265) fun x290 => R.lft (neG x289 x290) fun x291 => R.asB x291 fun b292 => R.ok b292) fun b295 => R.ok b295) fun b299 => if b299 then R.ok (.bl false) else R.few [.non, (.int 5), (.str "come"), (.dct [])] fun l308 => R.items (.lst l308) fun l300 => R.few l300 fun l309 => R.lst (R.fmapS (fun d301 _ => R.call (m__law_sum [x273, d301]) () fun x302 => R.lft (reprA [d301]) fun x303 => R.few [x303] fun l306 => R.lft (neG x302 (.lst l306)) fun x304 => R.asB x304 fun b305 => if b305 then R.ok (some d301, ()) else R.ok (none, ())) l309 ()) fun x310 _ => R.few [] fun l311 => R.lft (eqG x310 (.lst l311)) fun x307 => R.ok x307 | _ => R.no)
  | _ => .no
theorem l__law_both_right : ∀ ds, m__law_both_right ds ≠ .no → ds.length = 2 := by
  intro ds h
  unfold m__law_both_right at h
  split at h
  · rfl
  · exact absurd rfl h
abbrev s__law_both_right : Stmt := topS 29
theorem sc__law_both_right : FnScope ["_law_first", "_law_second", "_law_one", "_law_other", "_law_due", "_law_kept", "_law_some", "_law_run", "_law_thing"] ["_law_first", "_law_second"] (defScope s__law_both_right) := ⟨rfl, rfl, rfl, by decide +kernel, rfl, by decide +kernel, by decide +kernel⟩
theorem ok__law_both_right {f : Addr} {fd : FuncData} (F : Fun K "_law_both_right" "_law_both_right" s__law_both_right f fd) (T : Txt P w K mg) (d_m___add__ : ∀ C mf, mt___add__ C = some mf → MethC P w K mg base 5 C "__add__" none mf) (d_m___eq__ : ∀ C mf, mt___eq__ C = some mf → MethC P w K mg base 1 C "__eq__" none mf) (d_m___radd__ : ∀ C mf, mt___radd__ C = some mf → MethC P w K mg base 5 C "__radd__" none mf) (d_Run_of : StatC P w K mg base 5 "Run" "of" none m_Run_of) (d__law_basic : Dfn P w K mg base 5 "_law_basic" (mk0 2) none (Lp m__law_basic)) (d__law_sum : Dfn P w K mg base 7 "_law_sum" (mk0 2) none (Lp m__law_sum)) : FnG P w K mg base (L2.CX P w) 8 f fd ["_law_first", "_law_second"] (spM K (mk0 2) none (Lp m__law_both_right)) := by
  refine okP F sc__law_both_right rfl (fun cdv A outer s H E hr hG te tk po ds hl => ?_)
  match ds, hl with
  | [a264, a265], _ => exact AB.eq (ab_par 2 3 () (aa_cons (a_stat d_Run_of (ac_pos (aa_cons (av 0 rfl) aa_nil)) (hr.mono (by decide)) hG tk (by rfl)) (aa_cons (a_stat d_Run_of (ac_pos (aa_cons (av 1 rfl) aa_nil)) (hr.mono (by decide)) hG tk (by rfl)) aa_nil)) (wk_un rfl) (fun x268 x269 => (ab_asg (own := [4, 5]) () (a_tup (aa_cons (a_op op_addA od_addA (AE.al (av 0 rfl)) (AE.al (av 1 rfl))) (aa_cons (av 2 rfl) aa_nil))) (wk_un rfl) (fun d271 => (ag_tup2 rfl (fun x272 x273 => (ags_cons (ag_name 4 (ags_cons (ag_name 5 (ags_nil (ab_set 6 () (AN.ae (a_lst (aa_cons (a_opS (op_addO (hr.mono (by decide)) hG tk) (oc_addO d_m___add__ T.q_add) (av 2 rfl) (av 3 rfl)) (aa_cons (a_opS (op_addO (hr.mono (by decide)) hG tk) (oc_addO d_m___add__ T.q_add) (av 2 rfl) (av 1 rfl)) (aa_cons (a_opS (op_raddO (hr.mono (by decide)) hG tk) (oc_raddO d_m___radd__ T.q_add) (av 0 rfl) (av 3 rfl)) (aa_cons (a_opS (op_addO (hr.mono (by decide)) hG tk) (oc_addO d_m___add__ T.q_add) (av 2 rfl) (AN.ae (a_callTN call_list_of cn_list boot_list T.z_list (by rfl) (aal_cons (AE.al (av 1 rfl)) aal_nil)))) (aa_cons (a_opS (op_raddO (hr.mono (by decide)) hG tk) (oc_raddO d_m___radd__ T.q_add) (AN.ae (a_callTN call_list_of cn_list boot_list T.z_list (by rfl) (aal_cons (AE.al (av 0 rfl)) aal_nil))) (av 3 rfl)) aa_nil))))))) (wk_un rfl) (fun x281 => (ab_ifT () (at_cmp (op_neA hr.units) od_ne (AE.al (AN.ae (a_lc [("_law_run", 7)] (ai_items (av 6 rfl)) (fun _ _ d283 => (ag_name 7 (ael_if () (fun _ => (at_not (at_val (a_call d__law_basic l__law_basic (aa_cons (av 7 rfl) (aa_cons (av 4 rfl) aa_nil)) (hr.mono (by decide)) hG tk0 (by rfl))))) (fun _ => (av 7 rfl)) (.k (.k (.k (.k (.k (.k (.k (.d (.d .nil))))))))) rfl) sc__law_both_right.nd (by first | exact Or.inl rfl | exact Or.inr rfl))) rfl sc__law_both_right.nd (blkOk_by (N := ["_law_first", "_law_second", "_law_one", "_law_other", "_law_due", "_law_kept", "_law_some", "_law_run", "_law_thing"]) (sc := defScope s__law_both_right) (by decide +kernel)) (hu_cons rfl hu_nil)))) (AE.al (AN.ae (a_lst aa_nil))) (nomark _)) (wk_un rfl) (ab_ret () () a_bl (wk_un rfl) (wk_un rfl) rfl) (ab_augO 2 rfl () d_m___add__ T.q_add (av 1 rfl) (hr.mono (by decide)) hG (wk_un rfl) (fun x288 => (ab_ifT () (AW.at (aw_or (at_cmpS (op_neO (hr.mono (by decide)) hG tk (u_lt1 hr.units) (hr.mono (by decide))) (oc_eqO d_m___eq__ T.q_eq) (av 2 rfl) (a_stat d_Run_of (ac_pos (aa_cons (av 4 rfl) aa_nil)) (hr.mono (by decide)) hG tk (by rfl)) (nomark _)) (aw_or (at_not (at_val (a_call d__law_basic l__law_basic (aa_cons (av 5 rfl) (aa_cons (av 0 rfl) aa_nil)) (hr.mono (by decide)) hG tk (by rfl)))) (aw_or1 (at_cmp (op_neA hr.units) od_ne (AE.al (a_cmpS (op_eqO (hr.mono (by decide)) hG tk (u_lt hr.units) (hr.mono (by decide))) (oc_eqO d_m___eq__ T.q_eq) (av 5 rfl) (av 3 rfl) (nomark _))) (AE.al (a_cmp (op_eqA hr.units) od_eq (AE.al (av 0 rfl)) (AE.al (av 1 rfl)) (nomark _))) (nomark _)))))) (wk_un rfl) (ab_ret () () a_bl (wk_un rfl) (wk_un rfl) rfl) (ab_ret () () (a_cmp (op_eqA hr.units) od_eq (AE.al (AN.ae (a_lc [("_law_thing", 8)] (ai_items (AN.ae (a_lst (aa_cons a_non (aa_cons a_int (aa_cons a_str (aa_cons (AN.ae a_dct0) aa_nil))))))) (fun _ _ d301 => (ag_name 8 (ael_if () (fun _ => (at_cmp (op_neA hr.units) od_ne (AE.al (a_call d__law_sum l__law_sum (aa_cons (av 5 rfl) (aa_cons (av 8 rfl) aa_nil)) (hr.mono (by decide)) hG tk0 (by rfl))) (AE.al (AN.ae (a_lst (aa_cons (a_callB (cr_reprA hG hr.units) cd_reprA boot_repr T.z_repr (by rfl) (aal_cons (AE.al (av 8 rfl)) aal_nil)) aa_nil)))) (nomark _))) (fun _ => (av 8 rfl)) (.k (.k (.k (.k (.k (.k (.k (.d (.d .nil))))))))) rfl) sc__law_both_right.nd (by first | exact Or.inl rfl | exact Or.inr rfl))) rfl sc__law_both_right.nd (blkOk_by (N := ["_law_first", "_law_second", "_law_one", "_law_other", "_law_due", "_law_kept", "_law_some", "_law_run", "_law_thing"]) (sc := defScope s__law_both_right) (by decide +kernel)) (hu_cons rfl hu_nil)))) (AE.al (AN.ae (a_lst aa_nil))) (nomark _)) (wk_un rfl) (wk_un rfl) rfl))) sc__law_both_right.nd (by first | exact Or.inl rfl | exact Or.inr rfl)))) sc__law_both_right.nd (by first | exact Or.inl rfl | exact Or.inr rfl))) sc__law_both_right.nd (by first | exact Or.inl rfl | exact Or.inr rfl))) sc__law_both_right.nd (by first | exact Or.inl rfl | exact Or.inr rfl)))))))) rfl sc__law_both_right.nd) rfl
def m__law_draw : List D → R Unit (D × D)
  | [a453, a454] => R.lft (ixG a453 (.int 1)) fun x455 => R.asL a453 fun l459 => R.lft (addA x455 (.int 1)) fun x457 => R.setAt l459 (.int 1) x457 fun x458 => R.bind (R.lft (ixG x458 (.int 0)) fun x460 => R.lft (lenG [x460]) fun x461 => R.lft (ltG x455 x461) fun x462 => R.asB x462 fun b463 => if b463 then R.lft (ixG x458 (.int 0)) fun x464 => R.lft (ixG x464 x455) fun x465 => R.lft (intG1 [x465]) fun x466 => R.lft (modG x466 a454) fun x467 => R.ok x467 else R.ok (.int 0)) fun x468 => R.ok (x468, x458)
  | _ => .no
theorem l__law_draw : ∀ o ds, m__law_draw (o :: ds) ≠ .no → ds.length = 1 := by
  intro o ds h
  unfold m__law_draw at h
  split at h
  · rename_i e; cases e; rfl
  · exact absurd rfl h
abbrev s__law_draw : Stmt := topS 21
theorem sc__law_draw : FnScope ["_law_pool_here", "_law_many", "_law_at"] ["_law_pool_here", "_law_many"] (defScope s__law_draw) := ⟨rfl, rfl, rfl, by decide +kernel, rfl, by decide +kernel, by decide +kernel⟩
theorem ok__law_draw {f : Addr} {fd : FuncData} (F : Fun K "_law_draw" "_law_draw" s__law_draw f fd) (T : Txt P w K mg) : FnG P w K mg base (L2.CX P w) 1 f fd ["_law_pool_here", "_law_many"] (spM K (some [] :: mk0 1) none (L1e m__law_draw)) := by
  refine okR0 (m := 2) F sc__law_draw rfl rfl (fun cdv A outer s H E hr hG te tk po o ds hl => ?_)
  match ds, hl with
  | [a454], _ =>
    exact AB.eq (ab_set 2 () (a_ix (al 0 rfl) (AE.al a_int)) (wk_un rfl) (fun x456 => (ab_setIx (tag := (some 0)) (d := o) 0 rfl () (AE.al a_int) (a_op op_addA od_addA (AE.al (av 2 rfl)) (AE.al a_int)) (wk_un rfl) (fun x458 => (ab_ret () x458 (a_if (at_cmp op_lt od_lt (AE.al (av 2 rfl)) (AE.al (a_callB call_len cd_len PySem.boot_len T.z_len (by rfl) (aal_cons (AE.al (a_ix (al 0 rfl) (AE.al a_int))) aal_nil))) (nomark _)) (a_op op_mod od_mod (AE.al (a_callT call_int1 cd_int boot_int T.z_int (by rfl) (aal_cons (AE.al (a_ix (AE.al (a_ix (al 0 rfl) (AE.al a_int))) (AE.al (av 2 rfl)))) aal_nil))) (AE.al (av 1 rfl))) a_int) (wk_un rfl) (.k (.d (.d .nil))) rfl)))) sc__law_draw.nd (by first | exact Or.inl rfl | exact Or.inr rfl)) rfl
def m__law_is_move : List D → R Unit D
  | [a469] => R.bind (R.lft (isiG [a469, (.ty "tuple")]) fun x480 => R.asB x480 fun b481 => if (!b481) then R.ok true else R.bind (R.bind (R.lft (lenG [a469]) fun x473 => R.lft (leG (.int 1) x473) fun x474 => R.asB x474 fun b475 => if b475 then R.lft (leG x473 (.int 2)) fun x476 => R.ok x476 else R.ok (.bl false)) fun x477 => R.asB x477 fun b478 => if (!b478) then R.ok true else R.lft (ixG a469 (.int 0)) fun x470 => R.lft (isiG [x470, (.ty "str")]) fun x471 => R.asB x471 fun b472 => R.ok (!b472)) fun b479 => R.ok b479) fun b482 => if b482 then R.ok (.bl false) else R.lft (lenG [a469]) fun x483 => R.lft (eqG x483 (.int 1)) fun x484 => R.asB x484 fun b485 => if b485 then R.lft (ixG a469 (.int 0)) fun x486 => R.few [(.str "come"), (.str "step")] fun l488 => R.lft (inA x486 (.lst l488)) fun x487 => R.ok x487 else R.lft (ixG a469 (.int 0)) fun x489 => R.lft (eqG x489 (.str "go")) fun x490 => R.asB x490 fun b491 => if b491 then R.bind (R.lft (ixG a469 (.int 1)) fun x503 => R.lft (isiG [x503, (.ty "int")]) fun x504 => R.asB x504 fun b506 => if b506 then R.bind (R.lft (ixG a469 (.int 1)) fun x498 => R.lft (isiG [x498, (.ty "bool")]) fun x499 => R.asB x499 fun b500 => R.asB (.bl (!b500)) fun b502 => if b502 then R.bind (R.lft (ixG a469 (.int 1)) fun x493 => R.lft (leG (.int 0) x493) fun x494 => R.asB x494 fun b495 => if b495 then R.lft (leG x493 (.int 13)) fun x496 => R.ok x496 else R.ok (.bl false)) fun x497 => R.ok x497 else R.ok (.bl false)) fun x501 => R.ok x501 else R.ok (.bl false)) fun x505 => R.ok x505 else R.bind (R.lft (ixG a469 (.int 0)) fun x509 => R.few [(.str "begin"), (.str "run")] fun l513 => R.lft (inA x509 (.lst l513)) fun x510 => R.asB x510 fun b512 => if b512 then R.lft (ixG a469 (.int 1)) fun x508 => R.call (m_is_name [x508]) () fun x507 => R.ok x507 else R.ok (.bl false)) fun x511 => R.ok x511
  | _ => .no
theorem l__law_is_move : ∀ ds, m__law_is_move ds ≠ .no → ds.length = 1 := by
  intro ds h
  unfold m__law_is_move at h
  split at h
  · rfl
  · exact absurd rfl h
abbrev s__law_is_move : Stmt := topS 24
theorem sc__law_is_move : FnScope ["_law_value"] ["_law_value"] (defScope s__law_is_move) := ⟨rfl, rfl, rfl, by decide +kernel, rfl, by decide +kernel, by decide +kernel⟩
theorem ok__law_is_move {f : Addr} {fd : FuncData} (F : Fun K "_law_is_move" "_law_is_move" s__law_is_move f fd) (T : Txt P w K mg) (d_is_name : Dfn P w K mg base 1 "is_name" (mk0 1) none (Lp m_is_name)) : FnG P w K mg base (L2.CX P w) 2 f fd ["_law_value"] (spM K (mk0 1) none (Lp m__law_is_move)) := by
  refine okP F sc__law_is_move rfl (fun cdv A outer s H E hr hG te tk po ds hl => ?_)
  match ds, hl with
  | [a469], _ => exact AB.eq (ab_ifT () (AW.at (aw_or (at_not (at_val (a_callB call_isi cd_isi boot_isinstance T.z_isinstance (by rfl) (aal_cons (AE.al (av 0 rfl)) (aal_cons (AE.al (a_bty boot_tuple T.z_tuple (by rfl))) aal_nil))))) (aw_or (at_not (at_chain op_le od_le op_le od_le (AE.al a_int) (AE.al (a_callB call_len cd_len PySem.boot_len T.z_len (by rfl) (aal_cons (AE.al (av 0 rfl)) aal_nil))) (AE.al a_int))) (aw_or1 (at_not (at_val (a_callB call_isi cd_isi boot_isinstance T.z_isinstance (by rfl) (aal_cons (AE.al (a_ix (AE.al (av 0 rfl)) (AE.al a_int))) (aal_cons (AE.al (a_bty boot_str T.z_str (by rfl))) aal_nil))))))))) (wk_un rfl) (ab_ret () () a_bl (wk_un rfl) (wk_un rfl) rfl) (ab_ifT () (at_cmp (op_eqA hr.units) od_eq (AE.al (a_callB call_len cd_len PySem.boot_len T.z_len (by rfl) (aal_cons (AE.al (av 0 rfl)) aal_nil))) (AE.al a_int) (nomark _)) (wk_un rfl) (ab_ret () () (a_cmp (op_inA (u65 hr)) od_inA (AE.al (a_ix (AE.al (av 0 rfl)) (AE.al a_int))) (AE.al (AN.ae (a_lst (aa_cons a_str (aa_cons a_str aa_nil))))) (by rfl)) (wk_un rfl) (wk_un rfl) rfl) (ab_ifT () (at_cmp (op_eqA hr.units) od_eq (AE.al (a_ix (AE.al (av 0 rfl)) (AE.al a_int))) (AE.al a_str) (nomark _)) (wk_un rfl) (ab_ret () () (a_and (a_callB call_isi cd_isi boot_isinstance T.z_isinstance (by rfl) (aal_cons (AE.al (a_ix (AE.al (av 0 rfl)) (AE.al a_int))) (aal_cons (AE.al (a_bty boot_int T.z_int (by rfl))) aal_nil))) (a_and (a_not (a_callB call_isi cd_isi boot_isinstance T.z_isinstance (by rfl) (aal_cons (AE.al (a_ix (AE.al (av 0 rfl)) (AE.al a_int))) (aal_cons (AE.al (a_bty boot_bool T.z_bool (by rfl))) aal_nil)))) (a_one (a_chain op_le od_le op_le od_le (AE.al a_int) (AE.al (a_ix (AE.al (av 0 rfl)) (AE.al a_int))) (AE.al a_int))))) (wk_un rfl) (wk_un rfl) rfl) (ab_ret () () (a_and (a_cmp (op_inA (u65 hr)) od_inA (AE.al (a_ix (AE.al (av 0 rfl)) (AE.al a_int))) (AE.al (AN.ae (a_lst (aa_cons a_str (aa_cons a_str aa_nil))))) (by rfl)) (a_one (a_call d_is_name l_is_name (aa_cons (a_ix (AE.al (av 0 rfl)) (AE.al a_int)) aa_nil) (hr.mono (by decide)) hG tk (by rfl)))) (wk_un rfl) (wk_un rfl) rfl)))) rfl
def m__law_made : List D → R Unit D
  | [a514] => R.tryc (R.out (fun (s521 : Unit) => R.ok .non) Empty.elim Empty.elim (fun d (_ : Unit) => R.ok d)) (R.call (m_Run_of [a514]) () fun x516 => R.ok (TOut.rt x516 ())) mt_InvalidMove (fun y522 => R.lft (xget y522.fs "move") fun x518 => R.lft (reprA [x518]) fun x519 => R.few [x519] fun l520 => R.ok (TOut.rt (.lst l520) ())) ()
  | _ => .no
theorem l__law_made : ∀ ds, m__law_made ds ≠ .no → ds.length = 1 := by
  intro ds h
  unfold m__law_made at h
  split at h
  · rfl
  · exact absurd rfl h
abbrev s__law_made : Stmt := topS 25
theorem sc__law_made : FnScope ["_law_some", "e"] ["_law_some"] (defScope s__law_made) := ⟨rfl, rfl, rfl, by decide +kernel, rfl, by decide +kernel, by decide +kernel⟩
theorem ok__law_made {f : Addr} {fd : FuncData} (F : Fun K "_law_made" "_law_made" s__law_made f fd) (T : Txt P w K mg) (d_Run_of : StatC P w K mg base 5 "Run" "of" none m_Run_of) : FnG P w K mg base (L2.CX P w) 6 f fd ["_law_some"] (spM K (mk0 1) none (Lp m__law_made)) := by
  refine okP F sc__law_made rfl (fun cdv A outer s H E hr hG te tk po ds hl => ?_)
  match ds, hl with
  | [a514], _ => exact AB.eq (ab_try 1 [.un, .un] (S := Unit) (βB := Unit) (fun (s515 : Unit) => [.fz a514, .un]) (fun _ => [.fz a514, .un]) (fun _ => ()) (T.e_InvalidMove.at (by rfl)) te rfl rfl sc__law_made.nd rfl rfl (fun E' pn xe te po => (ab_ret () () (a_stat d_Run_of (ac_pos (aa_cons (av 0 rfl) aa_nil)) (hr.mono (by decide)) hG (fun σ => passAt te σ) (by rfl)) (.k (.d .nil)) (wk_un rfl) rfl)) (fun a d oe C c pn _ g517 hmt hC hz hv => (ab_ret () () (AN.ae (a_lst (aa_cons (a_callB (cr_reprA hG hr.units) cd_reprA boot_repr T.z_repr (by rfl) (aal_cons (AE.al (a_xf 1 T.xf_InvalidMove_move hmt hC hz hv rfl)) aal_nil)) aa_nil))) (wk_un rfl) (wk_un rfl) rfl)) (fun _ => (wk_un rfl)) (fun _ => rfl) (fun z => Empty.elim z) (fun z => Empty.elim z) (fun s521 => (ab_nil () (wk_un rfl) rfl))) rfl
def m__law_pick : List D → R Unit (D × D)
  | [a524, a525] => R.lft (lenG [a525]) fun x532 => R.call1e (m__law_draw [a524, x532]) () fun x530 w533 => R.lft (ixG a525 x530) fun x527 => R.ok (x527, w533)
  | _ => .no
theorem l__law_pick : ∀ o ds, m__law_pick (o :: ds) ≠ .no → ds.length = 1 := by
  intro o ds h
  unfold m__law_pick at h
  split at h
  · rename_i e; cases e; rfl
  · exact absurd rfl h
abbrev s__law_pick : Stmt := topS 22
theorem sc__law_pick : FnScope ["_law_pool_here", "_law_some"] ["_law_pool_here", "_law_some"] (defScope s__law_pick) := ⟨rfl, rfl, rfl, by decide +kernel, rfl, by decide +kernel, by decide +kernel⟩
theorem ok__law_pick {f : Addr} {fd : FuncData} (F : Fun K "_law_pick" "_law_pick" s__law_pick f fd) (T : Txt P w K mg) (d__law_draw : Dfn P w K mg base 1 "_law_draw" (some [] :: mk0 1) none (L1e m__law_draw)) : FnG P w K mg base (L2.CX P w) 2 f fd ["_law_pool_here", "_law_some"] (spM K (some [] :: mk0 1) none (L1e m__law_pick)) := by
  refine okR0 (m := 1) F sc__law_pick rfl rfl (fun cdv A outer s H E hr hG te tk po o ds hl => ?_)
  match ds, hl with
  | [a525], _ =>
    exact AB.eq (ab_retF (tag := (some 0)) (fs := []) (w := o) 0 rfl () (fun w526 => w526) (af_ix (AE.lift (av 1 rfl)) (fun w528 => (af_ref0 d__law_draw l__law_draw (afa_cons (AE.lift (a_callB call_len cd_len PySem.boot_len T.z_len (by rfl) (aal_cons (AE.al (av 1 rfl)) aal_nil))) (fun w531 => (AA.lift aa_nil))) rfl (hr.mono (by decide)) hG tk (by rfl)))) (fun _ => (wk_un rfl)) (fun w526 => (.k (.d .nil))) rfl) rfl
def m__law_numbers : List D → R Unit D
  | [a541, a542, a543] => R.asI (.int 1) fun x544 => R.lft (subG (.int (-x544)) a541) fun x545 => R.lft (max2G [a541, x545]) fun x546 => R.few [] fun l595 => R.lft (lenG [a543]) fun x550 => R.rng1 x550 fun l551 => R.after (R.for' l551 ((x546, (.lst l595)) : D × D) fun d554 s553 => R.bind (R.lft (powG (.int 10) (.int 18)) fun x557 => R.lft (geG x546 x557) fun x558 => R.asB x558 fun b559 => if b559 then R.lft (gtG s553.1 (.int 0)) fun x555 => R.asB x555 fun b556 => R.ok b556 else R.ok false) fun b560 => if b560 then R.asL s553.2 fun l564 => R.lft (ixG a543 d554) fun x561 => R.lft (modG s553.1 x561) fun x562 => R.push l564 x562 fun x563 => R.lft (ixG a543 d554) fun x565 => R.lft (divG s553.1 x565) fun x566 => R.ok (Step.nx ((x566, x563) : D × D)) else R.lft (modG x546 (.int 2147483629)) fun x568 => R.lft (mulG (.int 7919) a542) fun x569 => R.lft (addA x568 x569) fun x570 => R.lft (addA x570 (.int 1)) fun x571 => R.lft (powG x571 (.int 3)) fun x572 => R.lft (modG x572 (.int 2147483647)) fun x573 => R.lft (addA d554 (.int 1)) fun x575 => R.lft (mulG (.int 104729) x575) fun x576 => R.lft (addA x573 x576) fun x577 => R.lft (addA d554 (.int 3)) fun x578 => R.lft (mulG x577 x578) fun x579 => R.lft (modG x579 (.int 2147483629)) fun x580 => R.lft (powG x580 (.int 5)) fun x582 => R.lft (modG x582 (.int 2147483647)) fun x583 => R.lft (mulG x583 (.int 48271)) fun x584 => R.lft (modG x584 (.int 2147483629)) fun x585 => R.asL s553.2 fun l591 => R.lft (divG x585 (.int 16)) fun x587 => R.lft (ixG a543 d554) fun x588 => R.lft (modG x587 x588) fun x589 => R.push l591 x589 fun x590 => R.ok (Step.nx ((s553.1, x590) : D × D))) (fun s592 => R.ok s592.2) fun d594 s593 => R.ok d594
  | _ => .no
theorem l__law_numbers : ∀ ds, m__law_numbers ds ≠ .no → ds.length = 3 := by
  intro ds h
  unfold m__law_numbers at h
  split at h
  · rfl
  · exact absurd rfl h
abbrev s__law_numbers : Stmt := topS 19
theorem sc__law_numbers : FnScope ["_law_cell", "_law_salt", "_law_sizes", "_law_whole", "_law_left", "_law_result", "_law_k", "_law_one"] ["_law_cell", "_law_salt", "_law_sizes"] (defScope s__law_numbers) := ⟨rfl, rfl, rfl, by decide +kernel, rfl, by decide +kernel, by decide +kernel⟩
theorem ok__law_numbers {f : Addr} {fd : FuncData} (F : Fun K "_law_numbers" "_law_numbers" s__law_numbers f fd) (T : Txt P w K mg) : FnG P w K mg base (L2.CX P w) 1 f fd ["_law_cell", "_law_salt", "_law_sizes"] (spM K (mk0 3) none (Lp m__law_numbers)) := by
  refine okP F sc__law_numbers rfl (fun cdv A outer s H E hr hG te tk po ds hl => ?_)
  match ds, hl with
  | [a541, a542, a543], _ => exact AB.eq (ab_set 3 () (a_callB (call_max2 rfl) cd_max2 boot_max T.z_max (by rfl) (aal_cons (AE.al (av 0 rfl)) (aal_cons (AE.al (a_op op_sub od_sub (AE.al (a_neg (AE.al a_int))) (AE.al (av 0 rfl)))) aal_nil))) (wk_un rfl) (fun x547 => (ab_set 4 () (av 3 rfl) (wk_un rfl) (fun x548 => (ab_setO 5 () (a_lst aa_nil) (wk_un rfl) (fun x549 => (ab_for (S := D × D) (own := [6]) (fun (s552 : D × D) => [.fz a541, .fz a542, .fz a543, .fz x547, .fz s552.1, .ow none s552.2 [], .un, .un]) ((x548, x549) : D × D) (fun s593 => ()) () (ai_rng1 T.z_range (by rfl) (AE.al (a_callB call_len cd_len PySem.boot_len T.z_len (by rfl) (aal_cons (AE.al (av 2 rfl)) aal_nil)))) (wk_un rfl) (.k (.k (.k (.k (.k (.k (.d (.d .nil)))))))) (fun s593 => (wk_un rfl)) (fun s553 d554 => (ag_name 6 (ab_ifL () (AW.at (aw_and (at_cmp op_ge od_ge (AE.al (av 3 rfl)) (AE.al (a_op op_pow od_pow (AE.al a_int) (AE.al a_int))) (nomark _)) (aw_and1 (at_cmp op_gt od_gt (AE.al (av 4 rfl)) (AE.al a_int) (nomark _))))) (wk_un rfl) (ab_app (tag := none) (d := s553.2) 5 rfl () (a_op op_mod od_mod (AE.al (av 4 rfl)) (AE.al (a_ix (AE.al (av 2 rfl)) (AE.al (av 6 rfl))))) (wk_un rfl) (fun x563 => (ab_set 4 () (a_op op_fdiv od_div (AE.al (av 4 rfl)) (AE.al (a_ix (AE.al (av 2 rfl)) (AE.al (av 6 rfl))))) (wk_un rfl) (fun x567 => (ab_nil ((x567, x563) : D × D) (.k (.k (.k (.k (.k (.k (.d (.d .nil)))))))) rfl)) sc__law_numbers.nd (by first | exact Or.inl rfl | exact Or.inr rfl)))) (ab_set 7 () (a_op op_mod od_mod (AE.al (a_op op_pow od_pow (AE.al (a_op op_addA od_addA (AE.al (a_op op_addA od_addA (AE.al (a_op op_mod od_mod (AE.al (av 3 rfl)) (AE.al a_int))) (AE.al (a_op op_mul od_mul (AE.al a_int) (AE.al (av 1 rfl)))))) (AE.al a_int))) (AE.al a_int))) (AE.al a_int)) (wk_un rfl) (fun x574 => (ab_set 7 () (a_op op_mod od_mod (AE.al (a_op op_mul od_mul (AE.al (a_op op_addA od_addA (AE.al (av 7 rfl)) (AE.al (a_op op_mul od_mul (AE.al a_int) (AE.al (a_op op_addA od_addA (AE.al (av 6 rfl)) (AE.al a_int))))))) (AE.al (a_op op_addA od_addA (AE.al (av 6 rfl)) (AE.al a_int))))) (AE.al a_int)) (wk_un rfl) (fun x581 => (ab_set 7 () (a_op op_mod od_mod (AE.al (a_op op_mul od_mul (AE.al (a_op op_mod od_mod (AE.al (a_op op_pow od_pow (AE.al (av 7 rfl)) (AE.al a_int))) (AE.al a_int))) (AE.al a_int))) (AE.al a_int)) (wk_un rfl) (fun x586 => (ab_app (tag := none) (d := s553.2) 5 rfl () (a_op op_mod od_mod (AE.al (a_op op_fdiv od_div (AE.al (av 7 rfl)) (AE.al a_int))) (AE.al (a_ix (AE.al (av 2 rfl)) (AE.al (av 6 rfl))))) (wk_un rfl) (fun x590 => (ab_nil ((s553.1, x590) : D × D) (.k (.k (.k (.k (.k (.k (.d (.d .nil)))))))) rfl)))) sc__law_numbers.nd (by first | exact Or.inl rfl | exact Or.inr rfl))) sc__law_numbers.nd (by first | exact Or.inl rfl | exact Or.inr rfl))) sc__law_numbers.nd (by first | exact Or.inl rfl | exact Or.inr rfl))) sc__law_numbers.nd (by first | exact Or.inl rfl | exact Or.inr rfl))) (fun s592 => (ab_frz 5 rfl (ab_ret () () (av 5 rfl) (wk_un rfl) (wk_un rfl) rfl))) rfl po rfl rfl)) sc__law_numbers.nd (by first | exact Or.inl rfl | exact Or.inr rfl))) sc__law_numbers.nd (by first | exact Or.inl rfl | exact Or.inr rfl))) sc__law_numbers.nd (by first | exact Or.inl rfl | exact Or.inr rfl)) rfl
def m__law_pool : List D → R Unit D
  | [a534, a535, a536] => R.few [(.int 420)] fun l539 => R.lft (repG (.lst l539) a536) fun x538 => R.call (m__law_numbers [a534, a535, x538]) () fun x537 => R.few [x537, (.int 0)] fun l540 => R.ok (.lst l540)
  | _ => .no
theorem l__law_pool : ∀ ds, m__law_pool ds ≠ .no → ds.length = 3 := by
  intro ds h
  unfold m__law_pool at h
  split at h
  · rfl
  · exact absurd rfl h
abbrev s__law_pool : Stmt := topS 20
theorem sc__law_pool : FnScope ["_law_cell", "_law_salt", "_law_many"] ["_law_cell", "_law_salt", "_law_many"] (defScope s__law_pool) := ⟨rfl, rfl, rfl, by decide +kernel, rfl, by decide +kernel, by decide +kernel⟩
theorem ok__law_pool {f : Addr} {fd : FuncData} (F : Fun K "_law_pool" "_law_pool" s__law_pool f fd) (T : Txt P w K mg) (d__law_numbers : Dfn P w K mg base 1 "_law_numbers" (mk0 3) none (Lp m__law_numbers)) : FnG P w K mg base (L2.CX P w) 2 f fd ["_law_cell", "_law_salt", "_law_many"] (spM K (mk0 3) (some []) (Lp m__law_pool)) := by
  refine okP F sc__law_pool rfl (fun cdv A outer s H E hr hG te tk po ds hl => ?_)
  match ds, hl with
  | [a534, a535, a536], _ => exact AB.eq (ab_retW () () (a_lst (aa_cons (a_call d__law_numbers l__law_numbers (aa_cons (av 0 rfl) (aa_cons (av 1 rfl) (aa_cons (AN.ae (a_rep (a_lst (aa_cons a_int aa_nil)) (AE.al (av 2 rfl)))) aa_nil))) (hr.mono (by decide)) hG tk (by rfl)) (aa_cons a_int aa_nil))) (wk_un rfl) (wk_un rfl) rfl) rfl
def m__law_wrong : List D → R Unit D
  | [a596] => R.items a596 fun l597 => R.after (R.for' l597 () fun d600 s599 => R.call (m__law_is_move [d600]) () fun x601 => R.asB x601 fun b602 => if (!b602) then R.lft (reprA [d600]) fun x603 => R.few [x603] fun l604 => R.ok (Step.rt (.lst l604) ()) else R.ok (Step.nx ())) (fun s605 => R.few [] fun l606 => R.ok (.lst l606)) fun d608 s607 => R.ok d608
  | _ => .no
theorem l__law_wrong : ∀ ds, m__law_wrong ds ≠ .no → ds.length = 1 := by
  intro ds h
  unfold m__law_wrong at h
  split at h
  · rfl
  · exact absurd rfl h
abbrev s__law_wrong : Stmt := topS 23
theorem sc__law_wrong : FnScope ["_law_some", "_law_move"] ["_law_some"] (defScope s__law_wrong) := ⟨rfl, rfl, rfl, by decide +kernel, rfl, by decide +kernel, by decide +kernel⟩
theorem ok__law_wrong {f : Addr} {fd : FuncData} (F : Fun K "_law_wrong" "_law_wrong" s__law_wrong f fd) (T : Txt P w K mg) (d__law_is_move : Dfn P w K mg base 2 "_law_is_move" (mk0 1) none (Lp m__law_is_move)) : FnG P w K mg base (L2.CX P w) 3 f fd ["_law_some"] (spM K (mk0 1) none (Lp m__law_wrong)) := by
  refine okP F sc__law_wrong rfl (fun cdv A outer s H E hr hG te tk po ds hl => ?_)
  match ds, hl with
  | [a596], _ => exact AB.eq (ab_for (S := Unit) (own := [1]) (fun (s598 : Unit) => [.fz a596, .un]) () (fun s607 => ()) () (ai_items (av 0 rfl)) (wk_un rfl) (.k (.d .nil)) (fun s607 => (wk_un rfl)) (fun s599 d600 => (ag_name 1 (ab_ifL () (at_not (at_val (a_call d__law_is_move l__law_is_move (aa_cons (av 1 rfl) aa_nil) (hr.mono (by decide)) hG tk (by rfl)))) (wk_un rfl) (ab_ret () () (AN.ae (a_lst (aa_cons (a_callB (cr_reprA hG hr.units) cd_reprA boot_repr T.z_repr (by rfl) (aal_cons (AE.al (av 1 rfl)) aal_nil)) aa_nil))) (wk_un rfl) (.k (.d .nil)) rfl) (ab_nil () (.k (.d .nil)) rfl)) sc__law_wrong.nd (by first | exact Or.inl rfl | exact Or.inr rfl))) (fun s605 => (ab_ret () () (AN.ae (a_lst aa_nil)) (wk_un rfl) (wk_un rfl) rfl)) rfl po rfl rfl) rfl
def m_law : List D → R Unit D
  | [a0] => R.asI (.int 6) fun i1 => R.lft (slG a0 none (some i1)) fun x2 => R.few [(.int 7)] fun l172 => R.few [] fun l173 => R.lft (eqG a0 (.lst l173)) fun x3 => R.lft (intG1 [x3]) fun x4 => R.lft (repG (.lst l172) x4) fun x5 => R.lft (addA x2 x5) fun x6 => R.enumA x6 fun l7 => R.after (R.for' l7 () fun d10 s9 => R.tup2 d10 fun x11 x12 => R.lft (addA (.int 1200) x11) fun x14 => R.call (m__law_pool [x12, x14, (.int 80)]) () fun x13 => R.few [(.str "come")] fun l146 => R.few [(.str "step")] fun l147 => R.call1e (m__law_draw [x13, (.int 14)]) () fun x22 w24 => R.few [(.str "go"), x22] fun l25 => R.few [(.str "begin"), (.str "w")] fun l148 => R.few [(.str "run"), (.str "wwwwwwww")] fun l149 => R.few [(.str "come")] fun l150 => R.few [(.tup l146), (.tup l147), (.tup l25), (.tup l148), (.tup l149), (.tup l150)] fun l29 => R.few [(.str "go"), (.int 14)] fun l140 => R.asI (.int 1) fun x31 => R.few [(.str "go"), (.int (-x31))] fun l141 => R.few [(.str "begin"), (.str "")] fun l142 => R.few [(.str "run"), (.int 5)] fun l143 => R.few [(.str "out")] fun l144 => R.few [(.tup l140), (.tup l141), (.tup l142), (.tup l143), (.tup l144), .non] fun l145 => R.few [(.str "come")] fun l135 => R.few [] fun l136 => R.few [(.str "step"), (.int 1)] fun l137 => R.few [(.str "go"), (.bl true)] fun l138 => R.few [(.lst l135), (.tup l136), (.tup l137), (.tup l138)] fun l139 => R.lft (addA (.lst l145) (.lst l139)) fun x33 => R.rng1 (.int 2) fun l59 => R.few l59 fun l78 => R.lst (R.fmapS (fun d60 w61 => R.call1e (m__law_draw [w61, (.int 9)]) () fun x65 w67 => R.rng1 x65 fun l64 => R.few l64 fun l74 => R.lst (R.fmapS (fun d68 w69 => R.call1e (m__law_pick [w69, (.lst l29)]) () fun x70 w72 => R.ok (some x70, w72)) l74 w67) fun x75 w76 => R.lft (tupleG [x75]) fun x62 => R.ok (some x62, w76)) l78 w24) fun x79 w80 => R.lft (ixG x79 (.int 0)) fun x83 => R.lft (ixG x79 (.int 1)) fun x82 => R.call (m__law_both_right [x83, x82]) () fun x81 => R.asB x81 fun b84 => if (!b84) then R.ok (Step.rt (.bl false) ()) else R.lft (ixG x79 (.int 0)) fun x88 => R.lft (lenG [x88]) fun x89 => R.lft (addA x89 (.int 1)) fun x90 => R.call1e (m__law_draw [w80, x90]) () fun x86 w91 => R.lft (ixG x79 (.int 0)) fun x100 => R.asI x86 fun i101 => R.lft (slG x100 none (some i101)) fun x102 => R.call1e (m__law_pick [w91, x33]) () fun x104 w106 => R.few [x104] fun l107 => R.lft (addA x102 (.tup l107)) fun x98 => R.lft (ixG x79 (.int 0)) fun x108 => R.asI x86 fun i109 => R.lft (slG x108 (some i109) none) fun x110 => R.lft (addA x98 x110) fun x96 => R.few [.non] fun l134 => R.lft (addA x96 (.tup l134)) fun x94 => R.bind (R.call (m__law_made [x94]) () fun x117 => R.call (m__law_wrong [x94]) () fun x118 => R.lft (neG x117 x118) fun x119 => R.asB x119 fun b120 => if b120 then R.ok true else R.make (m_Run___init__ [(.obj "Run" [])]) () fun x113 => R.call (m__law_sum [x113, x94]) () fun x112 => R.call (m__law_wrong [x94]) () fun x114 => R.lft (neG x112 x114) fun x115 => R.asB x115 fun b116 => R.ok b116) fun b121 => if b121 then R.ok (Step.rt (.bl false) ()) else R.lft (addA (.lst l29) x33) fun x122 => R.items x122 fun l123 => R.few l123 fun l131 => R.lst (R.fmapS (fun d124 _ => R.call (m_is_move [d124]) () fun x125 => R.call (m__law_is_move [d124]) () fun x126 => R.lft (neG x125 x126) fun x127 => R.asB x127 fun b128 => if b128 then R.ok (some d124, ()) else R.ok (none, ())) l131 ()) fun x132 _ => R.few [] fun l133 => R.lft (neG x132 (.lst l133)) fun x129 => R.asB x129 fun b130 => if b130 then R.ok (Step.rt (.bl false) ()) else R.ok (Step.nx ())) (fun s151 => R.bind (R.make (m_Run___init__ [(.obj "Run" [])]) () fun x159 => R.len mt___len__ x159 fun x160 => R.lft (eqG x160 (.int 0)) fun x161 => R.asB x161 fun b163 => if b163 then R.bind (R.few [(.str "come")] fun l164 => R.few [(.str "step")] fun l165 => R.make (m_Run___init__ [(.obj "Run" []), (.tup l164), (.tup l165)]) () fun x154 => R.few [(.str "come")] fun l166 => R.few [(.str "step")] fun l167 => R.few [(.tup l166), (.tup l167)] fun l168 => R.call (m_Run_of [(.lst l168)]) () fun x155 => R.eqO mt___eq__ sb_eq false () x154 x155 fun x156 => R.asB x156 fun b158 => if b158 then R.make (m_Run___init__ [(.obj "Run" [])]) () fun x152 => R.few [] fun l169 => R.eqO mt___eq__ sb_eq true () x152 (.tup l169) fun x153 => R.ok x153 else R.ok (.bl false)) fun x157 => R.ok x157 else R.ok (.bl false)) fun x162 => R.ok x162) fun d171 s170 => R.ok d171
  | _ => .no
theorem l_law : ∀ ds, m_law ds ≠ .no → ds.length = 1 := by
  intro ds h
  unfold m_law at h
  split at h
  · rfl
  · exact absurd rfl h
abbrev s_law : Stmt := topS 30
theorem sc_law : FnScope ["_law_script", "_law_k", "_law_cell", "_law_pool_here", "_law_good", "_law_odd", "_law_some", "_law_at", "_law_spoilt", "_law_again", "_law_turn", "_law_move"] ["_law_script"] (defScope s_law) := ⟨rfl, rfl, rfl, by decide +kernel, rfl, by decide +kernel, by decide +kernel⟩
theorem ok_law {f : Addr} {fd : FuncData} (F : Fun K "law" "law" s_law f fd) (T : Txt P w K mg) (d_Run : MakeC P w K mg base 3 "Run" [] m_Run___init__) (d_m___eq__ : ∀ C mf, mt___eq__ C = some mf → MethC P w K mg base 1 C "__eq__" none mf) (d_m___len__ : ∀ C mf, mt___len__ C = some mf → MethC P w K mg base 1 C "__len__" none mf) (d_Run_of : StatC P w K mg base 5 "Run" "of" none m_Run_of) (d__law_both_right : Dfn P w K mg base 8 "_law_both_right" (mk0 2) none (Lp m__law_both_right)) (d__law_draw : Dfn P w K mg base 1 "_law_draw" (some [] :: mk0 1) none (L1e m__law_draw)) (d__law_is_move : Dfn P w K mg base 2 "_law_is_move" (mk0 1) none (Lp m__law_is_move)) (d__law_made : Dfn P w K mg base 6 "_law_made" (mk0 1) none (Lp m__law_made)) (d__law_pick : Dfn P w K mg base 2 "_law_pick" (some [] :: mk0 1) none (L1e m__law_pick)) (d__law_pool : Dfn P w K mg base 2 "_law_pool" (mk0 3) (some []) (Lp m__law_pool)) (d__law_sum : Dfn P w K mg base 7 "_law_sum" (mk0 2) none (Lp m__law_sum)) (d__law_wrong : Dfn P w K mg base 3 "_law_wrong" (mk0 1) none (Lp m__law_wrong)) (d_is_move : Dfn P w K mg base 2 "is_move" (mk0 1) none (Lp m_is_move)) : FnG P w K mg base (L2.CX P w) 9 f fd ["_law_script"] (spM K (mk0 1) none (Lp m_law)) := by
  refine okP F sc_law rfl (fun cdv A outer s H E hr hG te tk po ds hl => ?_)
  match ds, hl with
  | [a0], _ => exact AB.eq (ab_for (S := Unit) (own := [1, 2]) (fun (s8 : Unit) => [.fz a0, .un, .un, .un, .un, .un, .un, .un, .un, .un, .un, .un]) () (fun s170 => ()) () (ai_enumA T.z_enumerate (by rfl) (a_op op_addA od_addA (AE.al (a_sl (AE.al (av 0 rfl)) ao_none (ao_some (AE.al a_int)))) (AE.al (AN.ae (a_rep (a_lst (aa_cons a_int aa_nil)) (AE.al (a_callT call_int1 cd_int boot_int T.z_int (by rfl) (aal_cons (AE.al (a_cmp (op_eqA hr.units) od_eq (AE.al (av 0 rfl)) (AE.al (AN.ae (a_lst aa_nil))) (nomark _))) aal_nil)))))))) (wk_un rfl) (.k (.d (.d (.d (.d (.d (.d (.d (.d (.d (.d (.d .nil)))))))))))) (fun s170 => (wk_un rfl)) (fun s9 d10 => (ag_tup2 rfl (fun x11 x12 => (ags_cons (ag_name 1 (ags_cons (ag_name 2 (ags_nil (ab_setO 3 () (a_callW d__law_pool l__law_pool (aa_cons (av 2 rfl) (aa_cons (a_op op_addA od_addA (AE.al a_int) (AE.al (av 1 rfl))) (aa_cons a_int aa_nil))) (hr.mono (by decide)) hG tk (by rfl)) (wk_un rfl) (fun x15 => (ab_setF (tag := none) (fs := []) (w := x15) 3 4 rfl () (af_lst (afa_cons (AE.lift (a_tup (aa_cons a_str aa_nil))) (fun w17 => (afa_cons (AE.lift (a_tup (aa_cons a_str aa_nil))) (fun w18 => (afa_cons (af_tup (afa_cons (AE.lift a_str) (fun w20 => (afa_cons (af_ref0 d__law_draw l__law_draw (afa_cons (AE.lift a_int) (fun w23 => (AA.lift aa_nil))) rfl (hr.mono (by decide)) hG tk (by rfl)) (fun w21 => (AA.lift aa_nil)))))) (fun w19 => (afa_cons (AE.lift (a_tup (aa_cons a_str (aa_cons a_str aa_nil)))) (fun w26 => (afa_cons (AE.lift (a_tup (aa_cons a_str (aa_cons a_str aa_nil)))) (fun w27 => (afa_cons (AE.lift (a_tup (aa_cons a_str aa_nil))) (fun w28 => (AA.lift aa_nil)))))))))))))) (fun _ => (wk_un rfl)) (fun x30 w16 => (ab_set 5 () (AN.ae (a_lst (aa_cons (a_tup (aa_cons a_str (aa_cons a_int aa_nil))) (aa_cons (a_tup (aa_cons a_str (aa_cons (a_neg (AE.al a_int)) aa_nil))) (aa_cons (a_tup (aa_cons a_str (aa_cons a_str aa_nil))) (aa_cons (a_tup (aa_cons a_str (aa_cons a_int aa_nil))) (aa_cons (a_tup (aa_cons a_str aa_nil)) (aa_cons a_non aa_nil)))))))) (wk_un rfl) (fun x32 => (ab_set 5 () (a_op op_addA od_addA (AE.al (av 5 rfl)) (AE.al (AN.ae (a_lst (aa_cons (AN.ae (a_lst (aa_cons a_str aa_nil))) (aa_cons (a_tup aa_nil) (aa_cons (a_tup (aa_cons a_str (aa_cons a_int aa_nil))) (aa_cons (a_tup (aa_cons a_str (aa_cons a_bl aa_nil))) aa_nil)))))))) (wk_un rfl) (fun x34 => (ab_setLcF (tag := none) (fs := []) (w := w16) (i := 3) 6 rfl [("_law_again", 9)] () (AI.lift (ai_rng1 T.z_range (by rfl) (AE.al a_int))) (fun _ => (wk_un rfl)) (fun _ w61 d60 => (ag_name 9 (ael_f2 (tag := none) (fs := []) (w := w61) 3 rfl (fun _ => (af_callT call_tupleZ cd_tuple boot_tuple T.z_tuple (by rfl) (afa_cons (af_lc [("_law_turn", 10)] (afi_rng1 T.z_range (by rfl) (af_ref0 d__law_draw l__law_draw (afa_cons (AE.lift a_int) (fun w66 => (AA.lift aa_nil))) rfl (hr.mono (by decide)) hG tk0 (by rfl))) (fun _ w69 d68 => (ag_name 10 (ael_f2 (tag := none) (fs := []) (w := w69) 3 rfl (fun _ => (af_ref0 d__law_pick l__law_pick (afa_cons (AE.lift (av 4 rfl)) (fun w71 => (AA.lift aa_nil))) rfl (hr.mono (by decide)) hG tk0 (by rfl))) (fun w73 => (.k (.k (.k (.k (.k (.k (.d (.d (.d (.k (.d (.d .nil)))))))))))))) sc_law.nd (by first | exact Or.inl rfl | exact Or.inr rfl))) rfl sc_law.nd (by exact blkOk_by (by rfl)) (fun _ => (hu_cons rfl hu_nil))) (fun w63 => (AA.lift aa_nil))))) (fun w77 => (.k (.k (.k (.k (.k (.k (.d (.d (.d (.d (.d (.d .nil)))))))))))))) sc_law.nd (by first | exact Or.inl rfl | exact Or.inr rfl))) (fun x58 w35 => (ab_ifT () (at_not (at_val (a_call d__law_both_right l__law_both_right (aa_cons (a_ix (AE.al (av 6 rfl)) (AE.al a_int)) (aa_cons (a_ix (AE.al (av 6 rfl)) (AE.al a_int)) aa_nil)) (hr.mono (by decide)) hG tk (by rfl)))) (wk_un rfl) (ab_ret () () a_bl (wk_un rfl) (.k (.d (.d (.d (.d (.d (.d (.d (.d (.d (.d (.d .nil)))))))))))) rfl) (ab_setF (tag := none) (fs := []) (w := w35) 3 7 rfl () (af_ref0 d__law_draw l__law_draw (afa_cons (AE.lift (a_op op_addA od_addA (AE.al (a_callB call_len cd_len PySem.boot_len T.z_len (by rfl) (aal_cons (AE.al (a_ix (AE.al (av 6 rfl)) (AE.al a_int))) aal_nil))) (AE.al a_int))) (fun w87 => (AA.lift aa_nil))) rfl (hr.mono (by decide)) hG tk (by rfl)) (fun _ => (wk_un rfl)) (fun x92 w85 => (ab_setF (tag := none) (fs := []) (w := w85) 3 8 rfl () (af_op op_addA od_addA (af_op op_addA od_addA (af_op op_addA od_addA (AE.lift (a_sl (AE.al (a_ix (AE.al (av 6 rfl)) (AE.al a_int))) ao_none (ao_some (AE.al (av 7 rfl))))) (fun w99 => (af_tup (afa_cons (af_ref0 d__law_pick l__law_pick (afa_cons (AE.lift (av 5 rfl)) (fun w105 => (AA.lift aa_nil))) rfl (hr.mono (by decide)) hG tk (by rfl)) (fun w103 => (AA.lift aa_nil)))))) (fun w97 => (AE.lift (a_sl (AE.al (a_ix (AE.al (av 6 rfl)) (AE.al a_int))) (ao_some (AE.al (av 7 rfl))) ao_none)))) (fun w95 => (AE.lift (a_tup (aa_cons a_non aa_nil))))) (fun _ => (wk_un rfl)) (fun x111 w93 => (ab_ifT () (AW.at (aw_or (at_cmp (op_neA hr.units) od_ne (AE.al (a_call d__law_made l__law_made (aa_cons (av 8 rfl) aa_nil) (hr.mono (by decide)) hG tk (by rfl))) (AE.al (a_call d__law_wrong l__law_wrong (aa_cons (av 8 rfl) aa_nil) (hr.mono (by decide)) hG tk (by rfl))) (nomark _)) (aw_or1 (at_cmp (op_neA hr.units) od_ne (AE.al (a_call d__law_sum l__law_sum (aa_cons (AN.ae (a_make d_Run ac_nil (hr.mono (by decide)) hG tk (by rfl))) (aa_cons (av 8 rfl) aa_nil)) (hr.mono (by decide)) hG tk (by rfl))) (AE.al (a_call d__law_wrong l__law_wrong (aa_cons (av 8 rfl) aa_nil) (hr.mono (by decide)) hG tk (by rfl))) (nomark _))))) (wk_un rfl) (ab_ret () () a_bl (wk_un rfl) (.k (.d (.d (.d (.d (.d (.d (.d (.d (.d (.d (.d .nil)))))))))))) rfl) (ab_ifL () (at_cmp (op_neA hr.units) od_ne (AE.al (AN.ae (a_lc [("_law_move", 11)] (ai_items (a_op op_addA od_addA (AE.al (av 4 rfl)) (AE.al (av 5 rfl)))) (fun _ _ d124 => (ag_name 11 (ael_if () (fun _ => (at_cmp (op_neA hr.units) od_ne (AE.al (a_call d_is_move l_is_move (aa_cons (av 11 rfl) aa_nil) (hr.mono (by decide)) hG tk0 (by rfl))) (AE.al (a_call d__law_is_move l__law_is_move (aa_cons (av 11 rfl) aa_nil) (hr.mono (by decide)) hG tk0 (by rfl))) (nomark _))) (fun _ => (av 11 rfl)) (.k (.k (.k (.k (.k (.k (.k (.k (.k (.d (.d (.d .nil)))))))))))) rfl) sc_law.nd (by first | exact Or.inl rfl | exact Or.inr rfl))) rfl sc_law.nd (blkOk_by (N := ["_law_script", "_law_k", "_law_cell", "_law_pool_here", "_law_good", "_law_odd", "_law_some", "_law_at", "_law_spoilt", "_law_again", "_law_turn", "_law_move"]) (sc := defScope s_law) (by decide +kernel)) (hu_cons rfl hu_nil)))) (AE.al (AN.ae (a_lst aa_nil))) (nomark _)) (wk_un rfl) (ab_ret () () a_bl (wk_un rfl) (.k (.d (.d (.d (.d (.d (.d (.d (.d (.d (.d (.d .nil)))))))))))) rfl) (ab_nil () (.k (.d (.d (.d (.d (.d (.d (.d (.d (.d (.d (.d .nil)))))))))))) rfl)))) sc_law.nd (by first | exact Or.inl rfl | exact Or.inr rfl))) sc_law.nd (by first | exact Or.inl rfl | exact Or.inr rfl)))) rfl sc_law.nd (blkOk_by (N := ["_law_script", "_law_k", "_law_cell", "_law_pool_here", "_law_good", "_law_odd", "_law_some", "_law_at", "_law_spoilt", "_law_again", "_law_turn", "_law_move"]) (sc := defScope s_law) (by decide +kernel)) (fun _ => (hu_cons rfl hu_nil)) rfl (sw_true rfl rfl rfl (by decide +kernel)))) sc_law.nd (by first | exact Or.inl rfl | exact Or.inr rfl))) sc_law.nd (by first | exact Or.inl rfl | exact Or.inr rfl))) sc_law.nd (by first | exact Or.inl rfl | exact Or.inr rfl))) sc_law.nd (by first | exact Or.inl rfl | exact Or.inr rfl))) sc_law.nd (by first | exact Or.inl rfl | exact Or.inr rfl))) sc_law.nd (by first | exact Or.inl rfl | exact Or.inr rfl)))))) (fun s151 => (ab_ret () () (a_and (a_cmp (op_eqA hr.units) od_eq (AE.al (a_lenO d_m___len__ T.z_len (by rfl) (AN.ae (a_make d_Run ac_nil (hr.mono (by decide)) hG tk (by rfl))) (hr.mono (by decide)) hG)) (AE.al a_int) (nomark _)) (a_and (a_cmpS (op_eqO (hr.mono (by decide)) hG tk (u_lt hr.units) (hr.mono (by decide))) (oc_eqO d_m___eq__ T.q_eq) (AN.ae (a_make d_Run (ac_pos (aa_cons (a_tup (aa_cons a_str aa_nil)) (aa_cons (a_tup (aa_cons a_str aa_nil)) aa_nil))) (hr.mono (by decide)) hG tk (by rfl))) (a_stat d_Run_of (ac_pos (aa_cons (AN.ae (a_lst (aa_cons (a_tup (aa_cons a_str aa_nil)) (aa_cons (a_tup (aa_cons a_str aa_nil)) aa_nil)))) aa_nil)) (hr.mono (by decide)) hG tk (by rfl)) (nomark _)) (a_one (a_cmpS (op_neO (hr.mono (by decide)) hG tk (u_lt1 hr.units) (hr.mono (by decide))) (oc_eqO d_m___eq__ T.q_eq) (AN.ae (a_make d_Run ac_nil (hr.mono (by decide)) hG tk (by rfl))) (a_tup aa_nil) (nomark _))))) (wk_un rfl) (wk_un rfl) rfl)) rfl po rfl rfl) rfl
end
end K12

namespace K12
open PySem PySem.Spec PyProof.Rows L2 DL DM NdefX
theorem all_mk {l : PySem.W.OpenLaw} {w : World} {K : PySem.W.Frag} {h : Heap} {mg : Str → Option Value} {fa : Addr} {c_Run : Addr} {f_Run___eq__ : Addr} {od_Run___eq__ an_Run___eq__ : Option Addr} {sl_Run___eq__ : Array (Option Value)} {oc_Run___eq__ kV_Run___eq__ dc_Run___eq__ pm_Run___eq__ cd_Run___eq__ ct_Run___eq__ : Value} {f_Run___len__ : Addr} {od_Run___len__ an_Run___len__ : Option Addr} {sl_Run___len__ : Array (Option Value)} {oc_Run___len__ kV_Run___len__ dc_Run___len__ pm_Run___len__ cd_Run___len__ ct_Run___len__ : Value} {f_is_integer : Addr} {od_is_integer an_is_integer : Option Addr} {sl_is_integer : Array (Option Value)} {oc_is_integer kV_is_integer dc_is_integer pm_is_integer cd_is_integer ct_is_integer : Value} {f_is_name : Addr} {od_is_name an_is_name : Option Addr} {sl_is_name : Array (Option Value)} {oc_is_name kV_is_name dc_is_name pm_is_name cd_is_name ct_is_name : Value} {f_is_move : Addr} {od_is_move an_is_move : Option Addr} {sl_is_move : Array (Option Value)} {oc_is_move kV_is_move dc_is_move pm_is_move cd_is_move ct_is_move : Value} {f_Run___init__ : Addr} {od_Run___init__ an_Run___init__ : Option Addr} {sl_Run___init__ : Array (Option Value)} {oc_Run___init__ kV_Run___init__ dc_Run___init__ pm_Run___init__ cd_Run___init__ ct_Run___init__ : Value} {f_Run_of : Addr} {Hp_Run_of : Addr} {Hrs_Run_of : List Value} {od_Run_of an_Run_of : Option Addr} {sl_Run_of : Array (Option Value)} {oc_Run_of kV_Run_of dc_Run_of pm_Run_of cd_Run_of ct_Run_of : Value} {f_Run_moves_of : Addr} {od_Run_moves_of an_Run_moves_of : Option Addr} {sl_Run_moves_of : Array (Option Value)} {oc_Run_moves_of kV_Run_moves_of dc_Run_moves_of pm_Run_moves_of cd_Run_moves_of ct_Run_moves_of : Value} {f_Run___add__ : Addr} {od_Run___add__ an_Run___add__ : Option Addr} {sl_Run___add__ : Array (Option Value)} {oc_Run___add__ kV_Run___add__ dc_Run___add__ pm_Run___add__ cd_Run___add__ ct_Run___add__ : Value} {f_Run___radd__ : Addr} {od_Run___radd__ an_Run___radd__ : Option Addr} {sl_Run___radd__ : Array (Option Value)} {oc_Run___radd__ kV_Run___radd__ dc_Run___radd__ pm_Run___radd__ cd_Run___radd__ ct_Run___radd__ : Value} {f_Run___contains__ : Addr} {od_Run___contains__ an_Run___contains__ : Option Addr} {sl_Run___contains__ : Array (Option Value)} {oc_Run___contains__ kV_Run___contains__ dc_Run___contains__ pm_Run___contains__ cd_Run___contains__ ct_Run___contains__ : Value} {f_Run___getitem__ : Addr} {od_Run___getitem__ an_Run___getitem__ : Option Addr} {sl_Run___getitem__ : Array (Option Value)} {oc_Run___getitem__ kV_Run___getitem__ dc_Run___getitem__ pm_Run___getitem__ cd_Run___getitem__ ct_Run___getitem__ : Value} {f_Run_listed : Addr} {od_Run_listed an_Run_listed : Option Addr} {sl_Run_listed : Array (Option Value)} {oc_Run_listed kV_Run_listed dc_Run_listed pm_Run_listed cd_Run_listed ct_Run_listed : Value} {f_Run_hands : Addr} {Hp_Run_hands : Addr} {Hrs_Run_hands : List Value} {od_Run_hands an_Run_hands : Option Addr} {sl_Run_hands : Array (Option Value)} {oc_Run_hands kV_Run_hands dc_Run_hands pm_Run_hands cd_Run_hands ct_Run_hands : Value} {f__law_index_refused : Addr} {od__law_index_refused an__law_index_refused : Option Addr} {sl__law_index_refused : Array (Option Value)} {oc__law_index_refused kV__law_index_refused dc__law_index_refused pm__law_index_refused cd__law_index_refused ct__law_index_refused : Value} {f__law_basic : Addr} {od__law_basic an__law_basic : Option Addr} {sl__law_basic : Array (Option Value)} {oc__law_basic kV__law_basic dc__law_basic pm__law_basic cd__law_basic ct__law_basic : Value} {f__law_sum : Addr} {od__law_sum an__law_sum : Option Addr} {sl__law_sum : Array (Option Value)} {oc__law_sum kV__law_sum dc__law_sum pm__law_sum cd__law_sum ct__law_sum : Value} {f__law_both_right : Addr} {od__law_both_right an__law_both_right : Option Addr} {sl__law_both_right : Array (Option Value)} {oc__law_both_right kV__law_both_right dc__law_both_right pm__law_both_right cd__law_both_right ct__law_both_right : Value} {f__law_draw : Addr} {od__law_draw an__law_draw : Option Addr} {sl__law_draw : Array (Option Value)} {oc__law_draw kV__law_draw dc__law_draw pm__law_draw cd__law_draw ct__law_draw : Value} {f__law_is_move : Addr} {od__law_is_move an__law_is_move : Option Addr} {sl__law_is_move : Array (Option Value)} {oc__law_is_move kV__law_is_move dc__law_is_move pm__law_is_move cd__law_is_move ct__law_is_move : Value} {f__law_made : Addr} {od__law_made an__law_made : Option Addr} {sl__law_made : Array (Option Value)} {oc__law_made kV__law_made dc__law_made pm__law_made cd__law_made ct__law_made : Value} {f__law_pick : Addr} {od__law_pick an__law_pick : Option Addr} {sl__law_pick : Array (Option Value)} {oc__law_pick kV__law_pick dc__law_pick pm__law_pick cd__law_pick ct__law_pick : Value} {f__law_numbers : Addr} {od__law_numbers an__law_numbers : Option Addr} {sl__law_numbers : Array (Option Value)} {oc__law_numbers kV__law_numbers dc__law_numbers pm__law_numbers cd__law_numbers ct__law_numbers : Value} {f__law_pool : Addr} {od__law_pool an__law_pool : Option Addr} {sl__law_pool : Array (Option Value)} {oc__law_pool kV__law_pool dc__law_pool pm__law_pool cd__law_pool ct__law_pool : Value} {f__law_wrong : Addr} {od__law_wrong an__law_wrong : Option Addr} {sl__law_wrong : Array (Option Value)} {oc__law_wrong kV__law_wrong dc__law_wrong pm__law_wrong cd__law_wrong ct__law_wrong : Value} {f_law : Addr} {od_law an_law : Option Addr} {sl_law : Array (Option Value)} {oc_law kV_law dc_law pm_law cd_law ct_law : Value} {Hu_BEGIN : Value} {Hu_COME : Value} {Hu_GO : Value} {Hu_LETTERS : Value} {Hu_MOST_LETTERS : Value} {Hu_RUN : Value} {Hu_STEP : Value} (X : K.In h) (G : h.Ns mainGlobals mg) (hfa : mg "law" = some (.ref fa)) 
    (Ha_Run : PySem.W.nsIn K mainGlobals "Run" = some (some (.ref c_Run)))
    (Hpg_Run : PySem.W.plainGet K c_Run Str.empty = true)
    (Hhd_Run : PySem.W.hasDictIn K c_Run = true)
    (Hpo_Run : PySem.W.plainOver K c_Run = true)
    (Hsa_Run : PySem.W.findIn K (.ref c_Run) "__setattr__" = some (some (.builtin "object.__setattr__")))
    (Hn_Run_own_moves : PySem.W.findIn K (.ref c_Run) "own_moves" = some none)
    (Hm_Run___eq__ : PySem.W.findIn K (.ref c_Run) "__eq__" = some (some (.ref f_Run___eq__)))
    (Hi_Run___eq__ : PySem.W.isFn K (.ref f_Run___eq__) = true)
    (Hl_Run___eq__ : K.lookup f_Run___eq__ = some ⟨oc_Run___eq__, od_Run___eq__, .func (PySem.W.fnOf "__eq__" "Run.__eq__" (defArgs s_Run___eq__) (defBody s_Run___eq__) (defScope s_Run___eq__) .none kV_Run___eq__ dc_Run___eq__ pm_Run___eq__ an_Run___eq__ cd_Run___eq__ ct_Run___eq__), sl_Run___eq__⟩)
    (Hc_Run___eq__ : PySem.W.codeIn K cd_Run___eq__ "Run.__eq__" = true)
    (Hk_Run___eq__ : PySem.W.keepIn K (.ref f_Run___eq__) = true)
    (Hm_Run___len__ : PySem.W.findIn K (.ref c_Run) "__len__" = some (some (.ref f_Run___len__)))
    (Hi_Run___len__ : PySem.W.isFn K (.ref f_Run___len__) = true)
    (Hl_Run___len__ : K.lookup f_Run___len__ = some ⟨oc_Run___len__, od_Run___len__, .func (PySem.W.fnOf "__len__" "Run.__len__" (defArgs s_Run___len__) (defBody s_Run___len__) (defScope s_Run___len__) .none kV_Run___len__ dc_Run___len__ pm_Run___len__ an_Run___len__ cd_Run___len__ ct_Run___len__), sl_Run___len__⟩)
    (Hc_Run___len__ : PySem.W.codeIn K cd_Run___len__ "Run.__len__" = true)
    (Hk_Run___len__ : PySem.W.keepIn K (.ref f_Run___len__) = true)
    (Ha_is_integer : PySem.W.nsIn K mainGlobals "is_integer" = some (some (.ref f_is_integer)))
    (Hl_is_integer : K.lookup f_is_integer = some ⟨oc_is_integer, od_is_integer, .func (PySem.W.fnOf "is_integer" "is_integer" (defArgs s_is_integer) (defBody s_is_integer) (defScope s_is_integer) .none kV_is_integer dc_is_integer pm_is_integer an_is_integer cd_is_integer ct_is_integer), sl_is_integer⟩)
    (Hc_is_integer : PySem.W.codeIn K cd_is_integer "is_integer" = true)
    (Hk_is_integer : PySem.W.keepIn K (.ref f_is_integer) = true)
    (Ha_is_name : PySem.W.nsIn K mainGlobals "is_name" = some (some (.ref f_is_name)))
    (Hl_is_name : K.lookup f_is_name = some ⟨oc_is_name, od_is_name, .func (PySem.W.fnOf "is_name" "is_name" (defArgs s_is_name) (defBody s_is_name) (defScope s_is_name) .none kV_is_name dc_is_name pm_is_name an_is_name cd_is_name ct_is_name), sl_is_name⟩)
    (Hc_is_name : PySem.W.codeIn K cd_is_name "is_name" = true)
    (Hk_is_name : PySem.W.keepIn K (.ref f_is_name) = true)
    (Ha_is_move : PySem.W.nsIn K mainGlobals "is_move" = some (some (.ref f_is_move)))
    (Hl_is_move : K.lookup f_is_move = some ⟨oc_is_move, od_is_move, .func (PySem.W.fnOf "is_move" "is_move" (defArgs s_is_move) (defBody s_is_move) (defScope s_is_move) .none kV_is_move dc_is_move pm_is_move an_is_move cd_is_move ct_is_move), sl_is_move⟩)
    (Hc_is_move : PySem.W.codeIn K cd_is_move "is_move" = true)
    (Hk_is_move : PySem.W.keepIn K (.ref f_is_move) = true)
    (Hm_Run___init__ : PySem.W.findIn K (.ref c_Run) "__init__" = some (some (.ref f_Run___init__)))
    (Hi_Run___init__ : PySem.W.isFn K (.ref f_Run___init__) = true)
    (Hmk_Run : PySem.W.makesIn K c_Run = true)
    (Hkc_Run : PySem.W.keepIn K (.ref c_Run) = true)
    (Hl_Run___init__ : K.lookup f_Run___init__ = some ⟨oc_Run___init__, od_Run___init__, .func (PySem.W.fnOf "__init__" "Run.__init__" (defArgs s_Run___init__) (defBody s_Run___init__) (defScope s_Run___init__) .none kV_Run___init__ dc_Run___init__ pm_Run___init__ an_Run___init__ cd_Run___init__ ct_Run___init__), sl_Run___init__⟩)
    (Hc_Run___init__ : PySem.W.codeIn K cd_Run___init__ "Run.__init__" = true)
    (Hk_Run___init__ : PySem.W.keepIn K (.ref f_Run___init__) = true)
    (Hrd_Run_of : PySem.W.readsIn K c_Run (.type "type") = true)
    (Hga_Run_of : PySem.W.specialIn K (.ref c_Run) "__getattribute__" = some (some (.builtin "type.__getattribute__")))
    (Hat_Run_of : PySem.W.findCls K (.ref c_Run) (.type "type") "of" = some (.get (.builtin "staticmethod.__get__") (.ref Hp_Run_of) .none (.ref c_Run)))
    (Hrc_Run_of : PySem.W.recIn K Hp_Run_of "staticmethod" = some (.ref f_Run_of :: Hrs_Run_of))
    (Hl_Run_of : K.lookup f_Run_of = some ⟨oc_Run_of, od_Run_of, .func (PySem.W.fnOf "of" "Run.of" (defArgs s_Run_of) (defBody s_Run_of) (defScope s_Run_of) .none kV_Run_of dc_Run_of pm_Run_of an_Run_of cd_Run_of ct_Run_of), sl_Run_of⟩)
    (Hc_Run_of : PySem.W.codeIn K cd_Run_of "Run.of" = true)
    (Hk_Run_of : PySem.W.keepIn K (.ref f_Run_of) = true)
    (Hm_Run_moves_of : PySem.W.findIn K (.ref c_Run) "moves_of" = some (some (.ref f_Run_moves_of)))
    (Hi_Run_moves_of : PySem.W.isFn K (.ref f_Run_moves_of) = true)
    (Hl_Run_moves_of : K.lookup f_Run_moves_of = some ⟨oc_Run_moves_of, od_Run_moves_of, .func (PySem.W.fnOf "moves_of" "Run.moves_of" (defArgs s_Run_moves_of) (defBody s_Run_moves_of) (defScope s_Run_moves_of) .none kV_Run_moves_of dc_Run_moves_of pm_Run_moves_of an_Run_moves_of cd_Run_moves_of ct_Run_moves_of), sl_Run_moves_of⟩)
    (Hc_Run_moves_of : PySem.W.codeIn K cd_Run_moves_of "Run.moves_of" = true)
    (Hk_Run_moves_of : PySem.W.keepIn K (.ref f_Run_moves_of) = true)
    (Hm_Run___add__ : PySem.W.findIn K (.ref c_Run) "__add__" = some (some (.ref f_Run___add__)))
    (Hi_Run___add__ : PySem.W.isFn K (.ref f_Run___add__) = true)
    (Hl_Run___add__ : K.lookup f_Run___add__ = some ⟨oc_Run___add__, od_Run___add__, .func (PySem.W.fnOf "__add__" "Run.__add__" (defArgs s_Run___add__) (defBody s_Run___add__) (defScope s_Run___add__) .none kV_Run___add__ dc_Run___add__ pm_Run___add__ an_Run___add__ cd_Run___add__ ct_Run___add__), sl_Run___add__⟩)
    (Hc_Run___add__ : PySem.W.codeIn K cd_Run___add__ "Run.__add__" = true)
    (Hk_Run___add__ : PySem.W.keepIn K (.ref f_Run___add__) = true)
    (Hm_Run___radd__ : PySem.W.findIn K (.ref c_Run) "__radd__" = some (some (.ref f_Run___radd__)))
    (Hi_Run___radd__ : PySem.W.isFn K (.ref f_Run___radd__) = true)
    (Hl_Run___radd__ : K.lookup f_Run___radd__ = some ⟨oc_Run___radd__, od_Run___radd__, .func (PySem.W.fnOf "__radd__" "Run.__radd__" (defArgs s_Run___radd__) (defBody s_Run___radd__) (defScope s_Run___radd__) .none kV_Run___radd__ dc_Run___radd__ pm_Run___radd__ an_Run___radd__ cd_Run___radd__ ct_Run___radd__), sl_Run___radd__⟩)
    (Hc_Run___radd__ : PySem.W.codeIn K cd_Run___radd__ "Run.__radd__" = true)
    (Hk_Run___radd__ : PySem.W.keepIn K (.ref f_Run___radd__) = true)
    (Hm_Run___contains__ : PySem.W.findIn K (.ref c_Run) "__contains__" = some (some (.ref f_Run___contains__)))
    (Hi_Run___contains__ : PySem.W.isFn K (.ref f_Run___contains__) = true)
    (Hl_Run___contains__ : K.lookup f_Run___contains__ = some ⟨oc_Run___contains__, od_Run___contains__, .func (PySem.W.fnOf "__contains__" "Run.__contains__" (defArgs s_Run___contains__) (defBody s_Run___contains__) (defScope s_Run___contains__) .none kV_Run___contains__ dc_Run___contains__ pm_Run___contains__ an_Run___contains__ cd_Run___contains__ ct_Run___contains__), sl_Run___contains__⟩)
    (Hc_Run___contains__ : PySem.W.codeIn K cd_Run___contains__ "Run.__contains__" = true)
    (Hk_Run___contains__ : PySem.W.keepIn K (.ref f_Run___contains__) = true)
    (Hm_Run___getitem__ : PySem.W.findIn K (.ref c_Run) "__getitem__" = some (some (.ref f_Run___getitem__)))
    (Hi_Run___getitem__ : PySem.W.isFn K (.ref f_Run___getitem__) = true)
    (Hl_Run___getitem__ : K.lookup f_Run___getitem__ = some ⟨oc_Run___getitem__, od_Run___getitem__, .func (PySem.W.fnOf "__getitem__" "Run.__getitem__" (defArgs s_Run___getitem__) (defBody s_Run___getitem__) (defScope s_Run___getitem__) .none kV_Run___getitem__ dc_Run___getitem__ pm_Run___getitem__ an_Run___getitem__ cd_Run___getitem__ ct_Run___getitem__), sl_Run___getitem__⟩)
    (Hc_Run___getitem__ : PySem.W.codeIn K cd_Run___getitem__ "Run.__getitem__" = true)
    (Hk_Run___getitem__ : PySem.W.keepIn K (.ref f_Run___getitem__) = true)
    (Hm_Run_listed : PySem.W.findIn K (.ref c_Run) "listed" = some (some (.ref f_Run_listed)))
    (Hi_Run_listed : PySem.W.isFn K (.ref f_Run_listed) = true)
    (Hl_Run_listed : K.lookup f_Run_listed = some ⟨oc_Run_listed, od_Run_listed, .func (PySem.W.fnOf "listed" "Run.listed" (defArgs s_Run_listed) (defBody s_Run_listed) (defScope s_Run_listed) .none kV_Run_listed dc_Run_listed pm_Run_listed an_Run_listed cd_Run_listed ct_Run_listed), sl_Run_listed⟩)
    (Hc_Run_listed : PySem.W.codeIn K cd_Run_listed "Run.listed" = true)
    (Hk_Run_listed : PySem.W.keepIn K (.ref f_Run_listed) = true)
    (Hat_Run_Run_hands : PySem.W.findIn K (.ref c_Run) "hands" = some (some (.ref Hp_Run_hands)))
    (Hge_Run_hands : PySem.W.specialIn K (.ref Hp_Run_hands) "__get__" = some (some (.builtin "property.__get__")))
    (Htk_Run_hands : PySem.W.takesIn K (.ref Hp_Run_hands) = some true)
    (Hrc_Run_hands : PySem.W.recIn K Hp_Run_hands "property" = some (.ref f_Run_hands :: Hrs_Run_hands))
    (Hl_Run_hands : K.lookup f_Run_hands = some ⟨oc_Run_hands, od_Run_hands, .func (PySem.W.fnOf "hands" "Run.hands" (defArgs s_Run_hands) (defBody s_Run_hands) (defScope s_Run_hands) .none kV_Run_hands dc_Run_hands pm_Run_hands an_Run_hands cd_Run_hands ct_Run_hands), sl_Run_hands⟩)
    (Hc_Run_hands : PySem.W.codeIn K cd_Run_hands "Run.hands" = true)
    (Hk_Run_hands : PySem.W.keepIn K (.ref f_Run_hands) = true)
    (Ha__law_index_refused : PySem.W.nsIn K mainGlobals "_law_index_refused" = some (some (.ref f__law_index_refused)))
    (Hl__law_index_refused : K.lookup f__law_index_refused = some ⟨oc__law_index_refused, od__law_index_refused, .func (PySem.W.fnOf "_law_index_refused" "_law_index_refused" (defArgs s__law_index_refused) (defBody s__law_index_refused) (defScope s__law_index_refused) .none kV__law_index_refused dc__law_index_refused pm__law_index_refused an__law_index_refused cd__law_index_refused ct__law_index_refused), sl__law_index_refused⟩)
    (Hc__law_index_refused : PySem.W.codeIn K cd__law_index_refused "_law_index_refused" = true)
    (Hk__law_index_refused : PySem.W.keepIn K (.ref f__law_index_refused) = true)
    (Ha__law_basic : PySem.W.nsIn K mainGlobals "_law_basic" = some (some (.ref f__law_basic)))
    (Hl__law_basic : K.lookup f__law_basic = some ⟨oc__law_basic, od__law_basic, .func (PySem.W.fnOf "_law_basic" "_law_basic" (defArgs s__law_basic) (defBody s__law_basic) (defScope s__law_basic) .none kV__law_basic dc__law_basic pm__law_basic an__law_basic cd__law_basic ct__law_basic), sl__law_basic⟩)
    (Hc__law_basic : PySem.W.codeIn K cd__law_basic "_law_basic" = true)
    (Hk__law_basic : PySem.W.keepIn K (.ref f__law_basic) = true)
    (Ha__law_sum : PySem.W.nsIn K mainGlobals "_law_sum" = some (some (.ref f__law_sum)))
    (Hl__law_sum : K.lookup f__law_sum = some ⟨oc__law_sum, od__law_sum, .func (PySem.W.fnOf "_law_sum" "_law_sum" (defArgs s__law_sum) (defBody s__law_sum) (defScope s__law_sum) .none kV__law_sum dc__law_sum pm__law_sum an__law_sum cd__law_sum ct__law_sum), sl__law_sum⟩)
    (Hc__law_sum : PySem.W.codeIn K cd__law_sum "_law_sum" = true)
    (Hk__law_sum : PySem.W.keepIn K (.ref f__law_sum) = true)
    (Ha__law_both_right : PySem.W.nsIn K mainGlobals "_law_both_right" = some (some (.ref f__law_both_right)))
    (Hl__law_both_right : K.lookup f__law_both_right = some ⟨oc__law_both_right, od__law_both_right, .func (PySem.W.fnOf "_law_both_right" "_law_both_right" (defArgs s__law_both_right) (defBody s__law_both_right) (defScope s__law_both_right) .none kV__law_both_right dc__law_both_right pm__law_both_right an__law_both_right cd__law_both_right ct__law_both_right), sl__law_both_right⟩)
    (Hc__law_both_right : PySem.W.codeIn K cd__law_both_right "_law_both_right" = true)
    (Hk__law_both_right : PySem.W.keepIn K (.ref f__law_both_right) = true)
    (Ha__law_draw : PySem.W.nsIn K mainGlobals "_law_draw" = some (some (.ref f__law_draw)))
    (Hl__law_draw : K.lookup f__law_draw = some ⟨oc__law_draw, od__law_draw, .func (PySem.W.fnOf "_law_draw" "_law_draw" (defArgs s__law_draw) (defBody s__law_draw) (defScope s__law_draw) .none kV__law_draw dc__law_draw pm__law_draw an__law_draw cd__law_draw ct__law_draw), sl__law_draw⟩)
    (Hc__law_draw : PySem.W.codeIn K cd__law_draw "_law_draw" = true)
    (Hk__law_draw : PySem.W.keepIn K (.ref f__law_draw) = true)
    (Ha__law_is_move : PySem.W.nsIn K mainGlobals "_law_is_move" = some (some (.ref f__law_is_move)))
    (Hl__law_is_move : K.lookup f__law_is_move = some ⟨oc__law_is_move, od__law_is_move, .func (PySem.W.fnOf "_law_is_move" "_law_is_move" (defArgs s__law_is_move) (defBody s__law_is_move) (defScope s__law_is_move) .none kV__law_is_move dc__law_is_move pm__law_is_move an__law_is_move cd__law_is_move ct__law_is_move), sl__law_is_move⟩)
    (Hc__law_is_move : PySem.W.codeIn K cd__law_is_move "_law_is_move" = true)
    (Hk__law_is_move : PySem.W.keepIn K (.ref f__law_is_move) = true)
    (Ha__law_made : PySem.W.nsIn K mainGlobals "_law_made" = some (some (.ref f__law_made)))
    (Hl__law_made : K.lookup f__law_made = some ⟨oc__law_made, od__law_made, .func (PySem.W.fnOf "_law_made" "_law_made" (defArgs s__law_made) (defBody s__law_made) (defScope s__law_made) .none kV__law_made dc__law_made pm__law_made an__law_made cd__law_made ct__law_made), sl__law_made⟩)
    (Hc__law_made : PySem.W.codeIn K cd__law_made "_law_made" = true)
    (Hk__law_made : PySem.W.keepIn K (.ref f__law_made) = true)
    (Ha__law_pick : PySem.W.nsIn K mainGlobals "_law_pick" = some (some (.ref f__law_pick)))
    (Hl__law_pick : K.lookup f__law_pick = some ⟨oc__law_pick, od__law_pick, .func (PySem.W.fnOf "_law_pick" "_law_pick" (defArgs s__law_pick) (defBody s__law_pick) (defScope s__law_pick) .none kV__law_pick dc__law_pick pm__law_pick an__law_pick cd__law_pick ct__law_pick), sl__law_pick⟩)
    (Hc__law_pick : PySem.W.codeIn K cd__law_pick "_law_pick" = true)
    (Hk__law_pick : PySem.W.keepIn K (.ref f__law_pick) = true)
    (Ha__law_numbers : PySem.W.nsIn K mainGlobals "_law_numbers" = some (some (.ref f__law_numbers)))
    (Hl__law_numbers : K.lookup f__law_numbers = some ⟨oc__law_numbers, od__law_numbers, .func (PySem.W.fnOf "_law_numbers" "_law_numbers" (defArgs s__law_numbers) (defBody s__law_numbers) (defScope s__law_numbers) .none kV__law_numbers dc__law_numbers pm__law_numbers an__law_numbers cd__law_numbers ct__law_numbers), sl__law_numbers⟩)
    (Hc__law_numbers : PySem.W.codeIn K cd__law_numbers "_law_numbers" = true)
    (Hk__law_numbers : PySem.W.keepIn K (.ref f__law_numbers) = true)
    (Ha__law_pool : PySem.W.nsIn K mainGlobals "_law_pool" = some (some (.ref f__law_pool)))
    (Hl__law_pool : K.lookup f__law_pool = some ⟨oc__law_pool, od__law_pool, .func (PySem.W.fnOf "_law_pool" "_law_pool" (defArgs s__law_pool) (defBody s__law_pool) (defScope s__law_pool) .none kV__law_pool dc__law_pool pm__law_pool an__law_pool cd__law_pool ct__law_pool), sl__law_pool⟩)
    (Hc__law_pool : PySem.W.codeIn K cd__law_pool "_law_pool" = true)
    (Hk__law_pool : PySem.W.keepIn K (.ref f__law_pool) = true)
    (Ha__law_wrong : PySem.W.nsIn K mainGlobals "_law_wrong" = some (some (.ref f__law_wrong)))
    (Hl__law_wrong : K.lookup f__law_wrong = some ⟨oc__law_wrong, od__law_wrong, .func (PySem.W.fnOf "_law_wrong" "_law_wrong" (defArgs s__law_wrong) (defBody s__law_wrong) (defScope s__law_wrong) .none kV__law_wrong dc__law_wrong pm__law_wrong an__law_wrong cd__law_wrong ct__law_wrong), sl__law_wrong⟩)
    (Hc__law_wrong : PySem.W.codeIn K cd__law_wrong "_law_wrong" = true)
    (Hk__law_wrong : PySem.W.keepIn K (.ref f__law_wrong) = true)
    (Ha_law : PySem.W.nsIn K mainGlobals "law" = some (some (.ref f_law)))
    (Hl_law : K.lookup f_law = some ⟨oc_law, od_law, .func (PySem.W.fnOf "law" "law" (defArgs s_law) (defBody s_law) (defScope s_law) .none kV_law dc_law pm_law an_law cd_law ct_law), sl_law⟩)
    (Hc_law : PySem.W.codeIn K cd_law "law" = true)
    (Hk_law : PySem.W.keepIn K (.ref f_law) = true)
    (Hz_all : PySem.W.nsIn K mainGlobals "all" = some none)
    (Hz_bool : PySem.W.nsIn K mainGlobals "bool" = some none)
    (Hz_enumerate : PySem.W.nsIn K mainGlobals "enumerate" = some none)
    (Hz_int : PySem.W.nsIn K mainGlobals "int" = some none)
    (Hz_isinstance : PySem.W.nsIn K mainGlobals "isinstance" = some none)
    (Hz_len : PySem.W.nsIn K mainGlobals "len" = some none)
    (Hz_list : PySem.W.nsIn K mainGlobals "list" = some none)
    (Hz_max : PySem.W.nsIn K mainGlobals "max" = some none)
    (Hz_range : PySem.W.nsIn K mainGlobals "range" = some none)
    (Hz_repr : PySem.W.nsIn K mainGlobals "repr" = some none)
    (Hz_str : PySem.W.nsIn K mainGlobals "str" = some none)
    (Hz_tuple : PySem.W.nsIn K mainGlobals "tuple" = some none)
    (Hg_BEGIN : PySem.W.nsIn K mainGlobals "BEGIN" = some (some Hu_BEGIN))
    (Hq_BEGIN : DK K Hu_BEGIN gBEGIN)
    (Hg_COME : PySem.W.nsIn K mainGlobals "COME" = some (some Hu_COME))
    (Hq_COME : DK K Hu_COME gCOME)
    (Hg_GO : PySem.W.nsIn K mainGlobals "GO" = some (some Hu_GO))
    (Hq_GO : DK K Hu_GO gGO)
    (Hg_LETTERS : PySem.W.nsIn K mainGlobals "LETTERS" = some (some Hu_LETTERS))
    (Hq_LETTERS : DK K Hu_LETTERS gLETTERS)
    (Hg_MOST_LETTERS : PySem.W.nsIn K mainGlobals "MOST_LETTERS" = some (some Hu_MOST_LETTERS))
    (Hq_MOST_LETTERS : DK K Hu_MOST_LETTERS gMOST_LETTERS)
    (Hg_RUN : PySem.W.nsIn K mainGlobals "RUN" = some (some Hu_RUN))
    (Hq_RUN : DK K Hu_RUN gRUN)
    (Hg_STEP : PySem.W.nsIn K mainGlobals "STEP" = some (some Hu_STEP))
    (Hq_STEP : DK K Hu_STEP gSTEP)
    (Hx_InvalidMove : ErrC l.prog K mg "InvalidMove" ["move"])
    (Hx_InvalidNumber : ErrC l.prog K mg "InvalidNumber" ["value"])
    (He_InvalidMove : MtK K mg "InvalidMove" mt_InvalidMove)
    (He_InvalidNumber : MtK K mg "InvalidNumber" mt_InvalidNumber)
    (Hxf_InvalidMove_move : XfD K mt_InvalidMove "move")
    (Hxf_InvalidNumber_value : XfD K mt_InvalidNumber "value")
    (Hgc1 : PySem.W.specialIn K (.builtin "object.__class__") "__get__" = some (some (.builtin "getset_descriptor.__get__")))
    (Hgc2 : PySem.W.takesIn K (.builtin "object.__class__") = some true)
    (Hcl_Run : PySem.W.findIn K (.ref c_Run) "__class__" = some (some (.builtin "object.__class__")))
    (Hmo_Run : PySem.W.mroIn K c_Run (.type "object") = some true)
    (Hki_NoneType_Run : PySem.W.kitOne K (.type "NoneType") (.ref c_Run) = some false)
    (Hki_bool_Run : PySem.W.kitOne K (.type "bool") (.ref c_Run) = some false)
    (Hki_int_Run : PySem.W.kitOne K (.type "int") (.ref c_Run) = some false)
    (Hki_str_Run : PySem.W.kitOne K (.type "str") (.ref c_Run) = some false)
    (Hki_list_Run : PySem.W.kitOne K (.type "list") (.ref c_Run) = some false)
    (Hki_tuple_Run : PySem.W.kitOne K (.type "tuple") (.ref c_Run) = some false)
    (Hki_dict_Run : PySem.W.kitOne K (.type "dict") (.ref c_Run) = some false)
    (Hko_Run_Run : PySem.W.kitOne K (.ref c_Run) (.ref c_Run) = some true)
    (Hne_Run : PySem.W.findIn K (.ref c_Run) "__ne__" = some (some (.builtin "object.__ne__")))
    (Hob_Run : PySem.W.subIn K (.ref c_Run) (.type "object") = some true)
    (Hsf0_Run : PySem.W.selfFirst K c_Run = true)
    (Hm2_Run : DM.mro2 K c_Run = true)
    (Hia_Run : PySem.W.findIn K (.ref c_Run) "__iadd__" = some none)
    (Hfi_Run___getitem__ : PySem.W.fnIn K f_Run___getitem__ = true) :
    ∃ fd : FuncData, (∀ (s : Shared) (v : Value), BindsTo s fd ⟨[v], []⟩ [("_law_script", v)]) ∧ ∀ base : Heap, K.In base → base.Ns mainGlobals mg → FnG l.prog w K mg base (L2.CX l.prog w) 9 fa fd ["_law_script"] (spM K (mk0 1) none (Lp m_law)) := by
  have e := hfa.symm.trans (PySem.W.mg_of X G Ha_law)
  cases e
  have cls_Run : Cls K c_Run := ⟨Hpg_Run, Hhd_Run, Hpo_Run, Hsa_Run⟩
  have ff_own_moves : ∀ C, cl_own_moves C = true → FldC K C "own_moves" := by
    intro C h
    simp only [cl_own_moves, Bool.or_eq_true, beq_iff_eq] at h
    subst h
    exact fld_mk Ha_Run cls_Run Hn_Run_own_moves
  have i_Run : IsiC K mg "Run" ic_Run := isic_mk X G Ha_Run Hgc1 Hgc2 (tys_one Hki_NoneType_Run Hki_bool_Run Hki_int_Run Hki_str_Run Hki_list_Run Hki_tuple_Run Hki_dict_Run) (fun D b h => by
    unfold ic_Run at h
    split at h
    · rename_i e; subst e; cases h; exact ⟨c_Run, Ha_Run, cls_Run, Hcl_Run, Hmo_Run, Hko_Run_Run⟩
    cases h)
  have q_eq : EqC K sb_eq := eqc_of (fun q hq => by
    simp only [List.mem_cons, List.not_mem_nil, or_false] at hq
    rcases hq with rfl
    · exact eqp_mk Ha_Run Ha_Run Hne_Run Hob_Run (Or.inl rfl))
  have q_add : AddC K ca_add := addc_mk Ha_Run (addf_mk Hsf0_Run Hm2_Run Hia_Run Hm_Run___add__ Hm_Run___radd__)
  have T : Txt l.prog w K mg := ⟨PySem.W.mg_none_of X G Hz_all, PySem.W.mg_none_of X G Hz_bool, PySem.W.mg_none_of X G Hz_enumerate, PySem.W.mg_none_of X G Hz_int, PySem.W.mg_none_of X G Hz_isinstance, PySem.W.mg_none_of X G Hz_len, PySem.W.mg_none_of X G Hz_list, PySem.W.mg_none_of X G Hz_max, PySem.W.mg_none_of X G Hz_range, PySem.W.mg_none_of X G Hz_repr, PySem.W.mg_none_of X G Hz_str, PySem.W.mg_none_of X G Hz_tuple, Hq_BEGIN.glob X G Hg_BEGIN, Hq_COME.glob X G Hg_COME, Hq_GO.glob X G Hg_GO, Hq_LETTERS.glob X G Hg_LETTERS, Hq_MOST_LETTERS.glob X G Hg_MOST_LETTERS, Hq_RUN.glob X G Hg_RUN, Hq_STEP.glob X G Hg_STEP, ff_own_moves, Hx_InvalidMove, Hx_InvalidNumber, He_InvalidMove, He_InvalidNumber, Hxf_InvalidMove_move, Hxf_InvalidNumber_value, i_Run, q_eq, q_add⟩
  have F_Run___eq__ := fun_mk (st := s_Run___eq__) Hl_Run___eq__ Hc_Run___eq__ Hk_Run___eq__
  have F_Run___len__ := fun_mk (st := s_Run___len__) Hl_Run___len__ Hc_Run___len__ Hk_Run___len__
  have F_is_integer := fun_mk (st := s_is_integer) Hl_is_integer Hc_is_integer Hk_is_integer
  have F_is_name := fun_mk (st := s_is_name) Hl_is_name Hc_is_name Hk_is_name
  have F_is_move := fun_mk (st := s_is_move) Hl_is_move Hc_is_move Hk_is_move
  have F_Run___init__ := fun_mk (st := s_Run___init__) Hl_Run___init__ Hc_Run___init__ Hk_Run___init__
  have F_Run_of := fun_mk (st := s_Run_of) Hl_Run_of Hc_Run_of Hk_Run_of
  have F_Run_moves_of := fun_mk (st := s_Run_moves_of) Hl_Run_moves_of Hc_Run_moves_of Hk_Run_moves_of
  have F_Run___add__ := fun_mk (st := s_Run___add__) Hl_Run___add__ Hc_Run___add__ Hk_Run___add__
  have F_Run___radd__ := fun_mk (st := s_Run___radd__) Hl_Run___radd__ Hc_Run___radd__ Hk_Run___radd__
  have F_Run___contains__ := fun_mk (st := s_Run___contains__) Hl_Run___contains__ Hc_Run___contains__ Hk_Run___contains__
  have F_Run___getitem__ := fun_mk (st := s_Run___getitem__) Hl_Run___getitem__ Hc_Run___getitem__ Hk_Run___getitem__
  have F_Run_listed := fun_mk (st := s_Run_listed) Hl_Run_listed Hc_Run_listed Hk_Run_listed
  have F_Run_hands := fun_mk (st := s_Run_hands) Hl_Run_hands Hc_Run_hands Hk_Run_hands
  have F__law_index_refused := fun_mk (st := s__law_index_refused) Hl__law_index_refused Hc__law_index_refused Hk__law_index_refused
  have F__law_basic := fun_mk (st := s__law_basic) Hl__law_basic Hc__law_basic Hk__law_basic
  have F__law_sum := fun_mk (st := s__law_sum) Hl__law_sum Hc__law_sum Hk__law_sum
  have F__law_both_right := fun_mk (st := s__law_both_right) Hl__law_both_right Hc__law_both_right Hk__law_both_right
  have F__law_draw := fun_mk (st := s__law_draw) Hl__law_draw Hc__law_draw Hk__law_draw
  have F__law_is_move := fun_mk (st := s__law_is_move) Hl__law_is_move Hc__law_is_move Hk__law_is_move
  have F__law_made := fun_mk (st := s__law_made) Hl__law_made Hc__law_made Hk__law_made
  have F__law_pick := fun_mk (st := s__law_pick) Hl__law_pick Hc__law_pick Hk__law_pick
  have F__law_numbers := fun_mk (st := s__law_numbers) Hl__law_numbers Hc__law_numbers Hk__law_numbers
  have F__law_pool := fun_mk (st := s__law_pool) Hl__law_pool Hc__law_pool Hk__law_pool
  have F__law_wrong := fun_mk (st := s__law_wrong) Hl__law_wrong Hc__law_wrong Hk__law_wrong
  have F_law := fun_mk (st := s_law) Hl_law Hc_law Hk_law
  refine ⟨PySem.W.fnOf "law" "law" (defArgs s_law) (defBody s_law) (defScope s_law) .none kV_law dc_law pm_law an_law cd_law ct_law, fun s v => .of_eq rfl, fun base _ _ => ?_⟩
  have d_is_integer : Dfn l.prog w K mg base 1 "is_integer" (mk0 3) none (Lp m_is_integer) := ⟨f_is_integer, _, ["value", "lowest", "highest"], ok_is_integer F_is_integer T, PySem.W.mg_of X G Ha_is_integer, Hk_is_integer, (F_is_integer.binds (ps := ["value", "lowest", "highest"]) fun _ _ _ _ _ _ us hl => match us, hl with | [_, _, _], _ => rfl)⟩
  have d_is_name : Dfn l.prog w K mg base 1 "is_name" (mk0 1) none (Lp m_is_name) := ⟨f_is_name, _, ["value"], ok_is_name F_is_name T, PySem.W.mg_of X G Ha_is_name, Hk_is_name, (F_is_name.binds (ps := ["value"]) fun _ _ _ _ _ _ us hl => match us, hl with | [_], _ => rfl)⟩
  have d_is_move : Dfn l.prog w K mg base 2 "is_move" (mk0 1) none (Lp m_is_move) := ⟨f_is_move, _, ["value"], ok_is_move F_is_move T d_is_integer d_is_name, PySem.W.mg_of X G Ha_is_move, Hk_is_move, (F_is_move.binds (ps := ["value"]) fun _ _ _ _ _ _ us hl => match us, hl with | [_], _ => rfl)⟩
  have d_Run : MakeC l.prog w K mg base 3 "Run" [] m_Run___init__ := ⟨c_Run, f_Run___init__, PySem.W.mg_of X G Ha_Run, Ha_Run, ⟨Hmk_Run, Hm_Run___init__, Hi_Run___init__, Hkc_Run⟩, (prR_star F_Run___init__ (ps := ["self"]) (pv := "moves") sc_Run___init__ rfl (bind_star1 (B := fun z => bindArgs _ ⟨z, []⟩) (fun a => rfl) (fun a _ _ => rfl)) (ok_Run___init__ T d_is_move))⟩
  have d_m_moves_of : ∀ C mf, mt_moves_of C = some mf → MethC l.prog w K mg base 2 C "moves_of" none mf := by
    intro C mf h
    unfold mt_moves_of at h
    split at h
    · rename_i e; subst e; cases h; exact meth_mk Ha_Run cls_Run ⟨Hm_Run_moves_of, Hi_Run_moves_of, Hk_Run_moves_of⟩ (PrP.up (prP_plain (n := 2) (ok_Run_moves_of F_Run_moves_of T) (F_Run_moves_of.binds (ps := ["self", "other"]) fun _ _ _ _ _ _ us hl => match us, hl with | [_, _], _ => rfl) l_Run_moves_of) rfl)
    cases h
  have dn___getitem__ : ∀ C mf, mt___getitem__ C = some mf → FnC K C "__getitem__" := by
    intro C mf h
    unfold mt___getitem__ at h
    split at h
    · rename_i e; subst e; exact fnc_mk Ha_Run Hm_Run___getitem__ Hfi_Run___getitem__
    cases h
  have d_m___getitem__ : ∀ C mf, mt___getitem__ C = some mf → MethC l.prog w K mg base 2 C "__getitem__" none mf := by
    intro C mf h
    unfold mt___getitem__ at h
    split at h
    · rename_i e; subst e; cases h; exact meth_mk Ha_Run cls_Run ⟨Hm_Run___getitem__, Hi_Run___getitem__, Hk_Run___getitem__⟩ (PrP.up (prP_plain (n := 2) (ok_Run___getitem__ F_Run___getitem__ T d_is_integer) (F_Run___getitem__.binds (ps := ["self", "index"]) fun _ _ _ _ _ _ us hl => match us, hl with | [_, _], _ => rfl) l_Run___getitem__) rfl)
    cases h
  have d_m___contains__ : ∀ C mf, mt___contains__ C = some mf → MethC l.prog w K mg base 3 C "__contains__" none mf := by
    intro C mf h
    unfold mt___contains__ at h
    split at h
    · rename_i e; subst e; cases h; exact meth_mk Ha_Run cls_Run ⟨Hm_Run___contains__, Hi_Run___contains__, Hk_Run___contains__⟩ (PrP.up (prP_plain (n := 2) (ok_Run___contains__ F_Run___contains__ T d_is_move) (F_Run___contains__.binds (ps := ["self", "value"]) fun _ _ _ _ _ _ us hl => match us, hl with | [_, _], _ => rfl) l_Run___contains__) rfl)
    cases h
  have d_m___len__ : ∀ C mf, mt___len__ C = some mf → MethC l.prog w K mg base 1 C "__len__" none mf := by
    intro C mf h
    unfold mt___len__ at h
    split at h
    · rename_i e; subst e; cases h; exact meth_mk Ha_Run cls_Run ⟨Hm_Run___len__, Hi_Run___len__, Hk_Run___len__⟩ (PrP.up (prP_plain (n := 1) (ok_Run___len__ F_Run___len__ T) (F_Run___len__.binds (ps := ["self"]) fun _ _ _ _ _ _ us hl => match us, hl with | [_], _ => rfl) l_Run___len__) rfl)
    cases h
  have d_m_listed : ∀ C mf, mt_listed C = some mf → MethC l.prog w K mg base 1 C "listed" none mf := by
    intro C mf h
    unfold mt_listed at h
    split at h
    · rename_i e; subst e; cases h; exact meth_mk Ha_Run cls_Run ⟨Hm_Run_listed, Hi_Run_listed, Hk_Run_listed⟩ (PrP.up (prP_plain (n := 1) (ok_Run_listed F_Run_listed T) (F_Run_listed.binds (ps := ["self"]) fun _ _ _ _ _ _ us hl => match us, hl with | [_], _ => rfl) l_Run_listed) rfl)
    cases h
  have d_p_hands : ∀ C mf, mp_hands C = some mf → PropC l.prog w K mg base 1 C "hands" mf := by
    intro C mf h
    unfold mp_hands at h
    split at h
    · rename_i e; subst e; cases h; exact prop_mk Ha_Run cls_Run ⟨Hat_Run_Run_hands, Hge_Run_hands, Htk_Run_hands, ⟨_, Hrc_Run_hands⟩⟩ (PrP.up (prP_plain (n := 1) (ok_Run_hands F_Run_hands T) (F_Run_hands.binds (ps := ["self"]) fun _ _ _ _ _ _ us hl => match us, hl with | [_], _ => rfl) l_Run_hands) rfl)
    cases h
  have d__law_index_refused : Dfn l.prog w K mg base 4 "_law_index_refused" (mk0 2) none (Lp m__law_index_refused) := ⟨f__law_index_refused, _, ["_law_run", "_law_index"], ok__law_index_refused F__law_index_refused T dn___getitem__ d_m___getitem__, PySem.W.mg_of X G Ha__law_index_refused, Hk__law_index_refused, (F__law_index_refused.binds (ps := ["_law_run", "_law_index"]) fun _ _ _ _ _ _ us hl => match us, hl with | [_, _], _ => rfl)⟩
  have d_m___add__ : ∀ C mf, mt___add__ C = some mf → MethC l.prog w K mg base 5 C "__add__" none mf := by
    intro C mf h
    unfold mt___add__ at h
    split at h
    · rename_i e; subst e; cases h; exact meth_mk Ha_Run cls_Run ⟨Hm_Run___add__, Hi_Run___add__, Hk_Run___add__⟩ (PrP.up (prP_plain (n := 2) (ok_Run___add__ F_Run___add__ T d_Run d_m_moves_of) (F_Run___add__.binds (ps := ["self", "other"]) fun _ _ _ _ _ _ us hl => match us, hl with | [_, _], _ => rfl) l_Run___add__) rfl)
    cases h
  have d_m___eq__ : ∀ C mf, mt___eq__ C = some mf → MethC l.prog w K mg base 1 C "__eq__" none mf := by
    intro C mf h
    unfold mt___eq__ at h
    split at h
    · rename_i e; subst e; cases h; exact meth_mk Ha_Run cls_Run ⟨Hm_Run___eq__, Hi_Run___eq__, Hk_Run___eq__⟩ (PrP.up (prP_plain (n := 2) (ok_Run___eq__ F_Run___eq__ T) (F_Run___eq__.binds (ps := ["self", "other"]) fun _ _ _ _ _ _ us hl => match us, hl with | [_, _], _ => rfl) l_Run___eq__) rfl)
    cases h
  have d_m___radd__ : ∀ C mf, mt___radd__ C = some mf → MethC l.prog w K mg base 5 C "__radd__" none mf := by
    intro C mf h
    unfold mt___radd__ at h
    split at h
    · rename_i e; subst e; cases h; exact meth_mk Ha_Run cls_Run ⟨Hm_Run___radd__, Hi_Run___radd__, Hk_Run___radd__⟩ (PrP.up (prP_plain (n := 2) (ok_Run___radd__ F_Run___radd__ T d_Run d_m_moves_of) (F_Run___radd__.binds (ps := ["self", "other"]) fun _ _ _ _ _ _ us hl => match us, hl with | [_, _], _ => rfl) l_Run___radd__) rfl)
    cases h
  have d_Run_of : StatC l.prog w K mg base 5 "Run" "of" none m_Run_of := ⟨c_Run, .type "type", Hp_Run_of, f_Run_of, Hrs_Run_of, PySem.W.mg_of X G Ha_Run, ⟨Hrd_Run_of, Hga_Run_of⟩, Hat_Run_of, Hrc_Run_of, Hk_Run_of, (prP_plain (n := 1) (ok_Run_of F_Run_of T d_Run) (F_Run_of.binds (ps := ["moves"]) fun _ _ _ _ _ _ us hl => match us, hl with | [_], _ => rfl) l_Run_of)⟩
  have d__law_basic : Dfn l.prog w K mg base 5 "_law_basic" (mk0 2) none (Lp m__law_basic) := ⟨f__law_basic, _, ["_law_run", "_law_some"], ok__law_basic F__law_basic T dn___getitem__ d_m___contains__ d_m___getitem__ d_m___len__ d_m_listed d_p_hands d__law_index_refused, PySem.W.mg_of X G Ha__law_basic, Hk__law_basic, (F__law_basic.binds (ps := ["_law_run", "_law_some"]) fun _ _ _ _ _ _ us hl => match us, hl with | [_, _], _ => rfl)⟩
  have d__law_sum : Dfn l.prog w K mg base 7 "_law_sum" (mk0 2) none (Lp m__law_sum) := ⟨f__law_sum, _, ["_law_one", "_law_other"], ok__law_sum F__law_sum T d_m___add__, PySem.W.mg_of X G Ha__law_sum, Hk__law_sum, (F__law_sum.binds (ps := ["_law_one", "_law_other"]) fun _ _ _ _ _ _ us hl => match us, hl with | [_, _], _ => rfl)⟩
  have d__law_draw : Dfn l.prog w K mg base 1 "_law_draw" (some [] :: mk0 1) none (L1e m__law_draw) := ⟨f__law_draw, _, ["_law_pool_here", "_law_many"], ok__law_draw F__law_draw T, PySem.W.mg_of X G Ha__law_draw, Hk__law_draw, (F__law_draw.binds (ps := ["_law_pool_here", "_law_many"]) fun _ _ _ _ _ _ us hl => match us, hl with | [_, _], _ => rfl)⟩
  have d__law_numbers : Dfn l.prog w K mg base 1 "_law_numbers" (mk0 3) none (Lp m__law_numbers) := ⟨f__law_numbers, _, ["_law_cell", "_law_salt", "_law_sizes"], ok__law_numbers F__law_numbers T, PySem.W.mg_of X G Ha__law_numbers, Hk__law_numbers, (F__law_numbers.binds (ps := ["_law_cell", "_law_salt", "_law_sizes"]) fun _ _ _ _ _ _ us hl => match us, hl with | [_, _, _], _ => rfl)⟩
  have d__law_is_move : Dfn l.prog w K mg base 2 "_law_is_move" (mk0 1) none (Lp m__law_is_move) := ⟨f__law_is_move, _, ["_law_value"], ok__law_is_move F__law_is_move T d_is_name, PySem.W.mg_of X G Ha__law_is_move, Hk__law_is_move, (F__law_is_move.binds (ps := ["_law_value"]) fun _ _ _ _ _ _ us hl => match us, hl with | [_], _ => rfl)⟩
  have d__law_both_right : Dfn l.prog w K mg base 8 "_law_both_right" (mk0 2) none (Lp m__law_both_right) := ⟨f__law_both_right, _, ["_law_first", "_law_second"], ok__law_both_right F__law_both_right T d_m___add__ d_m___eq__ d_m___radd__ d_Run_of d__law_basic d__law_sum, PySem.W.mg_of X G Ha__law_both_right, Hk__law_both_right, (F__law_both_right.binds (ps := ["_law_first", "_law_second"]) fun _ _ _ _ _ _ us hl => match us, hl with | [_, _], _ => rfl)⟩
  have d__law_made : Dfn l.prog w K mg base 6 "_law_made" (mk0 1) none (Lp m__law_made) := ⟨f__law_made, _, ["_law_some"], ok__law_made F__law_made T d_Run_of, PySem.W.mg_of X G Ha__law_made, Hk__law_made, (F__law_made.binds (ps := ["_law_some"]) fun _ _ _ _ _ _ us hl => match us, hl with | [_], _ => rfl)⟩
  have d__law_pick : Dfn l.prog w K mg base 2 "_law_pick" (some [] :: mk0 1) none (L1e m__law_pick) := ⟨f__law_pick, _, ["_law_pool_here", "_law_some"], ok__law_pick F__law_pick T d__law_draw, PySem.W.mg_of X G Ha__law_pick, Hk__law_pick, (F__law_pick.binds (ps := ["_law_pool_here", "_law_some"]) fun _ _ _ _ _ _ us hl => match us, hl with | [_, _], _ => rfl)⟩
  have d__law_pool : Dfn l.prog w K mg base 2 "_law_pool" (mk0 3) (some []) (Lp m__law_pool) := ⟨f__law_pool, _, ["_law_cell", "_law_salt", "_law_many"], ok__law_pool F__law_pool T d__law_numbers, PySem.W.mg_of X G Ha__law_pool, Hk__law_pool, (F__law_pool.binds (ps := ["_law_cell", "_law_salt", "_law_many"]) fun _ _ _ _ _ _ us hl => match us, hl with | [_, _, _], _ => rfl)⟩
  have d__law_wrong : Dfn l.prog w K mg base 3 "_law_wrong" (mk0 1) none (Lp m__law_wrong) := ⟨f__law_wrong, _, ["_law_some"], ok__law_wrong F__law_wrong T d__law_is_move, PySem.W.mg_of X G Ha__law_wrong, Hk__law_wrong, (F__law_wrong.binds (ps := ["_law_some"]) fun _ _ _ _ _ _ us hl => match us, hl with | [_], _ => rfl)⟩
  exact ok_law F_law T d_Run d_m___eq__ d_m___len__ d_Run_of d__law_both_right d__law_draw d__law_is_move d__law_made d__law_pick d__law_pool d__law_sum d__law_wrong d_is_move
end K12

namespace K12
open PySem L2 DM PL
theorem reprA_ok {m n : Nat} {d : D} (h : Sh m n d) (hm : m ≤ 60) (hn : n ≤ 16777216) : reprA [d] = some (.str (pd d).shown) := by
  have e := repr_ok h hm hn
  cases d with
  | dct kvs =>
    cases kvs with
    | nil => have := h.lay; simp [pd, PyData.canLay0] at this
    | cons _ _ => exact e
  | _ => exact e
inductive Mv | come | step | go (n : Nat) | beg | run
deriving DecidableEq
def Mv.d : Mv → D
  | .come => .tup [.str "come"] | .step => .tup [.str "step"] | .go n => .tup [.str "go", .int (n : Nat)] | .beg => .tup [.str "begin", .str "w"] | .run => .tup [.str "run", .str "wwwwwwww"]
def Mv.ok : Mv → Prop
  | .go n => n ≤ 13
  | _ => True
def odd : List D := [.tup [.str "go", .int 14], .tup [.str "go", .int (-1)], .tup [.str "begin", .str ""], .tup [.str "run", .int 5], .tup [.str "out"], .non, .lst [.str "come"], .tup [], .tup [.str "step", .int 1], .tup [.str "go", .bl true]]
theorem s_ne {a b : String} (h : ((a : Str) == (b : Str)) = false) : ((a : Str) == (b : Str)) = false := h
theorem encM : Enc Mv.d 1 where
  ok a := by cases a <;> simp only [Mv.d, pd, pds, PyData.canLay0, PyData.canLayAll0, Bool.and_true] <;> decide +kernel
  dep a := by cases a <;> simp [Mv.d, pd, pds, PyData.depth, PyData.depthAll]
  eq a b := by
    have n1 : ((("come" : String) : Str) == (("step" : String) : Str)) = false := by decide +kernel
    have n2 : ((("step" : String) : Str) == (("come" : String) : Str)) = false := by decide +kernel
    have n3 : ((("go" : String) : Str) == (("begin" : String) : Str)) = false := by decide +kernel
    have n4 : ((("begin" : String) : Str) == (("go" : String) : Str)) = false := by decide +kernel
    have n5 : ((("go" : String) : Str) == (("run" : String) : Str)) = false := by decide +kernel
    have n6 : ((("run" : String) : Str) == (("go" : String) : Str)) = false := by decide +kernel
    have n7 : ((("run" : String) : Str) == (("begin" : String) : Str)) = false := by decide +kernel
    have n8 : ((("begin" : String) : Str) == (("run" : String) : Str)) = false := by decide +kernel
    cases a <;> cases b <;> simp only [Mv.d, pd, pds, PyData.eqv, PyData.eqvAll, n1, n2, n3, n4, n5, n6, n7, n8, beq_self_eq_true, Bool.true_and, Bool.and_true, Bool.false_and, Bool.and_false] <;> first | rfl | skip
    all_goals (rw [Bool.eq_iff_iff]; simp <;> omega)
theorem eqM (a b : Mv) : eqG a.d b.d = some (.bl (decide (a = b))) := encM.eqG (by decide) a b
theorem neM (a b : Mv) : neG a.d b.d = some (.bl (!decide (a = b))) := encM.neG (by decide) a b
theorem go_ok {n : Nat} (h : n ≤ 13) : m_is_move [Mv.d (.go n)] = .ok (.bl true) := by
  have : ∀ n : Nat, n < 14 → (match m_is_move [Mv.d (.go n)] with | .ok (.bl b) => b | _ => false) = true := by decide +kernel
  have h1 := this n (by omega)
  split at h1
  · rename_i e; rw [e, h1]
  · cases h1
theorem lgo_ok {n : Nat} (h : n ≤ 13) : m__law_is_move [Mv.d (.go n)] = .ok (.bl true) := by
  have : ∀ n : Nat, n < 14 → (match m__law_is_move [Mv.d (.go n)] with | .ok (.bl b) => b | _ => false) = true := by decide +kernel
  have h1 := this n (by omega)
  split at h1
  · rename_i e; rw [e, h1]
  · cases h1
theorem mv_ok {m : Mv} (h : m.ok) : m_is_move [m.d] = .ok (.bl true) := by
  cases m with
  | go n => exact go_ok h
  | come => rfl
  | step => rfl
  | beg => rfl
  | run => rfl
theorem lmv_ok {m : Mv} (h : m.ok) : m__law_is_move [m.d] = .ok (.bl true) := by
  cases m with
  | go n => exact lgo_ok h
  | come => rfl
  | step => rfl
  | beg => rfl
  | run => rfl
theorem odd_no {d : D} (h : d ∈ odd) : m_is_move [d] = .ok (.bl false) ∧ m__law_is_move [d] = .ok (.bl false) := by
  simp only [odd, List.mem_cons, List.not_mem_nil, or_false] at h
  rcases h with rfl | rfl | rfl | rfl | rfl | rfl | rfl | rfl | rfl | rfl <;> exact ⟨rfl, rfl⟩
def RN (xs : List Mv) : D := .obj "Run" [("own_moves", .tup (xs.map Mv.d))]
theorem for_pre {β : Type} {f : D → Unit → R β (Step Unit)} : ∀ {as bs : List D}, (∀ d ∈ as, f d () = .ok (.nx ())) → R.for' (as ++ bs) () f = R.for' bs () f
  | [], bs, _ => rfl
  | a :: as, bs, h => by
    rw [List.cons_append, for_cons, h a List.mem_cons_self, turn_nx]
    exact for_pre fun d hd => h d (List.mem_cons_of_mem _ hd)
def Oks (xs : List Mv) : Prop := ∀ x ∈ xs, x.ok
theorem init_ok {xs : List Mv} (h : Oks xs) : m0_Run___init__ [.obj "Run" [], .tup (xs.map Mv.d)] = .ok (.non, RN xs) := by
  unfold m0_Run___init__
  simp only [items_tup]
  rw [for_unit, after_nx]
  · rfl
  · intro d hd
    obtain ⟨x, hx, rfl⟩ := List.mem_map.mp hd
    rw [mv_ok (h x hx), call_ok, asB_bl]
    rfl
def err (d : D) : Exn := ⟨"InvalidMove", [("move", d)]⟩
theorem init_bad {xs : List Mv} {o : D} {ds : List D} (h : Oks xs) (ho : o ∈ odd) : m0_Run___init__ [.obj "Run" [], .tup (xs.map Mv.d ++ o :: ds)] = .ex (err o) () := by
  unfold m0_Run___init__
  simp only [items_tup]
  rw [for_pre, for_cons, (odd_no ho).1, call_ok, asB_bl, raise1]
  · rfl
  · intro d hd
    obtain ⟨x, hx, rfl⟩ := List.mem_map.mp hd
    rw [mv_ok (h x hx), call_ok, asB_bl]
    rfl
theorem init_star (ds : List D) (h : ds.length ≤ 1000) : m_Run___init__ (.obj "Run" [] :: ds) = m0_Run___init__ [.obj "Run" [], .tup ds] := by
  unfold m_Run___init__ starM
  rw [if_pos]
  · simp
  · simp [few, szl]; omega
theorem of_l {xs : List Mv} (h : Oks xs) (hl : xs.length ≤ 100) : m_Run_of [.lst (xs.map Mv.d)] = .ok (RN xs) := by
  unfold m_Run_of
  simp only [list_lst, lft_some, asQ_lst]
  rw [init_star _ (by simp; omega), init_ok h, make_ok]
theorem of_t {xs : List Mv} (h : Oks xs) (hl : xs.length ≤ 100) : m_Run_of [.tup (xs.map Mv.d)] = .ok (RN xs) := by
  unfold m_Run_of
  simp only [list_tup, lft_some, asQ_lst]
  rw [init_star _ (by simp; omega), init_ok h, make_ok]
theorem of_bad {xs : List Mv} {o : D} {ds : List D} (h : Oks xs) (ho : o ∈ odd) (hl : xs.length + ds.length ≤ 100) : m_Run_of [.tup (xs.map Mv.d ++ o :: ds)] = .ex (err o) () := by
  unfold m_Run_of
  simp only [list_tup, lft_some, asQ_lst]
  rw [init_star _ (by simp; omega), init_bad h ho]
  rfl
section
variable {β γ : Type} (xs : List Mv)
theorem f_moves (k : D → R β γ) : R.fld cl_own_moves "own_moves" (RN xs) k = k (.tup (xs.map Mv.d)) := id rfl
theorem m_mo (k : (List D → R Unit D) → R β γ) : R.meth mt_moves_of "moves_of" (RN xs) k = k m_Run_moves_of := id rfl
theorem m_li (k : (List D → R Unit D) → R β γ) : R.meth mt_listed "listed" (RN xs) k = k m_Run_listed := id rfl
theorem isi_run (k : Bool → R β γ) : R.isiC ic_Run (RN xs) k = k true := id rfl
theorem isi_tup (ds : List D) (k : Bool → R β γ) : R.isiC ic_Run (.tup ds) k = k false := id rfl
theorem isi_lst (ds : List D) (k : Bool → R β γ) : R.isiC ic_Run (.lst ds) k = k false := id rfl
theorem len_row (h : xs.length ≤ 100) (k : D → R β γ) : R.len mt___len__ (RN xs) k = k (.int xs.length) := by
  have e : m_Run___len__ [RN xs] = .ok (.int xs.length) := by
    unfold m_Run___len__
    simp only [f_moves, len_tup, List.length_map, lft_some]
  exact len_obj (mf := m_Run___len__) (by unfold mt___len__; rw [if_pos rfl]) e (by omega) (by omega) k
end
theorem mo_run (xs ys : List Mv) : m_Run_moves_of [RN xs, RN ys] = .ok (.tup (ys.map Mv.d)) := by
  unfold m_Run_moves_of
  simp only [isi_run, asB_bl, if_true, f_moves]
theorem mo_tup (xs : List Mv) (ds : List D) : m_Run_moves_of [RN xs, .tup ds] = .ok (.tup ds) := by
  have e : isiTG [.tup ds, .tup [.ty "tuple", .ty "list"]] = some (.bl true) := id rfl
  have e2 : tupleG [.tup ds] = some (.tup ds) := id rfl
  unfold m_Run_moves_of
  simp only [isi_tup, asB_bl, Bool.false_eq_true, if_false, few2, e, lft_some, Bool.not_true, e2]
theorem mo_lst (xs : List Mv) (ds : List D) : m_Run_moves_of [RN xs, .lst ds] = .ok (.tup ds) := by
  have e : isiTG [.lst ds, .tup [.ty "tuple", .ty "list"]] = some (.bl true) := id rfl
  have e2 : tupleG [.lst ds] = some (.tup ds) := id rfl
  unfold m_Run_moves_of
  simp only [isi_lst, asB_bl, Bool.false_eq_true, if_false, few2, e, lft_some, Bool.not_true, e2]
def odd4 : List D := [.non, .int 5, .str "come", .dct []]
theorem mo_odd (xs : List Mv) {d : D} (h : d ∈ odd4) : m_Run_moves_of [RN xs, d] = .ex (err d) () := by
  have e : isiTG [d, .tup [.ty "tuple", .ty "list"]] = some (.bl false) ∧ R.isiC ic_Run d (β := Unit) (γ := D) = fun k => k false := by
    simp only [odd4, List.mem_cons, List.not_mem_nil, or_false] at h
    rcases h with rfl | rfl | rfl | rfl <;> exact ⟨rfl, rfl⟩
  unfold m_Run_moves_of
  simp only [e.2, asB_bl, Bool.false_eq_true, if_false, few2, e.1, lft_some, Bool.not_false, if_true, raise1]
  rfl
theorem add_tup (a b : List D) : addA (.tup a) (.tup b) = if a.length + b.length ≤ 16777216 then some (.tup (a ++ b)) else none := by
  rw [← szl]
  show orG addG (orG catSG (orG catTG catLG)) (.tup a) (.tup b) = _
  by_cases h : a.length + b.length ≤ sizeLine
  · rw [if_pos h]
    have : catTG (.tup a) (.tup b) = some (.tup (a ++ b)) := by show (if _ then _ else _) = _; rw [if_pos h]
    simp only [orG, this]
    rfl
  · rw [if_neg h]
    have : catTG (.tup a) (.tup b) = none := by show (if _ then _ else _) = _; rw [if_neg h]
    simp only [orG, this]
    rfl
theorem add_r {xs ys : List Mv} {e : D} (hx : Oks xs) (hy : Oks ys) (hl : xs.length + ys.length ≤ 100) (h : m_Run_moves_of [RN xs, e] = .ok (.tup (ys.map Mv.d))) : m_Run___add__ [RN xs, e] = .ok (RN (xs ++ ys)) := by
  unfold m_Run___add__
  simp only [f_moves, m_mo, h, call_ok]
  rw [add_tup, if_pos (by simp; omega), lft_some, asQ_tup, ← List.map_append, init_star _ (by simp; omega), init_ok (fun x hm => by rcases List.mem_append.mp hm with q | q; exact hx x q; exact hy x q), make_ok]
theorem radd_r {xs ys : List Mv} {e : D} (hx : Oks xs) (hy : Oks ys) (hl : xs.length + ys.length ≤ 100) (h : m_Run_moves_of [RN ys, e] = .ok (.tup (xs.map Mv.d))) : m_Run___radd__ [RN ys, e] = .ok (RN (xs ++ ys)) := by
  unfold m_Run___radd__
  simp only [f_moves, m_mo, h, call_ok]
  rw [add_tup, if_pos (by simp; omega), lft_some, asQ_tup, ← List.map_append, init_star _ (by simp; omega), init_ok (fun x hm => by rcases List.mem_append.mp hm with q | q; exact hx x q; exact hy x q), make_ok]
theorem add_odd (xs : List Mv) {d : D} (h : d ∈ odd4) : m_Run___add__ [RN xs, d] = .ex (err d) () := by
  unfold m_Run___add__
  simp only [f_moves, m_mo, mo_odd xs h, call_ex]
theorem add_bad {xs : List Mv} {o : D} {ds : List D} (h : Oks xs) (ho : o ∈ odd) (hl : xs.length + ds.length ≤ 100) : m_Run___add__ [RN [], .tup (xs.map Mv.d ++ o :: ds)] = .ex (err o) () := by
  unfold m_Run___add__
  simp only [f_moves, m_mo, mo_tup, call_ok]
  rw [add_tup, if_pos (by simp; omega), lft_some, asQ_tup, List.map_nil, List.nil_append, init_star _ (by simp; omega), init_bad h ho]
  rfl
end K12

namespace K12
open PySem L2 DM PL
theorem int_ok (i n : Int) : m_is_integer [.int i, .int 0, .int n] = .ok (.bl (decide (0 ≤ i) && decide (i ≤ n))) := by
  have e1 : isiG [.int i, .ty "int"] = some (.bl true) := id rfl
  have e2 : isiG [.int i, .ty "bool"] = some (.bl false) := id rfl
  unfold m_is_integer
  simp only [e1, e2, lft_some, asB_bl, le_int, bind_ok, Bool.not_false, if_true]
  cases decide (0 ≤ i) <;> rfl
section
variable {β γ : Type} (xs : List Mv)
theorem get_r (d : D) (xb : β) (k : D → R β γ) : R.dun mt___getitem__ (RN xs) [d] xb k = R.call (m_Run___getitem__ [RN xs, d]) xb k := id rfl
theorem in_r (n : Bool) (d : D) (xb : β) (k : D → R β γ) : R.inO mt___contains__ n xb d (RN xs) k = R.call (m_Run___contains__ [RN xs, d]) xb fun z => R.asB z fun q => k (.bl (q != n)) := id rfl
theorem p_hands (k : D → R β γ) : R.propOf mp_hands (RN xs) k = R.prop (m_Run_hands [RN xs]) k := id rfl
end
theorem get_ok {xs : List Mv} {i : Nat} {x : Mv} (h : xs[i]? = some x) : m_Run___getitem__ [RN xs, .int i] = .ok x.d := by
  have hi := (List.getElem?_eq_some_iff.mp h).1
  have e : (decide ((0 : Int) ≤ i) && decide ((i : Int) ≤ (xs.length : Int) - 1)) = true := by simp; omega
  unfold m_Run___getitem__
  simp only [f_moves, len_tup, List.length_map, lft_some, sub_int, int_ok, e, call_ok, asB_bl, Bool.not_true, Bool.false_eq_true, if_false, PL.ix_tup]
  rw [at_nat (by rw [List.getElem?_map, h]; rfl), lft_some]
theorem get_no {xs : List Mv} {d : D} (h : m_is_integer [d, .int 0, .int ((xs.length : Int) - 1)] = .ok (.bl false)) : m_Run___getitem__ [RN xs, d] = .ex ⟨"InvalidNumber", [("value", d)]⟩ () := by
  unfold m_Run___getitem__
  simp only [f_moves, len_tup, List.length_map, lft_some, sub_int, h, call_ok, asB_bl, Bool.not_false, if_true, raise1]
theorem has_ok {xs : List Mv} {x : Mv} (hx : x.ok) (hm : x ∈ xs) : m_Run___contains__ [RN xs, x.d] = .ok (.bl true) := by
  unfold m_Run___contains__
  simp only [mv_ok hx, call_ok, asB_bl, if_true, f_moves, encM.in_t (by decide), lft_some, hm, decide_true, bind_ok]
theorem has_no (xs : List Mv) {d : D} (h : m_is_move [d] = .ok (.bl false)) : m_Run___contains__ [RN xs, d] = .ok (.bl false) := by
  unfold m_Run___contains__
  simp only [h, call_ok, asB_bl, Bool.false_eq_true, if_false, bind_ok]
theorem refused_ok {xs : List Mv} {m n : Nat} {d : D} (h : m_is_integer [d, .int 0, .int ((xs.length : Int) - 1)] = .ok (.bl false)) (hs : Sh m n d) (hm : m ≤ 60) (hn : n ≤ 1000) : m__law_index_refused [RN xs, d] = .ok (.bl true) := by
  have hr := reprA_ok hs hm (by omega)
  have x1 : ∀ (x : D), xget (Exn.mk "InvalidNumber" [("value", x)]).fs "value" = some x := fun _ => rfl
  have hmt : mt_InvalidNumber "InvalidNumber" = some true := by decide +kernel
  unfold m__law_index_refused
  simp only [get_r, get_no h, call_ex]
  rw [tryc_ex _ _ _ _ _ hmt]
  simp only [x1, lft_some, hr, eq_str, decide_true, fin_ok, out_rt]
theorem sh_m1 : Sh 0 10 (.int (-1)) := ⟨by decide +kernel, by decide +kernel, by decide +kernel, by decide +kernel, by decide +kernel⟩
theorem refs_ok {xs : List Mv} (h9 : xs.length ≤ 100) {d : D} (hd : d ∈ [D.int (-1), .int (xs.length : Int), .non, .bl true, .str "0"]) : m__law_index_refused [RN xs, d] = .ok (.bl true) := by
  simp only [List.mem_cons, List.not_mem_nil, or_false] at hd
  rcases hd with rfl | rfl | rfl | rfl | rfl
  · exact refused_ok (by rw [int_ok]; simp) sh_m1 (by decide) (by decide)
  · exact refused_ok (by rw [int_ok]; congr 2; simp; omega) (sh_nat xs.length (by omega)) (by decide) (by decide)
  · exact refused_ok (by rfl) sh_non (by decide) (by decide)
  · exact refused_ok (by rfl) (sh_bl true) (by decide) (by decide)
  · exact refused_ok (by rfl) (sh_str "0" (by decide +kernel)) (by decide) (by decide +kernel)
theorem cnt_l (xs : List Mv) (m : Mv) : cntG (.lst (xs.map Mv.d)) [m.d] = some (.int (((pds (xs.map Mv.d)).countP fun z => PyData.eqv z (pd m.d) : Nat) : Int)) := by
  unfold cntG
  simp only [encM.shp (by decide) m, encM.shpL (by decide) xs, Bool.and_self, if_true]
theorem cnt_t (xs : List Mv) (m : Mv) : cntG (.tup (xs.map Mv.d)) [m.d] = some (.int (((pds (xs.map Mv.d)).countP fun z => PyData.eqv z (pd m.d) : Nat) : Int)) := by
  unfold cntG
  simp only [encM.shp (by decide) m, shp_tl, encM.shpL (by decide) xs, Bool.and_self, if_true]
theorem hands_ok (xs : List Mv) : m_Run_hands [RN xs] = .ok (.int (((pds (xs.map Mv.d)).countP fun z => PyData.eqv z (pd (Mv.d .come)) : Nat) : Int)) := by
  have g : gCOME = .str "come" := id rfl
  unfold m_Run_hands
  simp only [f_moves, asQ_tup, g, few1]
  rw [show (D.tup [.str "come"]) = Mv.d .come from rfl, cnt_t, lft_some]
theorem basic_ok {xs : List Mv} (h : Oks xs) (hl : xs.length ≤ 100) : m__law_basic [RN xs, .tup (xs.map Mv.d)] = .ok (.bl true) := by
  have e1 : neG (.int (xs.length : Nat)) (.int (xs.length : Nat)) = some (.bl false) := by rw [ne_int]; simp
  have e2 : m_Run_listed [RN xs] = .ok (.lst (xs.map Mv.d)) := by
    unfold m_Run_listed
    simp only [f_moves, list_tup, lft_some]
  have e3 : neG (.lst (xs.map Mv.d)) (.lst (xs.map Mv.d)) = some (.bl false) := by
    have := encM.lst.neG (by decide) xs xs
    simpa using this
  unfold m__law_basic
  simp only [len_row xs hl, len_tup, List.length_map, lft_some, e1, asB_bl, Bool.false_eq_true, if_false, m_li, e2, call_ok, list_tup, e3, p_hands, hands_ok, prop_ok, asQ_lst, few1]
  rw [show (D.tup [.str "come"]) = Mv.d .come from rfl, cnt_l, lft_some, ne_int, lft_some, asB_bl, decide_eq_true rfl]
  simp only [Bool.not_true, bind_ok, Bool.false_eq_true, if_false]
  rw [rng1_nat _ (by omega), for_unit, after_nx]
  · simp only [few2, few6, items_lst]
    rw [for_unit, after_nx]
    · rw [asI_int, few5, few5, fmapS_ok (g := fun _ => none)]
      · rfl
      · intro d hd
        rw [refs_ok hl hd, call_ok, asB_bl]
        rfl
    · intro d hd
      have hn : m_is_move [d] = .ok (.bl false) := by
        simp only [List.mem_cons, List.not_mem_nil, or_false] at hd
        rcases hd with rfl | rfl | rfl | rfl | rfl | rfl <;> rfl
      rw [in_r, has_no xs hn, call_ok]
      rfl
  · intro d hd
    obtain ⟨i, hi, rfl⟩ := rng_mem hd
    obtain ⟨x, hx⟩ : ∃ x, xs[i]? = some x := ⟨_, List.getElem?_eq_getElem hi⟩
    have hm := List.mem_of_getElem? hx
    simp only [get_r, get_ok hx, call_ok, PL.ix_tup]
    rw [at_nat (by rw [List.getElem?_map, hx]; rfl)]
    simp only [lft_some, neM, decide_true, Bool.not_true, asB_bl, Bool.false_eq_true, if_false, in_r, has_ok (h x hm) hm, call_ok, bind_ok]
    rfl
end K12

namespace K12
open PySem L2 DM PL
section
variable {β γ : Type} (xs ys : List Mv) (xb : β) (k : D → R β γ)
theorem addO_r : R.addO mt___add__ ca_add xb (RN xs) (RN ys) k = R.call (m_Run___add__ [RN xs, RN ys]) xb fun z => R.asO z k := id rfl
theorem addO_t (ds : List D) : R.addO mt___add__ ca_add xb (RN xs) (.tup ds) k = R.call (m_Run___add__ [RN xs, .tup ds]) xb fun z => R.asO z k := id rfl
theorem addO_l (ds : List D) : R.addO mt___add__ ca_add xb (RN xs) (.lst ds) k = R.call (m_Run___add__ [RN xs, .lst ds]) xb fun z => R.asO z k := id rfl
theorem raddO_t (ds : List D) : R.raddO mt___radd__ ca_add xb (.tup ds) (RN xs) k = R.call (m_Run___radd__ [RN xs, .tup ds]) xb fun z => R.asO z k := id rfl
theorem raddO_l (ds : List D) : R.raddO mt___radd__ ca_add xb (.lst ds) (RN xs) k = R.call (m_Run___radd__ [RN xs, .lst ds]) xb fun z => R.asO z k := id rfl
theorem addN_t (ds : List D) : R.addN mt___add__ ca_add (RN xs) (.tup ds) k = R.prop (m_Run___add__ [RN xs, .tup ds]) fun z => R.asO z k := id rfl
theorem asO_r : R.asO (RN xs) k = k (RN xs) := id rfl
theorem eqO_r (n : Bool) : R.eqO mt___eq__ sb_eq n xb (RN xs) (RN ys) k = R.call (m_Run___eq__ [RN xs, RN ys]) xb fun z => R.asB z fun q => k (.bl (q != n)) := id rfl
theorem eqO_t (n : Bool) (ds : List D) : R.eqO mt___eq__ sb_eq n xb (RN xs) (.tup ds) k = R.call (m_Run___eq__ [RN xs, .tup ds]) xb fun z => R.asB z fun q => k (.bl (q != n)) := id rfl
theorem addO_odd {d : D} (h : d ∈ odd4) : R.addO mt___add__ ca_add xb (RN xs) d k = R.call (m_Run___add__ [RN xs, d]) xb fun z => R.asO z k := by
  simp only [odd4, List.mem_cons, List.not_mem_nil, or_false] at h
  rcases h with rfl | rfl | rfl | rfl <;> exact id rfl
end
theorem eq_ok (xs ys : List Mv) : m_Run___eq__ [RN xs, RN ys] = .ok (.bl (decide (xs = ys))) := by
  have e := encM.tup.eqG (by decide) xs ys
  unfold m_Run___eq__
  simp only [isi_run, asB_bl, if_true, f_moves]
  rw [e, lft_some, bind_ok]
theorem eq_tup (xs : List Mv) (ds : List D) : m_Run___eq__ [RN xs, .tup ds] = .ok (.bl false) := by
  unfold m_Run___eq__
  simp only [isi_tup, asB_bl, Bool.false_eq_true, if_false, bind_ok]
theorem rep_odd4 {d : D} (h : d ∈ odd4) : ∃ s : Str, reprA [d] = some (.str s) ∧ PyData.strOk s = true := by
  simp only [odd4, List.mem_cons, List.not_mem_nil, or_false] at h
  rcases h with rfl | rfl | rfl | rfl
  · exact ⟨_, reprA_ok sh_non (by decide) (by decide), by decide +kernel⟩
  · exact ⟨_, reprA_ok (sh_nat 5 (by decide)) (by decide) (by decide), by decide +kernel⟩
  · exact ⟨_, reprA_ok (sh_str "come" (by decide +kernel)) (by decide) (by decide +kernel), by decide +kernel⟩
  · exact ⟨"{}", rfl, by decide +kernel⟩
theorem x_mv (x : D) : xget (err x).fs "move" = some x := rfl
theorem mt_mv (x : D) : mt_InvalidMove (err x).C = some true := by
  show mt_InvalidMove "InvalidMove" = some true
  decide +kernel
theorem ne_s1 (s : Str) (h : PyData.strOk s = true) : neG (.lst [.str s]) (.lst [.str s]) = some (.bl false) := by
  have e : shp (.lst [.str s]) = true := by
    refine shp_of ?_ ?_
    · simp only [pd, pds, PyData.canLay0, PyData.canLayAll0, h, Bool.and_self]
    · simp only [pd, pds, PyData.depth, PyData.depthAll]; decide
  rw [ne_shp e e]
  simp [pd, pds, PyData.eqv, PyData.eqvAll]
theorem sum_odd (xs : List Mv) {d : D} (h : d ∈ odd4) {s : Str} (hs : reprA [d] = some (.str s)) : m__law_sum [RN xs, d] = .ok (.lst [.str s]) := by
  unfold m__law_sum
  simp only [addO_odd xs () _ h, add_odd xs h, call_ex]
  rw [tryc_ex _ _ _ _ _ (mt_mv d)]
  simp only [x_mv, lft_some, hs, few1, fin_ok, out_rt]
theorem both_ok {xs ys : List Mv} (hx : Oks xs) (hy : Oks ys) (h1 : xs.length ≤ 20) (h2 : ys.length ≤ 20) : m__law_both_right [.tup (xs.map Mv.d), .tup (ys.map Mv.d)] = .ok (.bl true) := by
  have hxy : Oks (xs ++ ys) := fun x hm => by rcases List.mem_append.mp hm with q | q; exact hx x q; exact hy x q
  have hl : xs.length + ys.length ≤ 100 := by omega
  have ea : addA (.tup (xs.map Mv.d)) (.tup (ys.map Mv.d)) = some (.tup ((xs ++ ys).map Mv.d)) := by
    rw [add_tup, if_pos (by simp; omega), List.map_append]
  have n0 : neG (.lst []) (.lst []) = some (.bl false) := id rfl
  have q0 : eqG (.lst []) (.lst []) = some (.bl true) := id rfl
  have et : eqG (.tup (xs.map Mv.d)) (.tup (ys.map Mv.d)) = some (.bl (decide (xs = ys))) := encM.tup.eqG (by decide) xs ys
  unfold m__law_both_right
  simp only [of_t hx (by omega), of_t hy (by omega), call_ok, ea, lft_some, few2, tup2_tup, addO_r, addO_t, addO_l, raddO_t, raddO_l, list_tup, add_r hx hy hl (mo_run xs ys), add_r hx hy hl (mo_tup xs _), add_r hx hy hl (mo_lst xs _), radd_r hx hy hl (mo_tup ys _), radd_r hx hy hl (mo_lst ys _), asO_r, few5, items_lst]
  rw [fmapS_ok (g := fun _ => none)]
  · simp only [List.filterMap_cons, List.filterMap_nil, lst_ok, few0, n0, lft_some, asB_bl, Bool.false_eq_true, if_false, addN_t, add_r hx hy hl (mo_tup xs _), prop_ok, asO_r, of_t hxy (by simp; omega), call_ok, eqO_r, eq_ok, decide_true, basic_ok hx (by omega), Bool.not_true, et, ne_bl, bind_ok, Bool.bne_false, bne_self_eq_false, few4, items_lst]
    rw [fmapS_ok (g := fun _ => none)]
    · simp only [List.filterMap_cons, List.filterMap_nil, lst_ok, q0, lft_some]
    · intro d hd
      have hd' : d ∈ odd4 := hd
      obtain ⟨s, e, ho⟩ := rep_odd4 hd'
      rw [sum_odd xs hd' e, call_ok, e, lft_some, few1, ne_s1 s ho, lft_some, asB_bl]
      rfl
  · intro d hd
    have : d = RN (xs ++ ys) := by
      simp only [List.mem_cons, List.not_mem_nil, or_false] at hd
      rcases hd with h | h | h | h | h <;> exact h
    subst this
    rw [basic_ok hxy (by simp; omega), call_ok, asB_bl]
    rfl
theorem rep_odd {d : D} (h : d ∈ odd) : ∃ s : Str, reprA [d] = some (.str s) ∧ PyData.strOk s = true := by
  have key : ∀ d : D, (pd d).canLay0 = true → (pd d).showable = true → (pd d).hasDict = false → (pd d).depth ≤ 60 → (pd d).shown.length ≤ 1000 → PyData.strOk (pd d).shown = true → ∃ s : Str, reprA [d] = some (.str s) ∧ PyData.strOk s = true := fun d a b c e f g => ⟨_, reprA_ok ⟨a, b, c, e, f⟩ (by decide) (by decide), g⟩
  simp only [odd, List.mem_cons, List.not_mem_nil, or_false] at h
  rcases h with rfl | rfl | rfl | rfl | rfl | rfl | rfl | rfl | rfl | rfl <;> exact key _ (by decide +kernel) (by decide +kernel) (by decide +kernel) (by decide +kernel) (by decide +kernel) (by decide +kernel)
theorem wrong_ok {xs : List Mv} {o : D} {ds : List D} (h : Oks xs) (ho : o ∈ odd) {s : Str} (hs : reprA [o] = some (.str s)) : m__law_wrong [.tup (xs.map Mv.d ++ o :: ds)] = .ok (.lst [.str s]) := by
  unfold m__law_wrong
  simp only [items_tup]
  rw [for_pre, for_cons, (odd_no ho).2, call_ok, asB_bl, hs]
  · simp only [Bool.not_false, if_true, lft_some, few1, turn_rt, after_rt]
  · intro d hd
    obtain ⟨x, hx, rfl⟩ := List.mem_map.mp hd
    rw [lmv_ok (h x hx), call_ok, asB_bl]
    rfl
theorem made_ok {xs : List Mv} {o : D} {ds : List D} (h : Oks xs) (ho : o ∈ odd) (hl : xs.length + ds.length ≤ 100) {s : Str} (hs : reprA [o] = some (.str s)) : m__law_made [.tup (xs.map Mv.d ++ o :: ds)] = .ok (.lst [.str s]) := by
  unfold m__law_made
  simp only [of_bad h ho hl, call_ex]
  rw [tryc_ex _ _ _ _ _ (mt_mv o)]
  simp only [x_mv, lft_some, hs, few1, fin_ok, out_rt]
theorem sum_ok {xs : List Mv} {o : D} {ds : List D} (h : Oks xs) (ho : o ∈ odd) (hl : xs.length + ds.length ≤ 100) {s : Str} (hs : reprA [o] = some (.str s)) : m__law_sum [RN [], .tup (xs.map Mv.d ++ o :: ds)] = .ok (.lst [.str s]) := by
  unfold m__law_sum
  simp only [addO_t, add_bad h ho hl, call_ex]
  rw [tryc_ex _ _ _ _ _ (mt_mv o)]
  simp only [x_mv, lft_some, hs, few1, fin_ok, out_rt]
theorem draw_eq : m__law_draw = PL.m_draw := rfl
theorem pick_eq : m__law_pick = PL.m_pick := rfl
theorem pool_eq : m__law_pool = PL.m_pool := rfl
theorem one_ok {good : List Mv} (hg : Oks good) (h0 : 0 < good.length) {w : D} (hw : Pool w) : ∃ (xs : List Mv) (w' : D), (R.call1e (m__law_draw [w, (.int 9)]) () fun x65 w67 => R.rng1 x65 fun l64 => R.few l64 fun l74 => R.lst (R.fmapS (fun d68 w69 => R.call1e (m__law_pick [w69, (.lst (good.map Mv.d))]) () fun x70 w72 => R.ok (some x70, w72)) l74 w67) fun x75 w76 => R.lft (tupleG [x75]) fun x62 => R.ok (some x62, w76) : R Unit (Option D × D)) = .ok (some (.tup (xs.map Mv.d)), w') ∧ (Oks xs ∧ xs.length ≤ 8) ∧ Pool w' := by
  obtain ⟨v, p1, e1, hv, hp1⟩ := draw_ok (m := 9) hw (by decide)
  have hf : ∀ (d w : D), Pool w → ∃ (x : Mv) (w' : D), (fun (d68 w69 : D) => R.call1e (m__law_pick [w69, .lst (good.map Mv.d)]) () fun x70 w72 => R.ok (some x70, w72) : D → D → R Unit (Option D × D)) d w = .ok (some x.d, w') ∧ x ∈ good ∧ Pool w' := fun d w hw => by
    obtain ⟨x, w', h1, h2, h3⟩ := pick_enc (e := Mv.d) (xs := good) hw h0
    exact ⟨x, w', by simp only [pick_eq, h1, call1e_ok], h2, h3⟩
  obtain ⟨xs, p2, e2, l2, m2, hp2⟩ := fmap_pool (e := Mv.d) (ok := fun x => x ∈ good) hf (rngD 0 v) p1 hp1
  rw [rng_len] at l2
  refine ⟨xs, p2, ?_, ⟨fun x hx => hg x (m2 x hx), by omega⟩, hp2⟩
  rw [draw_eq, e1, call1e_ok, rng1_nat v (by omega), few_eq, if_pos (by rw [rng_len]; omega), e2, lst_ok]
  rfl
theorem cell_ok (c : Int) (i : Nat) (hi : i ≤ 63) : (R.lft (addA (.int 1200) (.int (i : Nat))) fun x14 => R.call (m__law_pool [(.int c), x14, (.int 80)]) () fun x13 => R.few [(.str "come")] fun l146 => R.few [(.str "step")] fun l147 => R.call1e (m__law_draw [x13, (.int 14)]) () fun x22 w24 => R.few [(.str "go"), x22] fun l25 => R.few [(.str "begin"), (.str "w")] fun l148 => R.few [(.str "run"), (.str "wwwwwwww")] fun l149 => R.few [(.str "come")] fun l150 => R.few [(.tup l146), (.tup l147), (.tup l25), (.tup l148), (.tup l149), (.tup l150)] fun l29 => R.few [(.str "go"), (.int 14)] fun l140 => R.asI (.int 1) fun x31 => R.few [(.str "go"), (.int (-x31))] fun l141 => R.few [(.str "begin"), (.str "")] fun l142 => R.few [(.str "run"), (.int 5)] fun l143 => R.few [(.str "out")] fun l144 => R.few [(.tup l140), (.tup l141), (.tup l142), (.tup l143), (.tup l144), .non] fun l145 => R.few [(.str "come")] fun l135 => R.few [] fun l136 => R.few [(.str "step"), (.int 1)] fun l137 => R.few [(.str "go"), (.bl true)] fun l138 => R.few [(.lst l135), (.tup l136), (.tup l137), (.tup l138)] fun l139 => R.lft (addA (.lst l145) (.lst l139)) fun x33 => R.rng1 (.int 2) fun l59 => R.few l59 fun l78 => R.lst (R.fmapS (fun d60 w61 => R.call1e (m__law_draw [w61, (.int 9)]) () fun x65 w67 => R.rng1 x65 fun l64 => R.few l64 fun l74 => R.lst (R.fmapS (fun d68 w69 => R.call1e (m__law_pick [w69, (.lst l29)]) () fun x70 w72 => R.ok (some x70, w72)) l74 w67) fun x75 w76 => R.lft (tupleG [x75]) fun x62 => R.ok (some x62, w76)) l78 w24) fun x79 w80 => R.lft (ixG x79 (.int 0)) fun x83 => R.lft (ixG x79 (.int 1)) fun x82 => R.call (m__law_both_right [x83, x82]) () fun x81 => R.asB x81 fun b84 => if (!b84) then R.ok (Step.rt (.bl false) ()) else R.lft (ixG x79 (.int 0)) fun x88 => R.lft (lenG [x88]) fun x89 => R.lft (addA x89 (.int 1)) fun x90 => R.call1e (m__law_draw [w80, x90]) () fun x86 w91 => R.lft (ixG x79 (.int 0)) fun x100 => R.asI x86 fun i101 => R.lft (slG x100 none (some i101)) fun x102 => R.call1e (m__law_pick [w91, x33]) () fun x104 w106 => R.few [x104] fun l107 => R.lft (addA x102 (.tup l107)) fun x98 => R.lft (ixG x79 (.int 0)) fun x108 => R.asI x86 fun i109 => R.lft (slG x108 (some i109) none) fun x110 => R.lft (addA x98 x110) fun x96 => R.few [.non] fun l134 => R.lft (addA x96 (.tup l134)) fun x94 => R.bind (R.call (m__law_made [x94]) () fun x117 => R.call (m__law_wrong [x94]) () fun x118 => R.lft (neG x117 x118) fun x119 => R.asB x119 fun b120 => if b120 then R.ok true else R.make (m_Run___init__ [(.obj "Run" [])]) () fun x113 => R.call (m__law_sum [x113, x94]) () fun x112 => R.call (m__law_wrong [x94]) () fun x114 => R.lft (neG x112 x114) fun x115 => R.asB x115 fun b116 => R.ok b116) fun b121 => if b121 then R.ok (Step.rt (.bl false) ()) else R.lft (addA (.lst l29) x33) fun x122 => R.items x122 fun l123 => R.few l123 fun l131 => R.lst (R.fmapS (fun d124 _ => R.call (m_is_move [d124]) () fun x125 => R.call (m__law_is_move [d124]) () fun x126 => R.lft (neG x125 x126) fun x127 => R.asB x127 fun b128 => if b128 then R.ok (some d124, ()) else R.ok (none, ())) l131 ()) fun x132 _ => R.few [] fun l133 => R.lft (neG x132 (.lst l133)) fun x129 => R.asB x129 fun b130 => if b130 then R.ok (Step.rt (.bl false) ()) else R.ok (Step.nx ()) : R Unit (Step Unit)) = R.ok (Step.nx ()) := by
  obtain ⟨p, e1, hp⟩ := pool_ok c (1200 + (i : Int)) 80 (by omega) (by decide)
  have e1' : PL.m_pool [.int c, .int (1200 + (i : Int)), .int 80] = R.ok p := e1
  obtain ⟨v, p1, e2, hv, hp1⟩ := draw_ok (m := 14) hp (by decide)
  have hg : Oks [.come, .step, .go v, .beg, .run, .come] := fun x hx => by
    simp only [List.mem_cons, List.not_mem_nil, or_false] at hx
    rcases hx with rfl | rfl | rfl | rfl | rfl | rfl <;> first | exact True.intro | (show v ≤ 13; omega)
  rw [add_int, lft_some, pool_eq, e1', call_ok, few1, few1, draw_eq, e2, call1e_ok, few2, few2, few2, few1, few6, few2, asI_int, few2, few2, few2, few1, few6, few1, few0, few2, few2, few4]
  have eo : addA (.lst [.tup [.str "go", .int 14], .tup [.str "go", .int (-1)], .tup [.str "begin", .str ""], .tup [.str "run", .int 5], .tup [.str "out"], .non]) (.lst [.lst [.str "come"], .tup [], .tup [.str "step", .int 1], .tup [.str "go", .bl true]]) = some (.lst odd) := by
    rw [add_lst, if_pos (by simp)]; rfl
  rw [eo, lft_some, show [D.tup [.str "come"], .tup [.str "step"], .tup [.str "go", .int (v : Nat)], .tup [.str "begin", .str "w"], .tup [.str "run", .str "wwwwwwww"], .tup [.str "come"]] = [Mv.come, .step, .go v, .beg, .run, .come].map Mv.d from rfl]
  generalize hgd : [Mv.come, .step, .go v, .beg, .run, .come] = good at hg
  have h0 : 0 < good.length := by rw [← hgd]; simp
  have hl6 : good.length = 6 := by rw [← hgd]; rfl
  obtain ⟨xss, p3, e3, l3, m3, hp3⟩ := fmap_pool (e := fun xs : List Mv => D.tup (xs.map Mv.d)) (ok := fun xs => Oks xs ∧ xs.length ≤ 8) (I := Pool) (f := fun d60 w61 => R.call1e (m__law_draw [w61, (.int 9)]) () fun x65 w67 => R.rng1 x65 fun l64 => R.few l64 fun l74 => R.lst (R.fmapS (fun d68 w69 => R.call1e (m__law_pick [w69, (.lst (good.map Mv.d))]) () fun x70 w72 => R.ok (some x70, w72)) l74 w67) fun x75 w76 => R.lft (tupleG [x75]) fun x62 => R.ok (some x62, w76)) (fun d w hw => one_ok hg h0 hw) (rngD 0 2) p1 hp1
  rw [rng_len] at l3
  match xss, l3, m3, e3 with
  | [xs, ys], _, m3, e3 =>
  obtain ⟨hx, hxl⟩ := m3 xs (by simp)
  obtain ⟨hy, hyl⟩ := m3 ys (by simp)
  rw [show (2 : Int) = ((2 : Nat) : Int) from rfl, rng1_nat 2 (by omega), few_eq, if_pos (by rw [rng_len]; omega)]
  rw [draw_eq] at e3
  rw [e3, lst_ok]
  have i0 : ∀ a b : D, ixG (.lst [a, b]) (.int 0) = some a := fun _ _ => rfl
  have i1 : ∀ a b : D, ixG (.lst [a, b]) (.int 1) = some b := fun _ _ => rfl
  simp only [List.map_cons, List.map_nil, i0, i1, lft_some, both_ok hx hy (by omega) (by omega), call_ok, asB_bl, Bool.not_true, Bool.false_eq_true, if_false, len_tup, List.length_map, add_int]
  obtain ⟨at', p4, e4, h4, hp4⟩ := draw_ok (m := (xs.length : Int) + 1) hp3 (by omega)
  obtain ⟨o, p5, e5, ho, hp5⟩ := pick_ok (xs := odd) hp4 (by decide)
  obtain ⟨s, hs, hso⟩ := rep_odd ho
  have e5' : m__law_pick [p4, .lst odd] = .ok (o, p5) := by rw [pick_eq]; exact e5
  have hxt : Oks (xs.take at') := fun x hm => hx x (List.mem_of_mem_take hm)
  have espo : ((xs.take at').map Mv.d ++ [o]) ++ (xs.drop at').map Mv.d ++ [D.non] = (xs.take at').map Mv.d ++ o :: ((xs.drop at').map Mv.d ++ [D.non]) := by simp
  have hls : (xs.take at').length + ((xs.drop at').map Mv.d ++ [D.non]).length ≤ 100 := by simp; omega
  rw [e4, call1e_ok, asI_int, PL.sl_tup, lft_some, e5', call1e_ok, few1, cut_lo, ← List.map_take, add_tup, if_pos (by simp; omega), lft_some, asI_int, PL.sl_tup, lft_some, cut_hi, ← List.map_drop, add_tup, if_pos (by simp; omega), lft_some, few1, add_tup, if_pos (by simp; omega), lft_some, espo]
  have i00 : m_Run___init__ [.obj "Run" []] = .ok (.non, RN []) := by
    rw [init_star [] (by simp)]
    exact init_ok (xs := []) (fun x hx => by cases hx)
  simp only [made_ok hxt ho hls hs, wrong_ok hxt ho hs, call_ok, ne_s1 s hso, lft_some, asB_bl, Bool.false_eq_true, if_false, i00, make_ok, sum_ok hxt ho hls hs, bind_ok]
  rw [add_lst, if_pos (by simp [odd]; omega), lft_some, items_lst, few_eq, if_pos (by simp [odd]; omega), fmapS_ok (g := fun _ => none)]
  · have : ∀ l : List D, l.filterMap (fun _ => (none : Option D)) = [] := fun l => by induction l <;> simp
    rw [this, lst_ok, few0]
    rfl
  · intro d hd
    rcases List.mem_append.mp hd with q | q
    · obtain ⟨x, hx, rfl⟩ := List.mem_map.mp q
      rw [mv_ok (hg x hx), call_ok, lmv_ok (hg x hx), call_ok, ne_bl, lft_some, asB_bl]
      rfl
    · rw [(odd_no q).1, call_ok, (odd_no q).2, call_ok, ne_bl, lft_some, asB_bl]
      rfl
theorem law_holds (ns : List Int) (hl : ns.length ≤ 63) : m_law [.lst (ns.map .int)] = .ok (.bl true) := by
  unfold m_law
  simp only
  refine cells_ok ns hl 6 (by decide) 7 _ (fun cs hcs => ?_)
  rw [for_enum_unit, after_nx]
  · have i00 : m_Run___init__ [.obj "Run" []] = .ok (.non, RN []) := by
      rw [init_star [] (by simp)]
      exact init_ok (xs := []) (fun x hx => by cases hx)
    have hk : Oks [.come, .step] := fun x hx => by
      simp only [List.mem_cons, List.not_mem_nil, or_false] at hx
      rcases hx with rfl | rfl <;> exact True.intro
    have i2 : m_Run___init__ [.obj "Run" [], .tup [.str "come"], .tup [.str "step"]] = .ok (.non, RN [.come, .step]) := by
      rw [init_star [.tup [.str "come"], .tup [.str "step"]] (by simp)]
      exact init_ok (xs := [.come, .step]) hk
    have o2 : m_Run_of [.lst [.tup [.str "come"], .tup [.str "step"]]] = .ok (RN [.come, .step]) := of_l (xs := [.come, .step]) hk (by decide)
    simp only [i00, make_ok, len_row [] (by simp), eq_int, lft_some, asB_bl, few1, few2, i2, o2, call_ok, eqO_r, eq_ok, decide_true, few0, eqO_t, eq_tup, bind_ok, List.length_nil]
    rfl
  · intro i c hi
    have hil := (List.getElem?_eq_some_iff.mp hi).1
    rw [tup2_tup]
    exact cell_ok c i (by omega)
end K12

open PySem PySem.W PyProof.Rows
set_option maxHeartbeats 0 in
theorem PySem.Challenge.cw_pulledout_k12_runs_as_values_holds : PySem.Challenge.rw_pulledout_k12_runs_as_values.Holds := by
  w_on; o_law; k_head; (case hw => w_witness2)
  k_fill
  refine DM.walkM (l := PySem.Challenge.rw_pulledout_k12_runs_as_values) (n := 63) (k := 9) (x := "_law_script") (mf := K12.m_law) rfl (by decide) rfl ⟨rfl, by decide, by decide⟩ (fun w h Y => PySem.W.kIn_of Y) ?L (fun ns hl => K12.law_holds ns hl) ?F
  case L => exact fun w => rfl
  case F =>
    intro w mg fa h KX G hmg
    refine' K12.all_mk KX G hmg ?Ha_Run ?Hpg_Run ?Hhd_Run ?Hpo_Run ?Hsa_Run ?Hn_Run_own_moves ?Hm_Run___eq__ ?Hi_Run___eq__ ?Hl_Run___eq__ ?Hc_Run___eq__ ?Hk_Run___eq__ ?Hm_Run___len__ ?Hi_Run___len__ ?Hl_Run___len__ ?Hc_Run___len__ ?Hk_Run___len__ ?Ha_is_integer ?Hl_is_integer ?Hc_is_integer ?Hk_is_integer ?Ha_is_name ?Hl_is_name ?Hc_is_name ?Hk_is_name ?Ha_is_move ?Hl_is_move ?Hc_is_move ?Hk_is_move ?Hm_Run___init__ ?Hi_Run___init__ ?Hmk_Run ?Hkc_Run ?Hl_Run___init__ ?Hc_Run___init__ ?Hk_Run___init__ ?Hrd_Run_of ?Hga_Run_of ?Hat_Run_of ?Hrc_Run_of ?Hl_Run_of ?Hc_Run_of ?Hk_Run_of ?Hm_Run_moves_of ?Hi_Run_moves_of ?Hl_Run_moves_of ?Hc_Run_moves_of ?Hk_Run_moves_of ?Hm_Run___add__ ?Hi_Run___add__ ?Hl_Run___add__ ?Hc_Run___add__ ?Hk_Run___add__ ?Hm_Run___radd__ ?Hi_Run___radd__ ?Hl_Run___radd__ ?Hc_Run___radd__ ?Hk_Run___radd__ ?Hm_Run___contains__ ?Hi_Run___contains__ ?Hl_Run___contains__ ?Hc_Run___contains__ ?Hk_Run___contains__ ?Hm_Run___getitem__ ?Hi_Run___getitem__ ?Hl_Run___getitem__ ?Hc_Run___getitem__ ?Hk_Run___getitem__ ?Hm_Run_listed ?Hi_Run_listed ?Hl_Run_listed ?Hc_Run_listed ?Hk_Run_listed ?Hat_Run_Run_hands ?Hge_Run_hands ?Htk_Run_hands ?Hrc_Run_hands ?Hl_Run_hands ?Hc_Run_hands ?Hk_Run_hands ?Ha__law_index_refused ?Hl__law_index_refused ?Hc__law_index_refused ?Hk__law_index_refused ?Ha__law_basic ?Hl__law_basic ?Hc__law_basic ?Hk__law_basic ?Ha__law_sum ?Hl__law_sum ?Hc__law_sum ?Hk__law_sum ?Ha__law_both_right ?Hl__law_both_right ?Hc__law_both_right ?Hk__law_both_right ?Ha__law_draw ?Hl__law_draw ?Hc__law_draw ?Hk__law_draw ?Ha__law_is_move ?Hl__law_is_move ?Hc__law_is_move ?Hk__law_is_move ?Ha__law_made ?Hl__law_made ?Hc__law_made ?Hk__law_made ?Ha__law_pick ?Hl__law_pick ?Hc__law_pick ?Hk__law_pick ?Ha__law_numbers ?Hl__law_numbers ?Hc__law_numbers ?Hk__law_numbers ?Ha__law_pool ?Hl__law_pool ?Hc__law_pool ?Hk__law_pool ?Ha__law_wrong ?Hl__law_wrong ?Hc__law_wrong ?Hk__law_wrong ?Ha_law ?Hl_law ?Hc_law ?Hk_law ?Hz_all ?Hz_bool ?Hz_enumerate ?Hz_int ?Hz_isinstance ?Hz_len ?Hz_list ?Hz_max ?Hz_range ?Hz_repr ?Hz_str ?Hz_tuple ?Hg_BEGIN ?Hq_BEGIN ?Hg_COME ?Hq_COME ?Hg_GO ?Hq_GO ?Hg_LETTERS ?Hq_LETTERS ?Hg_MOST_LETTERS ?Hq_MOST_LETTERS ?Hg_RUN ?Hq_RUN ?Hg_STEP ?Hq_STEP ?Hx_InvalidMove ?Hx_InvalidNumber ?He_InvalidMove ?He_InvalidNumber ?Hxf_InvalidMove_move ?Hxf_InvalidNumber_value ?Hgc1 ?Hgc2 ?Hcl_Run ?Hmo_Run ?Hki_NoneType_Run ?Hki_bool_Run ?Hki_int_Run ?Hki_str_Run ?Hki_list_Run ?Hki_tuple_Run ?Hki_dict_Run ?Hko_Run_Run ?Hne_Run ?Hob_Run ?Hsf0_Run ?Hm2_Run ?Hia_Run ?Hfi_Run___getitem__
    (case Ha_Run => k_is)
    (case Hpg_Run => k_is)
    (case Hhd_Run => k_is)
    (case Hpo_Run => k_is)
    (case Hsa_Run => k_is)
    (case Hn_Run_own_moves => k_is)
    (case Hm_Run___eq__ => k_is)
    (case Hi_Run___eq__ => k_is)
    (case Hl_Run___eq__ => k_is)
    (case Hc_Run___eq__ => k_is)
    (case Hk_Run___eq__ => k_is)
    (case Hm_Run___len__ => k_is)
    (case Hi_Run___len__ => k_is)
    (case Hl_Run___len__ => k_is)
    (case Hc_Run___len__ => k_is)
    (case Hk_Run___len__ => k_is)
    (case Ha_is_integer => k_is)
    (case Hl_is_integer => k_is)
    (case Hc_is_integer => k_is)
    (case Hk_is_integer => k_is)
    (case Ha_is_name => k_is)
    (case Hl_is_name => k_is)
    (case Hc_is_name => k_is)
    (case Hk_is_name => k_is)
    (case Ha_is_move => k_is)
    (case Hl_is_move => k_is)
    (case Hc_is_move => k_is)
    (case Hk_is_move => k_is)
    (case Hm_Run___init__ => k_is)
    (case Hi_Run___init__ => k_is)
    (case Hmk_Run => k_is)
    (case Hkc_Run => k_is)
    (case Hl_Run___init__ => k_is)
    (case Hc_Run___init__ => k_is)
    (case Hk_Run___init__ => k_is)
    (case Hrd_Run_of => k_is)
    (case Hga_Run_of => k_is)
    (case Hat_Run_of => k_is)
    (case Hrc_Run_of => k_is)
    (case Hl_Run_of => k_is)
    (case Hc_Run_of => k_is)
    (case Hk_Run_of => k_is)
    (case Hm_Run_moves_of => k_is)
    (case Hi_Run_moves_of => k_is)
    (case Hl_Run_moves_of => k_is)
    (case Hc_Run_moves_of => k_is)
    (case Hk_Run_moves_of => k_is)
    (case Hm_Run___add__ => k_is)
    (case Hi_Run___add__ => k_is)
    (case Hl_Run___add__ => k_is)
    (case Hc_Run___add__ => k_is)
    (case Hk_Run___add__ => k_is)
    (case Hm_Run___radd__ => k_is)
    (case Hi_Run___radd__ => k_is)
    (case Hl_Run___radd__ => k_is)
    (case Hc_Run___radd__ => k_is)
    (case Hk_Run___radd__ => k_is)
    (case Hm_Run___contains__ => k_is)
    (case Hi_Run___contains__ => k_is)
    (case Hl_Run___contains__ => k_is)
    (case Hc_Run___contains__ => k_is)
    (case Hk_Run___contains__ => k_is)
    (case Hm_Run___getitem__ => k_is)
    (case Hi_Run___getitem__ => k_is)
    (case Hl_Run___getitem__ => k_is)
    (case Hc_Run___getitem__ => k_is)
    (case Hk_Run___getitem__ => k_is)
    (case Hm_Run_listed => k_is)
    (case Hi_Run_listed => k_is)
    (case Hl_Run_listed => k_is)
    (case Hc_Run_listed => k_is)
    (case Hk_Run_listed => k_is)
    (case Hat_Run_Run_hands => k_is)
    (case Hge_Run_hands => k_is)
    (case Htk_Run_hands => k_is)
    (case Hrc_Run_hands => k_is)
    (case Hl_Run_hands => k_is)
    (case Hc_Run_hands => k_is)
    (case Hk_Run_hands => k_is)
    (case Ha__law_index_refused => k_is)
    (case Hl__law_index_refused => k_is)
    (case Hc__law_index_refused => k_is)
    (case Hk__law_index_refused => k_is)
    (case Ha__law_basic => k_is)
    (case Hl__law_basic => k_is)
    (case Hc__law_basic => k_is)
    (case Hk__law_basic => k_is)
    (case Ha__law_sum => k_is)
    (case Hl__law_sum => k_is)
    (case Hc__law_sum => k_is)
    (case Hk__law_sum => k_is)
    (case Ha__law_both_right => k_is)
    (case Hl__law_both_right => k_is)
    (case Hc__law_both_right => k_is)
    (case Hk__law_both_right => k_is)
    (case Ha__law_draw => k_is)
    (case Hl__law_draw => k_is)
    (case Hc__law_draw => k_is)
    (case Hk__law_draw => k_is)
    (case Ha__law_is_move => k_is)
    (case Hl__law_is_move => k_is)
    (case Hc__law_is_move => k_is)
    (case Hk__law_is_move => k_is)
    (case Ha__law_made => k_is)
    (case Hl__law_made => k_is)
    (case Hc__law_made => k_is)
    (case Hk__law_made => k_is)
    (case Ha__law_pick => k_is)
    (case Hl__law_pick => k_is)
    (case Hc__law_pick => k_is)
    (case Hk__law_pick => k_is)
    (case Ha__law_numbers => k_is)
    (case Hl__law_numbers => k_is)
    (case Hc__law_numbers => k_is)
    (case Hk__law_numbers => k_is)
    (case Ha__law_pool => k_is)
    (case Hl__law_pool => k_is)
    (case Hc__law_pool => k_is)
    (case Hk__law_pool => k_is)
    (case Ha__law_wrong => k_is)
    (case Hl__law_wrong => k_is)
    (case Hc__law_wrong => k_is)
    (case Hk__law_wrong => k_is)
    (case Ha_law => k_is)
    (case Hl_law => k_is)
    (case Hc_law => k_is)
    (case Hk_law => k_is)
    (case Hz_all => k_is)
    (case Hz_bool => k_is)
    (case Hz_enumerate => k_is)
    (case Hz_int => k_is)
    (case Hz_isinstance => k_is)
    (case Hz_len => k_is)
    (case Hz_list => k_is)
    (case Hz_max => k_is)
    (case Hz_range => k_is)
    (case Hz_repr => k_is)
    (case Hz_str => k_is)
    (case Hz_tuple => k_is)
    (case Hg_BEGIN => k_is)
    (case Hq_BEGIN => exact DM.dk_str)
    (case Hg_COME => k_is)
    (case Hq_COME => exact DM.dk_str)
    (case Hg_GO => k_is)
    (case Hq_GO => exact DM.dk_str)
    (case Hg_LETTERS => k_is)
    (case Hq_LETTERS => exact DM.dk_str)
    (case Hg_MOST_LETTERS => k_is)
    (case Hq_MOST_LETTERS => exact DM.dk_int)
    (case Hg_RUN => k_is)
    (case Hq_RUN => exact DM.dk_str)
    (case Hg_STEP => k_is)
    (case Hq_STEP => exact DM.dk_str)
    (case Hx_InvalidMove => (refine' DM.err_mk1 DX.base_VE KX G ?aC ?lC ?rb ?sB ?su ?sa ?n1 ?iC ?tC ?kC ?sb ?eC ?tyC ?top ?hs ?lf ?cI ?lc ?ec ?ld ?ed ?e2 ?fe ?tp ?s1 ?s2 ?s3 ?s4 ?s5 ?s6 ?hb ?hev; (case aC => k_is); (case lC => k_is); (case rb => exact rfl); (case sB => k_is); (case su => exact rfl); (case sa => k_is); (case n1 => k_is); (case iC => k_is); (case tC => k_is); (case kC => k_is); (case sb => k_is); (case eC => k_is); (case tyC => k_is); (case top => k_is); (case hs => k_is); (case lf => k_is); (case cI => k_is); (case lc => k_is); (case ec => exact rfl); (case ld => k_is); (case ed => exact rfl); (case e2 => exact rfl); (case fe => exact rfl); (case tp => exact rfl); (case s1 => exact rfl); (case s2 => exact rfl); (case s3 => exact rfl); (case s4 => exact rfl); (case s5 => exact rfl); (case s6 => decide +kernel); (case hb => exact fun s us _ hl => (match us, hl with | [_, _], _ => .of_eq rfl)); (case hev => exact fun _ => ⟨_, rfl⟩)))
    (case Hx_InvalidNumber => (refine' DM.err_mk1 DX.base_VE KX G ?aC ?lC ?rb ?sB ?su ?sa ?n1 ?iC ?tC ?kC ?sb ?eC ?tyC ?top ?hs ?lf ?cI ?lc ?ec ?ld ?ed ?e2 ?fe ?tp ?s1 ?s2 ?s3 ?s4 ?s5 ?s6 ?hb ?hev; (case aC => k_is); (case lC => k_is); (case rb => exact rfl); (case sB => k_is); (case su => exact rfl); (case sa => k_is); (case n1 => k_is); (case iC => k_is); (case tC => k_is); (case kC => k_is); (case sb => k_is); (case eC => k_is); (case tyC => k_is); (case top => k_is); (case hs => k_is); (case lf => k_is); (case cI => k_is); (case lc => k_is); (case ec => exact rfl); (case ld => k_is); (case ed => exact rfl); (case e2 => exact rfl); (case fe => exact rfl); (case tp => exact rfl); (case s1 => exact rfl); (case s2 => exact rfl); (case s3 => exact rfl); (case s4 => exact rfl); (case s5 => exact rfl); (case s6 => decide +kernel); (case hb => exact fun s us _ hl => (match us, hl with | [_, _], _ => .of_eq rfl)); (case hev => exact fun _ => ⟨_, rfl⟩)))
    (case He_InvalidMove => (refine' DM.mtk_mk KX G ?a ?b ?c ?d ?e; (case a => k_is); (case b => k_is); (case c => k_is); (case d => k_is); (case e =>
        intro C b h
        unfold K12.mt_InvalidMove at h
        split at h
        · rename_i e; subst e; cases h; exact ⟨_, by k_is, by k_is⟩
        split at h
        · rename_i e; subst e; cases h; exact ⟨_, by k_is, by k_is⟩
        cases h)))
    (case He_InvalidNumber => (refine' DM.mtk_mk KX G ?a ?b ?c ?d ?e; (case a => k_is); (case b => k_is); (case c => k_is); (case d => k_is); (case e =>
        intro C b h
        unfold K12.mt_InvalidNumber at h
        split at h
        · rename_i e; subst e; cases h; exact ⟨_, by k_is, by k_is⟩
        split at h
        · rename_i e; subst e; cases h; exact ⟨_, by k_is, by k_is⟩
        cases h)))
    (case Hxf_InvalidMove_move => (refine' DM.xfd_mk ?e; (case e =>
        intro C h
        unfold K12.mt_InvalidMove at h
        split at h
        · rename_i e; subst e; exact ⟨_, by k_is, by k_is, by k_is, by k_is, by k_is, by k_is⟩
        split at h
        · cases h
        cases h)))
    (case Hxf_InvalidNumber_value => (refine' DM.xfd_mk ?e; (case e =>
        intro C h
        unfold K12.mt_InvalidNumber at h
        split at h
        · cases h
        split at h
        · rename_i e; subst e; exact ⟨_, by k_is, by k_is, by k_is, by k_is, by k_is, by k_is⟩
        cases h)))
    (case Hgc1 => k_is)
    (case Hgc2 => k_is)
    (case Hcl_Run => k_is)
    (case Hmo_Run => k_is)
    (case Hki_NoneType_Run => exact rfl)
    (case Hki_bool_Run => exact rfl)
    (case Hki_int_Run => exact rfl)
    (case Hki_str_Run => exact rfl)
    (case Hki_list_Run => exact rfl)
    (case Hki_tuple_Run => exact rfl)
    (case Hki_dict_Run => exact rfl)
    (case Hko_Run_Run => exact rfl)
    (case Hne_Run => k_is)
    (case Hob_Run => k_is)
    (case Hsf0_Run => k_is)
    (case Hm2_Run => exact rfl)
    (case Hia_Run => k_is)
    (case Hfi_Run___getitem__ => k_is)
