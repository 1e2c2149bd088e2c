import PyProof.Rows.All
import Wide.All
import OpenK.AllK
import Wide.FinOn
import HandS.ForMost
import HandS.ForExc
import HandS.Words
import HandS.WordsExc
import HandS.ExcOwn
import HandS.IsInst
import HandS.Style
import HandS.Codes
import HandS.Flow
import HandS.TupAny
import PyProof.ReprRoads
import HandS.Star
import HandS.CallSlots
import HandS.TryOnly
import HandS.ClsMeth
import HandS.Property
import KE.KExcSuper
import HandS.ExcInit
import HandS.ExcSuper
import HandS.ExcField
import PyProof.SeqIndex
import HandS.Deep
import HandS.SortInts
import KE.GoesMore
import PySem.Challenge.RW_pulledout_k53_whole_places_of_plain_book
set_option Elab.async false
set_option linter.all false
set_option maxRecDepth 100000
set_option maxHeartbeats 4000000
/-! A promise of a def for callers under whom no repr is under way. -/
namespace DL
open PySem PySem.Spec PyProof.Rows L2

/-- nothing that shows a list or a tuple is under way -/
abbrev Quiet (A : Around) : Prop := A.guards = some []
theorem Quiet.deeper {A : Around} (q : Quiet A) (env : Env) : Quiet (A.deeper env) := q
structure FnG (P : Program) (w : World) (K : PySem.W.Frag) (mg : Str → Option Value) (base : Heap) (CX : CXT) (k : Nat) (f : Addr) (fd : FuncData) (ps : List Str) (sp : Sp) : Prop where
  ln : ∀ vs H Q E, sp vs H Q E → vs.length = ps.length
  go : ∀ (A : Around) (os : List Env) (s : Shared) (H : Hp) (as : Args) (us : List Value) (vs : List V) (Q : VK) (E : XK), Room k A → Quiet A → Env0 P w K mg base A os s H → BindsTo s fd as (ps.zip us) → Vals vs us → sp vs H Q E →
    codeAny (model P w) A (.call (.ref f) as) (CR CX os P w H s Q E) s
theorem FnG.up {P : Program} {w : World} {K : PySem.W.Frag} {mg : Str → Option Value} {base : Heap} {CX : CXT} {j k : Nat} {f : Addr} {fd : FuncData} {ps : List Str} {sp : Sp} (F : FnG P w K mg base CX j f fd ps sp) (h : j ≤ k) : FnG P w K mg base CX k f fd ps sp :=
  ⟨F.ln, fun A os s H as us vs Q E r => F.go A os s H as us vs Q E (r.mono h)⟩
/-- from a body's term -/
theorem fnG_of {CX : CXT} {P : Program} {w : World} {K : PySem.W.Frag} {mg : Str → Option Value} {base : Heap} {k : Nat} {f : Addr} {nm qn : Str} {pm : Arguments} {bd : List Stmt} {sc : Scope} {v1 v2 v3 v4 cdv v5 v6 : Value} {a1 a2 : Option Addr} {sl : Array (Option Value)} {N ps : List Str} {sp : Sp}
    (lk : K.lookup f = some ⟨v6, a2, .func (PySem.W.fnOf nm qn pm bd sc v1 v2 v3 v4 a1 cdv v5), sl⟩) (hcd : PySem.W.codeIn K cdv qn = true) (S : FnScope N ps sc) (ln : ∀ vs H Q E, sp vs H Q E → vs.length = ps.length)
    (hb : ∀ (A : Around) (os : List Env) (s : Shared) (H : Hp) (vs : List V) (Q : VK) (E : XK), Room k (A.deeper (envOfC qn sc s.heap.objs.size f cdv)) → Quiet (A.deeper (envOfC qn sc s.heap.objs.size f cdv)) → sp vs H Q E →
      ∃ t, PSs (cxOf CX P w K mg base N qn sc f cdv A os s H E) bd t ∧ t { nx := fun _ H' => Q .non H', rt := Q } (start N vs) H) :
    FnG P w K mg base CX (k + 1) f (PySem.W.fnOf nm qn pm bd sc v1 v2 v3 v4 a1 cdv v5) ps sp := by
  refine ⟨ln, fun A os s H as us vs Q E hr hq e0 hbd rv hsp => ?_⟩
  have up : ∀ b o, base.get? b = some o → s.heap.get? b = some o := fun b o z => (e0.bs b o z).1
  have hK := e0.mod.kin.keeps up
  have knd : ∀ y ∈ ps.zip us, sc.names.lookup y.1 = some .local ∨ (sc.names.lookup y.1 = some .cell ∧ ((cellsFrom (s.heap.objs.size + 1) sc.names []).lookup y.1).isSome = true) := by
    rintro ⟨n, v⟩ hy
    rcases S.par n (List.of_mem_zip hy).1 with z | z
    · exact Or.inl z
    · exact Or.inr ⟨z, PySem.W.cellsFrom_some _ _ _ (Or.inl z)⟩
  refine codeAny_call_function hr.depth (hK _ _ lk) rfl S.co S.gen rfl (PySem.W.codeRec_of hK hcd) (hbd _ _ _ _ ?_)
  refine wpAny_newFunctionEnv_cells S.kind knd fun env z s1 x => ?_
  subst z
  refine ⟨(e0.mod.nolimit.keeps up).keeps x.toInCall.keep, codeAny_func ?_⟩
  obtain ⟨t, ht, hQ⟩ := hb A os s H vs Q E (hr.deeper _) (hq.deeper _) hsp
  have I0 := inv_start (CX := CX) (E := E) S hr.hd e0 (ln _ _ _ _ hsp) rv x
  refine wpAny_mono (ht.run [] s1 (start N vs) H _ I0 hQ) (fun fl s' z => ?_) fun e s' z => z
  cases fl with
  | ret u => obtain ⟨v, σ', H', J, r1, r2⟩ := z; exact ⟨v, H', J.os, J.bare, J.base, J.hok, r1, r2⟩
  | next => obtain ⟨σ', H', J, r2⟩ := z; exact ⟨V.non, H', J.os, J.bare, J.base, J.hok, rfl, r2⟩
  | brk => obtain ⟨_, _, _, z⟩ := z; exact z.elim
  | cont => obtain ⟨_, _, _, z⟩ := z; exact z.elim
section
variable {X : Cx} {CX : CXT} {k : Nat} {f : Addr} {fd : FuncData} {ps : List Str} {sp : Sp} {ds : List Value} {dvs : List V} {E : XK}
theorem runG {pins : List (Addr × Obj)} {σ : L2.St} {H : Hp} {s : Shared} {Q : VK} {us : List Value} {vs : List V} (F : FnG X.prog X.w X.K X.mg X.base CX k f fd ps sp) (hr : Room k X.A) (hG : Quiet X.A) (hb : Binds X.K fd ps ds) (hd : Vals dvs ds) (hx : Passes CX X E) (I : Inv X pins σ H s) (r : Vals vs us)
    (h : sp (vs ++ dvs) H Q E) : wpAny (model X.prog X.w) X.A (call (.ref f) us) (EP X pins σ Q) X.xe s := by
  have rr := r.append hd
  have hl : (us ++ ds).length = ps.length := rr.length.symm.trans (F.ln _ _ _ _ h)
  refine wpAny_call (codeAny_mono (F.go X.A X.stack s H ⟨us, []⟩ (us ++ ds) (vs ++ dvs) Q E hr hG I.env0 (hb s us I.kIn hl) rr h) fun z s' hq => ?_)
  match z, hq with
  | .error e, hq => exact hx pins σ H s e s' I hq
  | .ok (.ret u), hq => exact I.after hq
  | .ok .next, hq | .ok .brk, hq | .ok .cont, hq => exact False.elim hq
theorem pe_callG {x : Str} {e : Expr} {es : List Expr} {t : TA} {p pos : Pos} (F : FnG X.prog X.w X.K X.mg X.base CX k f fd ps sp) (hr : Room k X.A) (hG : Quiet X.A) (hg : Gl X x) (hm : X.mg x = some (.ref f)) (hk : PySem.W.keepIn X.K (.ref f) = true) (hb : Binds X.K fd ps ds) (hd : Vals dvs ds) (hx : Passes CX X E) (ha : PA X (e :: es) t)
    (hdb : (x == ("__debug__" : Str)) = false) (he : starEach (e :: es) X.env = (false, eval e X.env) :: starEach es X.env) (hpl : (backTo pos (starEach es X.env)).any (·.1) = false) : PE X (.Call (.Name x p) (e :: es) [] pos) (tCall sp dvs E t) :=
  ⟨fun pins s σ H Q I h => wpAny_Call_Name_kw (ld_glob I hg hm (PySem.W.callWith_K (h₀ := X.base) I.ok.mod.kin hk (thn (ha.run pos pins s σ H _ I h) fun us s1 ⟨vs, H1, I1, r, q⟩ => ⟨I1.kIn, runG F hr hG hb hd hx I1 r q⟩) he hpl) hdb)⟩
end

/-! ### the law's own head -/
/-- the script alone is tracked, as it stands -/
def scrH (a : Addr) (o : Obj) (ns : List Int) : Hp := fun b => if b = a then some (.frz o (.lst (ns.map V.int))) else none
theorem scrH_at (a : Addr) (o : Obj) (ns : List Int) : scrH a o ns a = some (.frz o (.lst (ns.map V.int))) := if_pos rfl
theorem scrH_off {a b : Addr} (o : Obj) (ns : List Int) (h : b ≠ a) : scrH a o ns b = none := if_neg h
theorem headG {P : Program} {w : World} {K : PySem.W.Frag} {mg mb : Str → Option Value} {CX : CXT} {k : Nat} {fa a : Addr} {fd : FuncData} {x : Str} {sp : Sp} {s1 : Shared} {vs : List Value} {ns : List Int}
    (KX : K.In s1.heap) (h1 : s1.heap.Ns mainGlobals mg) (h2 : s1.heap.Ns builtinsNs mb) (h3 : ∀ x : Str, x ≠ "__name__" → mb x = bootBuiltins x) (h4 : s1.heap.NoLimit) (h5 : s1.gens = #[])
    (ha : s1.heap.get? a = some { cls := .type "list", data := .seq vs.toArray }) (hi : IntsAre vs ns) (hl : ns.length ≤ sizeLine) (hr : Room k callerA) (hKa : K.lookup a = none)
    (F : ∀ base : Heap, K.In base → base.Ns mainGlobals mg → FnG P w K mg base CX k fa fd [x] sp) (hbind : ∀ (s : Shared) (u : Value), BindsTo s fd ⟨[u], []⟩ [(x, u)])
    (hsp : ∀ o : Obj, sp [.ref a] (scrH a o ns) (fun v _ => v = .bl true) fun _ _ _ => False) (hCX : ∀ H e s', CX [] H s1 (fun _ _ _ => False) e s' → False) :
    codeAny (model P w) callerA (.call (.ref fa) ⟨[.ref a], []⟩) (fun r s' => r = .ok (.ret (.bool true)) ∧ OldK s1.heap s'.heap ∧ s'.os = s1.os ∧ AllBare s'.gens) s1 := by
  generalize ho : ({ cls := .type "list", data := .seq vs.toArray } : Obj) = o0 at ha
  have rv := vals_ints hi
  have hok : HOk P w (scrH a o0 ns) s1.heap := fun b u z => by
    by_cases e : b = a
    · subst e
      rw [scrH_at] at z
      cases z
      subst ho
      exact ⟨ha, by rw [List.length_map]; exact hl, vs, _, rv, ha⟩
    · rw [scrH_off o0 ns e] at z
      cases z
  have off : ∀ {b : Addr} {o : Obj}, s1.heap.get? b = some o → b ≠ a → (hidT s1.heap (scrH a o0 ns)).get? b = some o := fun z e => hidT_get z (scrH_off o0 ns e)
  have nsB : ∀ {b : Addr} {m : Str → Option Value}, s1.heap.Ns b m → (hidT s1.heap (scrH a o0 ns)).Ns b m := fun {b m} z => by
    obtain ⟨o, es, ep, g1, g2, g3⟩ := z
    refine ⟨o, es, ep, off g1 fun e => ?_, g2, g3⟩
    subst e
    rw [ha] at g1
    cases g1
    subst ho
    cases g2
  have kB : K.In (hidT s1.heap (scrH a o0 ns)) := fun b o z => off (KX b o z) fun e => by
    rw [e, hKa] at z
    cases z
  have mB : Mod K mg (hidT s1.heap (scrH a o0 ns)) := ⟨kB, nsB h1, ⟨mb, nsB h2, h3⟩, by obtain ⟨mc, g1, g2⟩ := h4; exact ⟨mc, nsB g1, g2⟩⟩
  have e0 : Env0 P w K mg (hidT s1.heap (scrH a o0 ns)) callerA [] s1 (scrH a o0 ns) := ⟨rfl, mB, fun b o z => of_hidT z, Nat.le_of_eq (hidT_size _ _), trivial, fun b z => absurd (show b ∈ ([] : List Addr) from z) (by simp), hok, .of_eq h5⟩
  refine codeAny_mono ((F _ kB (nsB h1)).go callerA [] s1 (scrH a o0 ns) ⟨[.ref a], []⟩ [.ref a] [.ref a] _ _ hr rfl e0 (hbind s1 (.ref a)) (.cons rfl .nil) (hsp o0)) fun r s' z => ?_
  match r, z with
  | .error e, z => exact (hCX _ e s' z).elim
  | .ok .next, z | .ok .brk, z | .ok .cont, z => exact False.elim z
  | .ok (.ret u), z =>
    obtain ⟨v, H', g1, g2, un, hok', g3, g4⟩ := z
    have g4 : v = .bl true := g4
    subst g4
    obtain rfl : u = Value.bool true := g3
    refine ⟨rfl, OldK.of_keep fun b o q => ?_, g1, g2⟩
    by_cases e : b = a
    · subst e
      have q2 := un.frzs b o0 _ (scrH_at b o0 ns)
      obtain ⟨q3, _⟩ := hok' b _ q2
      rw [ha] at q
      cases q
      exact q3
    · exact un.keep b o q (scrH_off o0 ns e) (by intro z; exact absurd (show b ∈ ([] : List Addr) from z) (by simp)) (by simp)

/-- the rule for a def, over its body's term: nothing is let out -/
theorem okG {P : Program} {w : World} {K : PySem.W.Frag} {mg : Str → Option Value} {base : Heap} {x qn : Str} {st : Stmt} {f : Addr} {fd : FuncData} {N ps : List Str} {k : Nat} {sp : Sp} (F : Fun K x qn st f fd) (S : FnScope N ps (defScope st)) (ln : ∀ vs H Q E, sp vs H Q E → vs.length = ps.length)
    (hb : ∀ (cdv : Value) (A : Around) (os : List Env) (s : Shared) (H : Hp) (vs : List V) (Q : VK) (E : XK), Room k (A.deeper (envOfC qn (defScope st) s.heap.objs.size f cdv)) → Quiet (A.deeper (envOfC qn (defScope st) s.heap.objs.size f cdv)) → sp vs H Q E →
      ∃ t, PSs (cxOf CX0 P w K mg base N qn (defScope st) f cdv A os s H E).nox (defBody st) t ∧ t { nx := fun _ H' => Q .non H', rt := Q } (start N vs) H) : FnG P w K mg base CX0 (k + 1) f fd ps sp := by
  obtain ⟨v1, a1, v2, v3, v4, a2, cdv, v5, sl, rfl, lk, hcd⟩ := F.ex
  refine fnG_of lk hcd S ln fun A os s H vs Q E hr hq hsp => ?_
  obtain ⟨t, z1, z2⟩ := hb cdv A os s H vs Q E hr hq hsp
  exact ⟨t, z1.nox, z2⟩
/-- .. for a def that may raise -/
theorem okGX {P : Program} {w : World} {K : PySem.W.Frag} {mg : Str → Option Value} {base : Heap} {x qn : Str} {st : Stmt} {f : Addr} {fd : FuncData} {N ps : List Str} {k : Nat} {sp : Sp} (F : Fun K x qn st f fd) (S : FnScope N ps (defScope st)) (ln : ∀ vs H Q E, sp vs H Q E → vs.length = ps.length)
    (hb : ∀ (cdv : Value) (A : Around) (os : List Env) (s : Shared) (H : Hp) (vs : List V) (Q : VK) (E : XK), Room k (A.deeper (envOfC qn (defScope st) s.heap.objs.size f cdv)) → Quiet (A.deeper (envOfC qn (defScope st) s.heap.objs.size f cdv)) → sp vs H Q E →
      ∃ t, PSs (cxOf (L2.CX P w) P w K mg base N qn (defScope st) f cdv A os s H E) (defBody st) t ∧ t { nx := fun _ H' => Q .non H', rt := Q } (start N vs) H) : FnG P w K mg base (L2.CX P w) (k + 1) f fd ps sp := by
  obtain ⟨v1, a1, v2, v3, v4, a2, cdv, v5, sl, rfl, lk, hcd⟩ := F.ex
  exact fnG_of lk hcd S ln fun A os s H vs Q E hr hq hsp => hb cdv A os s H vs Q E hr hq hsp
theorem pe_call0G {X : Cx} {CX : CXT} {k : Nat} {f : Addr} {fd : FuncData} {ps : List Str} {sp : Sp} {ds : List Value} {dvs : List V} {E : XK} {x : Str} {p pos : Pos} (F : FnG X.prog X.w X.K X.mg X.base CX k f fd ps sp) (hr : Room k X.A) (hG : Quiet X.A) (hg : Gl X x) (hm : X.mg x = some (.ref f)) (hk : PySem.W.keepIn X.K (.ref f) = true)
    (hb : Binds X.K fd ps ds) (hd : Vals dvs ds) (hx : Passes CX X E) (hdb : (x == ("__debug__" : Str)) = false) : PE X (.Call (.Name x p) [] [] pos) (tCall sp dvs E tNil) :=
  ⟨fun pins s σ H Q I h => wpAny_Call_Name_kw (ld_glob I hg hm (PySem.W.callWith_K0 I.kIn hk (runG (us := []) F hr hG hb hd hx I .nil h)) hdb)⟩
end DL

/-! Data by value; frames; what of the heap a frame holds. -/
namespace DM
open PySem L2 DL

/-- data by value -/
inductive D where
  | non | bl (b : Bool) | int (i : Int) | str (s : Str)
  | lst (ds : List D) | tup (ds : List D) | dct (kvs : List (Key × D)) | obj (C : Str) (fs : List (Str × D)) | ty (T : String) | exc (C : Str) (fs : List (Str × D))

def D.isObj : D → Bool
  | .obj _ _ => true
  | _ => false
def Ex (H H' : Hp) : Prop := ∀ a o, H a = some o → H' a = some o
theorem Ex.refl (H : Hp) : Ex H H := fun _ _ h => h
theorem Ex.trans {H H1 H2 : Hp} (a : Ex H H1) (b : Ex H1 H2) : Ex H H2 := fun x o h => b x o (a x o h)
theorem Ex.new {H : Hp} {p : Addr} {o : HO} (h : H p = none) : Ex H (upd H p o) := fun a u e => by
  rw [upd_ne (ne_of_none e h)]; exact e
theorem Ex.none {H H' : Hp} (e : Ex H H') {p : Addr} (h : H' p = none) : H p = none := by
  cases q : H p with
  | none => rfl
  | some o => rw [e p o q] at h; cases h
theorem Ex.rd {H H' : Hp} {a : Addr} {u : HO} (e : Ex H H') (h : Rd H a u) : Rd H' a u := by
  rcases h with h | ⟨o, h⟩
  · exact Or.inl (e a _ h)
  · exact Or.inr ⟨o, e a _ h⟩
theorem Ex.sl {K : PySem.W.Frag} {H H' : Hp} {a : Addr} {xs : List V} (e : Ex H H') (h : SqL K H a xs) : SqL K H' a xs := by
  rcases h with h | h
  · exact Or.inl (e.rd h)
  · exact Or.inr h
theorem Ex.st {K : PySem.W.Frag} {H H' : Hp} {a : Addr} {xs : List V} (e : Ex H H') (h : SqT K H a xs) : SqT K H' a xs := by
  rcases h with h | h
  · exact Or.inl (e.rd h)
  · exact Or.inr h
/-- a tuple of which it is known that it has no dict -/
def TqT (K : PySem.W.Frag) (H : Hp) (a : Addr) (xs : List V) : Prop := (∃ o, H a = some (.frz o (.tup xs)) ∧ o.dict = none) ∨
  ∃ (o : Obj) (its : Array Value) (n : Nat), K.lookup a = some o ∧ o.cls = .type "tuple" ∧ o.dict = none ∧ o.data = .seq its n ∧ its.size ≤ sizeLine ∧ Vals xs its.toList
theorem TqT.sq {K : PySem.W.Frag} {H : Hp} {a : Addr} {xs : List V} (h : TqT K H a xs) : SqT K H a xs := by
  rcases h with ⟨o, h, _⟩ | ⟨o, its, n, h1, h2, _, h3, h4, h5⟩
  · exact Or.inl (Or.inr ⟨o, h⟩)
  · exact Or.inr ⟨o, its, n, h1, h2, h3, h4, h5⟩
theorem Ex.tq {K : PySem.W.Frag} {H H' : Hp} {a : Addr} {xs : List V} (e : Ex H H') (h : TqT K H a xs) : TqT K H' a xs := by
  rcases h with ⟨o, h, h'⟩ | h
  · exact Or.inl ⟨o, e _ _ h, h'⟩
  · exact Or.inr h
/-- the class of a name -/
abbrev Cl (K : PySem.W.Frag) (C : Str) (c : Addr) : Prop := PySem.W.nsIn K mainGlobals C = some (some (.ref c))

/-- an exception's object: its class, its dict -/
def ExO (a c d : Addr) : HO := .ext fun h => ∃ oe vs, h.get? a = some oe ∧ oe.cls = .ref c ∧ oe.dict = some d ∧ oe.data = .fields vs

/-! ### how data lie in the heap; F: what is never changed any more -/
mutual
inductive Dr (K : PySem.W.Frag) (F : Hp) : V → D → Prop
  | non : Dr K F .non .non
  | bl (b : Bool) : Dr K F (.bl b) (.bl b)
  | int (i : Int) : Dr K F (.int i) (.int i)
  | str (x : Str) : Dr K F (.str x) (.str x)
  | lst {a : Addr} {xs : List V} {ds : List D} : Rd F a (.lst xs) → DrA K F xs ds → Dr K F (.ref a) (.lst ds)
  | tup {a : Addr} {xs : List V} {ds : List D} : TqT K F a xs → DrA K F xs ds → Dr K F (.ref a) (.tup ds)
  | dct {a : Addr} {kvs : List (Key × V)} {kds : List (Key × D)} : F a = some (.dK kvs) → kvs.map (·.1) = kds.map (·.1) → DrA K F (kvs.map (·.2)) (kds.map (·.2)) → Dr K F (.ref a) (.dct kds)
  | obj {a c dx : Addr} {C : Str} {fs : List (Str × V)} {gs : List (Str × D)} : F a = some (.ins c dx fs) → Cl K C c → fs.map (·.1) = gs.map (·.1) → DrA K F (fs.map (·.2)) (gs.map (·.2)) → Dr K F (.ref a) (.obj C gs)
  | ty (T : String) : Dr K F (.ty T) (.ty T)
  | exc {a d c : Addr} {C : Str} {fs : List (Str × V)} {gs : List (Str × D)} : F a = some (ExO a c d) → F d = some (.xd fs) → Cl K C c → fs.map (·.1) = gs.map (·.1) → DrA K F (fs.map (·.2)) (gs.map (·.2)) → Dr K F (.ref a) (.exc C gs)
inductive DrA (K : PySem.W.Frag) (F : Hp) : List V → List D → Prop
  | nil : DrA K F [] []
  | cons {v : V} {vs : List V} {d : D} {ds : List D} : Dr K F v d → DrA K F vs ds → DrA K F (v :: vs) (d :: ds)
end

section
variable {K : PySem.W.Frag} {F F' : Hp}
theorem Dr.mono (e : Ex F F') {v : V} {d : D} (h : Dr K F v d) : Dr K F' v d :=
  Dr.rec (motive_1 := fun v d _ => Dr K F' v d) (motive_2 := fun vs ds _ => DrA K F' vs ds)
    .non .bl .int .str (fun h _ ih => .lst (e.rd h) ih) (fun h _ ih => .tup (e.tq h) ih) (fun h k _ ih => .dct (e _ _ h) k ih) (fun h c k _ ih => .obj (e _ _ h) c k ih) .ty (fun h1 h c k _ ih => .exc (e _ _ h1) (e _ _ h) c k ih)
    .nil (fun _ _ ih ih2 => .cons ih ih2) h
theorem DrA.mono (e : Ex F F') : ∀ {vs : List V} {ds : List D}, DrA K F vs ds → DrA K F' vs ds
  | _, _, .nil => .nil
  | _, _, .cons h t => .cons (h.mono e) (DrA.mono e t)
theorem DrA.length : ∀ {vs : List V} {ds : List D}, DrA K F vs ds → vs.length = ds.length
  | _, _, .nil => rfl
  | _, _, .cons _ t => by rw [List.length_cons, List.length_cons, DrA.length t]
theorem DrA.get : ∀ {vs : List V} {ds : List D} {i : Nat} {d : D}, DrA K F vs ds → ds[i]? = some d → ∃ v, vs[i]? = some v ∧ Dr K F v d
  | _, _, _, _, .nil, e => by simp at e
  | _, _, 0, _, .cons h _, e => by simp at e; subst e; exact ⟨_, rfl, h⟩
  | _, _, i + 1, d, .cons _ t, e => by
    obtain ⟨v, h1, h2⟩ := DrA.get (i := i) (d := d) t (by simpa using e)
    exact ⟨v, by simpa using h1, h2⟩
theorem DrA.append : ∀ {vs ws : List V} {ds es : List D}, DrA K F vs ds → DrA K F ws es → DrA K F (vs ++ ws) (ds ++ es)
  | _, _, _, _, .nil, s => s
  | _, _, _, _, .cons h t, s => .cons h (DrA.append t s)
theorem DrA.take : ∀ {vs : List V} {ds : List D} (n : Nat), DrA K F vs ds → DrA K F (vs.take n) (ds.take n)
  | _, _, 0, _ => by rw [List.take_zero, List.take_zero]; exact .nil
  | _, _, _ + 1, .nil => by rw [List.take_nil, List.take_nil]; exact .nil
  | _, _, n + 1, .cons h t => .cons h (DrA.take n t)
theorem DrA.drop : ∀ {vs : List V} {ds : List D} (n : Nat), DrA K F vs ds → DrA K F (vs.drop n) (ds.drop n)
  | _, _, 0, r => r
  | _, _, _ + 1, .nil => by rw [List.drop_nil, List.drop_nil]; exact .nil
  | _, _, n + 1, .cons _ t => DrA.drop n t
theorem DrA.set : ∀ {vs : List V} {ds : List D} (i : Nat) {v : V} {d : D}, Dr K F v d → DrA K F vs ds → DrA K F (vs.set i v) (ds.set i d)
  | _, _, _, _, _, _, .nil => .nil
  | _, _, 0, _, _, r, .cons _ t => .cons r t
  | _, _, i + 1, _, _, r, .cons q t => .cons q (DrA.set i r t)
theorem DrA.one {v : V} {d : D} (h : Dr K F v d) : DrA K F [v] [d] := .cons h .nil
theorem DrA.rev : ∀ {vs : List V} {ds : List D}, DrA K F vs ds → DrA K F vs.reverse ds.reverse
  | _, _, .nil => .nil
  | _, _, .cons h t => by rw [List.reverse_cons, List.reverse_cons]; exact (DrA.rev t).append (.one h)
end

/-- the object o is d, its parts stand still -/
inductive Do (K : PySem.W.Frag) (F : Hp) : HO → D → Prop
  | lst {xs : List V} {ds : List D} : DrA K F xs ds → Do K F (.lst xs) (.lst ds)
  | dct {kvs : List (Key × V)} {kds : List (Key × D)} : kvs.map (·.1) = kds.map (·.1) → DrA K F (kvs.map (·.2)) (kds.map (·.2)) → Do K F (.dK kvs) (.dct kds)
  | obj {c dx : Addr} {C : Str} {fs : List (Str × V)} {gs : List (Str × D)} : Cl K C c → fs.map (·.1) = gs.map (·.1) → DrA K F (fs.map (·.2)) (gs.map (·.2)) → Do K F (.ins c dx fs) (.obj C gs)
theorem Do.mono {K : PySem.W.Frag} {F F' : Hp} (e : Ex F F') {o : HO} {d : D} (h : Do K F o d) : Do K F' o d := by
  cases h with
  | lst h => exact .lst (h.mono e)
  | dct k h => exact .dct k (h.mono e)
  | obj c k h => exact .obj c k (h.mono e)
theorem Do.dr {K : PySem.W.Frag} {F : Hp} {p : Addr} {o : HO} {d : D} (hp : F p = some o) (h : Do K F o d) : Dr K F (.ref p) d := by
  cases h with
  | lst h => exact .lst (Or.inl hp) h
  | dct k h => exact .dct hp k h
  | obj c k h => exact .obj hp c k h
/-- fields: those of fs are the object's own lists and dicts (at S), the others stand still -/
inductive OwF (K : PySem.W.Frag) (F H : Hp) (fs : List Str) : List (Str × V) → List (Str × D) → List Addr → Prop
  | nil : OwF K F H fs [] [] []
  | fz {n : Str} {v : V} {d : D} {ws : List (Str × V)} {gs : List (Str × D)} {S : List Addr} : n ∉ fs → Dr K F v d → OwF K F H fs ws gs S → OwF K F H fs ((n, v) :: ws) ((n, d) :: gs) S
  | ow {n : Str} {q : Addr} {o : HO} {d : D} {ws : List (Str × V)} {gs : List (Str × D)} {S : List Addr} : n ∈ fs → H q = some o → Do K F o d → q ∉ S → OwF K F H fs ws gs S → OwF K F H fs ((n, .ref q) :: ws) ((n, d) :: gs) (q :: S)
/-- a thing at p that is d; S: what of the heap is its own -/
inductive Own (K : PySem.W.Frag) (F H : Hp) : Addr → D → List Str → List Addr → Prop
  | ce {p : Addr} {o : HO} {d : D} : H p = some o → Do K F o d → Own K F H p d [] [p]
  | ob {p c dx : Addr} {C : Str} {ws : List (Str × V)} {gs : List (Str × D)} {fs : List Str} {S : List Addr} : H p = some (.ins c dx ws) → Cl K C c → OwF K F H fs ws gs S → Own K F H p (.obj C gs) fs (p :: S)
section
variable {K : PySem.W.Frag} {F F' H H' : Hp} {fs : List Str} {ws : List (Str × V)} {gs : List (Str × D)} {S : List Addr} {p : Addr} {d : D}
theorem OwF.congr (e : Ex F F') (h : OwF K F H fs ws gs S) (hS : ∀ a ∈ S, H' a = H a) : OwF K F' H' fs ws gs S := by
  induction h with
  | nil => exact .nil
  | fz h1 h2 _ ih => exact .fz h1 (h2.mono e) (ih hS)
  | ow h1 h2 h3 h4 _ ih => exact .ow h1 (by rw [hS _ List.mem_cons_self]; exact h2) (h3.mono e) h4 (ih fun a ha => hS a (List.mem_cons_of_mem _ ha))
theorem Own.congr (e : Ex F F') (h : Own K F H p d fs S) (hS : ∀ a ∈ S, H' a = H a) : Own K F' H' p d fs S := by
  cases h with
  | ce h1 h2 => exact .ce (by rw [hS _ List.mem_cons_self]; exact h1) (h2.mono e)
  | ob h1 h2 h3 => exact .ob (by rw [hS _ List.mem_cons_self]; exact h1) h2 (h3.congr e fun a ha => hS a (List.mem_cons_of_mem _ ha))
theorem OwF.some (h : OwF K F H fs ws gs S) : ∀ a ∈ S, ∃ o, H a = .some o := by
  induction h with
  | nil => exact fun a ha => nomatch ha
  | fz _ _ _ ih => exact ih
  | ow _ h2 _ _ _ ih =>
    intro a ha
    rcases List.mem_cons.mp ha with z | z
    · subst z; exact ⟨_, h2⟩
    · exact ih a z
theorem Own.some (h : Own K F H p d fs S) : ∀ a ∈ S, ∃ o, H a = .some o := by
  cases h with
  | ce h1 _ => exact fun a ha => by rw [List.mem_singleton.mp ha]; exact ⟨_, h1⟩
  | ob h1 _ h3 =>
    intro a ha
    rcases List.mem_cons.mp ha with z | z
    · subst z; exact ⟨_, h1⟩
    · exact h3.some a z
theorem Own.root (h : Own K F H p d fs S) : p ∈ S := by
  cases h with
  | ce => exact List.mem_cons_self
  | ob => exact List.mem_cons_self
theorem OwF.names (h : OwF K F H fs ws gs S) : ws.map (·.1) = gs.map (·.1) := by
  induction h with
  | nil => rfl
  | fz _ _ _ ih => simp only [List.map_cons, ih]
  | ow _ _ _ _ _ ih => simp only [List.map_cons, ih]
theorem OwF.plain (h : OwF K F H [] ws gs S) : S = [] ∧ ws.map (·.1) = gs.map (·.1) ∧ DrA K F (ws.map (·.2)) (gs.map (·.2)) := by
  generalize hz : ([] : List Str) = z at h
  induction h with
  | nil => exact ⟨rfl, rfl, .nil⟩
  | fz _ h2 _ ih =>
    obtain ⟨a, b, c⟩ := ih
    exact ⟨a, by simp only [List.map_cons, b], .cons h2 c⟩
  | ow h1 => subst hz; cases h1
/-- a thing without own fields: one cell -/
theorem Own.plain (h : Own K F H p d [] S) : S = [p] ∧ ∃ o, H p = .some o ∧ Do K F o d := by
  generalize hz : ([] : List Str) = z at h
  cases h with
  | ce h1 h2 => exact ⟨rfl, _, h1, h2⟩
  | ob h1 h2 h3 =>
    subst hz
    obtain ⟨rfl, a, b⟩ := h3.plain
    exact ⟨rfl, _, h1, .obj h2 a b⟩
/-- H restricted to S on top of F -/
def lay (F H : Hp) (S : List Addr) : Hp := fun a => if a ∈ S then H a else F a
theorem lay_in {a : Addr} (h : a ∈ S) : lay F H S a = H a := if_pos h
theorem lay_out {a : Addr} (h : a ∉ S) : lay F H S a = F a := if_neg h
theorem lay_ex (hS : ∀ a ∈ S, F a = none) : Ex F (lay F H S) := fun a o h => by
  rw [lay_out fun z => by rw [hS a z] at h; cases h]; exact h
theorem lay_le (e : Ex F H) : Ex (lay F H S) H := fun a o h => by
  by_cases z : a ∈ S
  · rw [lay_in z] at h; exact h
  · rw [lay_out z] at h; exact e a o h
theorem OwF.still (h : OwF K F H fs ws gs S) (e : Ex F F') (hS : ∀ a ∈ S, F' a = H a) : DrA K F' (ws.map (·.2)) (gs.map (·.2)) := by
  induction h with
  | nil => exact .nil
  | fz _ h2 _ ih => exact .cons (h2.mono e) (ih hS)
  | ow _ h2 h3 _ _ ih => exact .cons ((h3.mono e).dr (by rw [hS _ List.mem_cons_self]; exact h2)) (ih fun a ha => hS a (List.mem_cons_of_mem _ ha))
theorem Own.still (h : Own K F H p d fs S) (e : Ex F F') (hS : ∀ a ∈ S, F' a = H a) : Dr K F' (.ref p) d := by
  cases h with
  | ce h1 h2 => exact (h2.mono e).dr (by rw [hS _ List.mem_cons_self]; exact h1)
  | ob h1 h2 h3 => exact .obj (by rw [hS _ List.mem_cons_self]; exact h1) h2 h3.names (h3.still e fun a ha => hS a (List.mem_cons_of_mem _ ha))
end

/-! ### the frame: what each slot holds -/
/-- un: nothing known; fz: data that stand still; ow: a mutable thing that this slot alone holds (t: the parameter that handed it in; fs: its own fields); xc: a caught exception at a with its dict at d -/
inductive Sl where
  | un | fz (d : D) | ow (t : Option Nat) (d : D) (fs : List Str) | xc (a d : Addr) (fs : List (Str × D))
abbrev Fm := List Sl
def fget : Fm → Nat → Sl
  | [], _ => .un
  | x :: _, 0 => x
  | _ :: xs, i + 1 => fget xs i
def fput : Fm → Nat → Sl → Fm
  | [], _, _ => []
  | _ :: xs, 0, y => y :: xs
  | x :: xs, i + 1, y => x :: fput xs i y
theorem fput_length : ∀ (env : Fm) (i : Nat) (y : Sl), (fput env i y).length = env.length
  | [], _, _ => rfl
  | _ :: _, 0, _ => rfl
  | _ :: xs, i + 1, y => by rw [fput, List.length_cons, List.length_cons, fput_length xs i y]
theorem fget_ne : ∀ (env : Fm) {i j : Nat} (y : Sl), i ≠ j → fget (fput env i y) j = fget env j
  | [], _, _, _, _ => rfl
  | _ :: _, 0, 0, _, h => absurd rfl h
  | _ :: _, 0, _ + 1, _, _ => rfl
  | _ :: _, _ + 1, 0, _, _ => rfl
  | _ :: xs, i + 1, j + 1, y, h => fget_ne xs y fun z => h (by rw [z])
theorem fget_eq : ∀ (env : Fm) {i : Nat} (y : Sl), fget (fput env i y) i = y ∨ fget (fput env i y) i = .un
  | [], _, _ => .inr rfl
  | _ :: _, 0, _ => .inl rfl
  | _ :: xs, i + 1, y => fget_eq xs y
theorem fget_lt : ∀ {env : Fm} {i : Nat} {x : Sl}, fget env i = x → x ≠ .un → i < env.length
  | [], _, _, h, n => absurd h.symm n
  | _ :: _, 0, _, _, _ => by simp
  | _ :: xs, i + 1, x, h, n => by have := fget_lt (env := xs) h n; simp; omega
theorem fget_self : ∀ {env : Fm} {i : Nat} {y : Sl}, i < env.length → fget (fput env i y) i = y
  | [], _, _, h => by simp at h
  | _ :: _, 0, _, _ => rfl
  | _ :: xs, i + 1, y, h => fget_self (env := xs) (by simp at h; omega)

/-- the entry of the def (or of a part of it) -/
structure Bs where
  F0 : Hp
  H0 : Hp
  ps : Addr → Prop
  par : Nat → Option Addr
/-- the slots' own things -/
structure Hs (K : PySem.W.Frag) (B : Bs) (F H : Hp) (σ : L2.St) (env : Fm) (ft : Nat → List Addr) : Prop where
  ow : ∀ (i : Nat) (t : Option Nat) (d : D) (fs : List Str), fget env i = .ow t d fs → ∃ p, σ[i]? = some (some (.ref p)) ∧ Own K F H p d fs (ft i) ∧ (∀ a ∈ ft i, F a = none ∧ (B.H0 a = none ∨ B.ps a)) ∧ ∀ k, t = some k → B.par k = some p
  dis : ∀ (i j : Nat) (t u : Option Nat) (d e : D) (fs gs : List Str), i ≠ j → fget env i = .ow t d fs → fget env j = .ow u e gs → ∀ a, a ∈ ft i → a ∈ ft j → False
structure SR (K : PySem.W.Frag) (B : Bs) (F H : Hp) (σ : L2.St) (env : Fm) : Prop where
  ex : Ex F H
  ex0 : Ex B.F0 F
  keep : ∀ a o, B.H0 a = some o → ¬ B.ps a → H a = some o
  newF : ∀ a o, F a = some o → B.F0 a ≠ none ∨ B.H0 a = none ∨ B.ps a
  len : σ.length = env.length
  fz : ∀ (i : Nat) (d : D), fget env i = .fz d → ∃ v, σ[i]? = some (some v) ∧ Dr K F v d
  xc : ∀ (i : Nat) (a d : Addr) (gs : List (Str × D)), fget env i = .xc a d gs → σ[i]? = some (some (.ref a)) ∧ ∃ fs, F d = some (.xd fs) ∧ fs.map (·.1) = gs.map (·.1) ∧ DrA K F (fs.map (·.2)) (gs.map (·.2))
  own : ∃ ft, Hs K B F H σ env ft

section
variable {K : PySem.W.Frag} {B : Bs} {F H F' H' : Hp} {σ σ' : L2.St} {env env' : Fm} {ft : Nat → List Addr}
/-- the addresses that the frame alone holds -/
def owned (env : Fm) (ft : Nat → List Addr) (p : Addr) : Prop := ∃ (i : Nat) (t : Option Nat) (d : D) (fs : List Str), fget env i = .ow t d fs ∧ p ∈ ft i
theorem Hs.owned_b (h : Hs K B F H σ env ft) {p : Addr} (o : owned env ft p) : F p = none ∧ (∃ o, H p = some o) ∧ (B.H0 p = none ∨ B.ps p) := by
  obtain ⟨i, t, d, fs, e1, e2⟩ := o
  obtain ⟨q, h1, h2, h3, _⟩ := h.ow i t d fs e1
  exact ⟨(h3 p e2).1, h2.some p e2, (h3 p e2).2⟩
/-- the own things after a change of the heap elsewhere -/
theorem Hs.congr (h : Hs K B F H σ env ft) (e : Ex F F') (hS : ∀ a, owned env ft a → H' a = H a ∧ F' a = none) : Hs K B F' H' σ env ft where
  ow := fun i t d fs he => by
    obtain ⟨q, h1, h2, h3, h4⟩ := h.ow i t d fs he
    exact ⟨q, h1, h2.congr e fun a ha => (hS a ⟨i, t, d, fs, he, ha⟩).1, fun a ha => ⟨(hS a ⟨i, t, d, fs, he, ha⟩).2, (h3 a ha).2⟩, h4⟩
  dis := h.dis
/-- what is new here was free at the entry -/
theorem SR.new_b (s : SR K B F H σ env) {p : Addr} (hp : H p = none) : B.H0 p = none ∨ B.ps p := by
  cases q : B.H0 p with
  | none => exact Or.inl rfl
  | some u =>
    refine Or.inr (Classical.byContradiction fun hc => ?_)
    rw [s.keep p u q hc] at hp
    cases hp
/-- more of the heap stands still -/
theorem SR.grow (s : SR K B F H σ env) {p : Addr} {o : HO} (hp : H p = none) : SR K B (upd F p o) (upd H p o) σ env where
  ex := fun a u h => by
    by_cases e : a = p
    · subst e; rw [upd_same] at h ⊢; exact h
    · rw [upd_ne e] at h ⊢; exact s.ex a u h
  ex0 := s.ex0.trans (Ex.new (s.ex.none hp))
  keep := fun a u h n => by
    have h1 := s.keep a u h n
    rw [upd_ne (ne_of_none h1 hp)]; exact h1
  newF := fun a u h => by
    by_cases e : a = p
    · subst e; exact Or.inr (s.new_b hp)
    · rw [upd_ne e] at h; exact s.newF a u h
  len := s.len
  fz := fun i d e => by
    obtain ⟨v, h1, h2⟩ := s.fz i d e
    exact ⟨v, h1, h2.mono (Ex.new (s.ex.none hp))⟩
  xc := fun i a d gs e => by
    obtain ⟨h1, fs, h2, h3, h4⟩ := s.xc i a d gs e
    exact ⟨h1, fs, Ex.new (s.ex.none hp) _ _ h2, h3, h4.mono (Ex.new (s.ex.none hp))⟩
  own := by
    obtain ⟨ft, h⟩ := s.own
    refine ⟨ft, h.congr (Ex.new (s.ex.none hp)) fun a ha => ?_⟩
    obtain ⟨h1, ⟨u, h2⟩, _⟩ := h.owned_b ha
    have hne : a ≠ p := ne_of_none h2 hp
    exact ⟨upd_ne hne, by rw [upd_ne hne]; exact h1⟩
/-- the heap alone grows -/
theorem SR.growH (s : SR K B F H σ env) {p : Addr} {o : HO} (hp : H p = none) : SR K B F (upd H p o) σ env where
  ex := s.ex.trans (Ex.new hp)
  ex0 := s.ex0
  keep := fun a u h n => by
    have h1 := s.keep a u h n
    rw [upd_ne (ne_of_none h1 hp)]; exact h1
  newF := s.newF
  len := s.len
  fz := s.fz
  xc := s.xc
  own := by
    obtain ⟨ft, h⟩ := s.own
    refine ⟨ft, h.congr (Ex.refl F) fun a ha => ?_⟩
    obtain ⟨h1, ⟨u, h2⟩, _⟩ := h.owned_b ha
    exact ⟨upd_ne (ne_of_none h2 hp), h1⟩
theorem getσ {i j : Nat} {v : Option V} (hij : i ≠ j) : (σ.set i v)[j]? = σ[j]? := List.getElem?_set_ne hij
/-- a slot takes something else; Y: what is to be shown of it -/
theorem SR.put (s : SR K B F H σ env) (i : Nat) (v : Option V) (y : Sl) (hfz : ∀ d, y = .fz d → ∃ w, v = some w ∧ Dr K F w d)
    (hxc : ∀ a d gs, y = .xc a d gs → v = some (.ref a) ∧ ∃ fs, F d = some (.xd fs) ∧ fs.map (·.1) = gs.map (·.1) ∧ DrA K F (fs.map (·.2)) (gs.map (·.2)))
    (how : ∀ ft, Hs K B F H σ env ft → ∀ t d fs, y = .ow t d fs → ∃ p S, v = some (.ref p) ∧ Own K F H p d fs S ∧ (∀ a ∈ S, F a = none ∧ (B.H0 a = none ∨ B.ps a)) ∧ (∀ a ∈ S, ¬ owned env ft a) ∧ ∀ k, t = some k → B.par k = some p) :
    SR K B F H (σ.set i v) (fput env i y) where
  ex := s.ex
  ex0 := s.ex0
  keep := s.keep
  newF := s.newF
  len := by rw [List.length_set, fput_length]; exact s.len
  fz := fun j d h1 => by
    by_cases hij : i = j
    · subst hij
      have hl : i < env.length := by have := fget_lt h1 (fun z => nomatch z); rw [fput_length] at this; exact this
      rw [fget_self hl] at h1
      obtain ⟨w, rfl, hw⟩ := hfz d h1
      exact ⟨w, List.getElem?_set_self (by rw [s.len]; exact hl), hw⟩
    · rw [fget_ne _ _ hij] at h1
      rw [getσ hij]
      exact s.fz j d h1
  xc := fun j a d gs h1 => by
    by_cases hij : i = j
    · subst hij
      have hl : i < env.length := by have := fget_lt h1 (fun z => nomatch z); rw [fput_length] at this; exact this
      rw [fget_self hl] at h1
      obtain ⟨rfl, hw⟩ := hxc a d gs h1
      exact ⟨List.getElem?_set_self (by rw [s.len]; exact hl), hw⟩
    · rw [fget_ne _ _ hij] at h1
      rw [getσ hij]
      exact s.xc j a d gs h1
  own := by
    obtain ⟨ft, h⟩ := s.own
    by_cases hy : ∃ t d fs, y = .ow t d fs
    · obtain ⟨t, d, fs, rfl⟩ := hy
      obtain ⟨p, S, rfl, h1, h2, h3, h4⟩ := how ft h t d fs rfl
      refine ⟨fun j => if j = i then S else ft j, fun j t' d' fs' he => ?_, fun j k t1 t2 d1 d2 f1 f2 hjk e1 e2 a a1 a2 => ?_⟩
      · by_cases hij : i = j
        · subst hij
          have hl : i < env.length := by have := fget_lt he (fun z => nomatch z); rw [fput_length] at this; exact this
          rw [fget_self hl] at he
          cases he
          refine ⟨p, List.getElem?_set_self (by rw [s.len]; exact hl), ?_⟩
          simp only [if_pos]
          exact ⟨h1, h2, h4⟩
        · rw [fget_ne _ _ hij] at he
          rw [getσ hij]
          simp only [if_neg (Ne.symm hij)]
          exact h.ow j t' d' fs' he
      · have key : ∀ {m : Nat} {t3 : Option Nat} {d3 : D} {f3 : List Str}, i ≠ m → fget (fput env i (.ow t d fs)) m = .ow t3 d3 f3 → a ∈ S → a ∈ ft m → False := fun {m t3 d3 f3} him e3 b1 b2 => by
          rw [fget_ne _ _ him] at e3
          exact h3 a b1 ⟨m, t3, d3, f3, e3, b2⟩
        by_cases hj : j = i
        · subst hj
          simp only [if_pos] at a1
          rw [if_neg (Ne.symm hjk)] at a2
          exact key hjk e2 a1 a2
        · simp only [if_neg hj] at a1
          by_cases hk : k = i
          · subst hk
            simp only [if_pos] at a2
            exact key (Ne.symm hjk) e1 a2 a1
          · simp only [if_neg hk] at a2
            rw [fget_ne _ _ (Ne.symm hj)] at e1
            rw [fget_ne _ _ (Ne.symm hk)] at e2
            exact h.dis j k t1 t2 d1 d2 f1 f2 hjk e1 e2 a a1 a2
    · have ne : ∀ {j : Nat} {t' : Option Nat} {d' : D} {fs' : List Str}, fget (fput env i y) j = .ow t' d' fs' → i ≠ j := fun {j t' d' fs'} he hij => by
        subst hij
        have hl : i < env.length := by have := fget_lt he (fun z => nomatch z); rw [fput_length] at this; exact this
        rw [fget_self hl] at he
        exact hy ⟨t', d', fs', he⟩
      refine ⟨ft, fun j t' d' fs' he => ?_, fun j k t1 t2 d1 d2 f1 f2 hjk e1 e2 => ?_⟩
      · have hij := ne he
        rw [fget_ne _ _ hij] at he
        rw [getσ hij]
        exact h.ow j t' d' fs' he
      · have h1 := ne e1
        have h2 := ne e2
        rw [fget_ne _ _ h1] at e1
        rw [fget_ne _ _ h2] at e2
        exact h.dis j k t1 t2 d1 d2 f1 f2 hjk e1 e2
/-- a slot takes data -/
theorem SR.setF (s : SR K B F H σ env) {i : Nat} {v : V} {d : D} (h : Dr K F v d) : SR K B F H (σ.set i (some v)) (fput env i (.fz d)) :=
  s.put i (some v) (.fz d) (fun d' e => by cases e; exact ⟨v, rfl, h⟩) (fun _ _ _ e => nomatch e) fun _ _ _ _ _ e => nomatch e
theorem SR.setU (s : SR K B F H σ env) (i : Nat) (v : Option V) : SR K B F H (σ.set i v) (fput env i .un) :=
  s.put i v .un (fun _ e => nomatch e) (fun _ _ _ e => nomatch e) fun _ _ _ _ _ e => nomatch e
/-- a new thing: not yet anybody's -/
def rN (K : PySem.W.Frag) (B : Bs) (F H : Hp) (σ : L2.St) (env : Fm) (v : V) (d : D) (fs : List Str) : Prop := ∃ p S, v = .ref p ∧ Own K F H p d fs S ∧ (∀ a ∈ S, F a = none ∧ (B.H0 a = none ∨ B.ps a)) ∧ ∀ ft, Hs K B F H σ env ft → ∀ a ∈ S, ¬ owned env ft a
end
end DM

/-! How frames change. -/
namespace DM
open PySem L2 DL
section
variable {K : PySem.W.Frag} {B : Bs} {F H F' H' : Hp} {σ σ' : L2.St} {env env' : Fm} {ft : Nat → List Addr}
/-- less is known of the slots -/
inductive Wk : Fm → Fm → Prop
  | nil : Wk [] []
  | k {x : Sl} {xs ys : Fm} : Wk xs ys → Wk (x :: xs) (x :: ys)
  | d {x : Sl} {xs ys : Fm} : Wk xs ys → Wk (x :: xs) (.un :: ys)
theorem Wk.refl : ∀ env : Fm, Wk env env
  | [] => .nil
  | _ :: xs => .k (Wk.refl xs)
theorem Wk.trans : ∀ {a b c : Fm}, Wk a b → Wk b c → Wk a c
  | _, _, _, .nil, h => h
  | _, _, _, .k h, .k h2 => .k (h.trans h2)
  | _, _, _, .k h, .d h2 => .d (h.trans h2)
  | _, _, _, .d h, .k h2 => .d (h.trans h2)
  | _, _, _, .d h, .d h2 => .d (h.trans h2)
theorem Wk.length {a b : Fm} (h : Wk a b) : a.length = b.length := by
  induction h with
  | nil => rfl
  | k _ ih => simp [ih]
  | d _ ih => simp [ih]
theorem Wk.get {a b : Fm} (h : Wk a b) : ∀ i, fget b i = fget a i ∨ fget b i = .un := by
  induction h with
  | nil => exact fun i => .inl rfl
  | k _ ih => exact fun i => match i with
    | 0 => .inl rfl
    | i + 1 => ih i
  | d _ ih => exact fun i => match i with
    | 0 => .inr rfl
    | i + 1 => ih i
theorem Wk.at {a b : Fm} (h : Wk a b) {i : Nat} {x : Sl} (e : fget b i = x) (n : x ≠ .un) : fget a i = x := by
  rcases h.get i with z | z
  · rw [← z]; exact e
  · rw [e] at z; exact absurd z n
/-- a slot that is not looked at may change -/
theorem Wk.put {a b : Fm} (h : Wk a b) (i : Nat) (y : Sl) (hi : fget b i = .un) : Wk (fput a i y) b := by
  induction h generalizing i with
  | nil => exact .nil
  | k h ih =>
    cases i with
    | zero => cases hi; exact .d h
    | succ i => exact .k (ih i hi)
  | d h ih =>
    cases i with
    | zero => exact .d h
    | succ i => exact .d (ih i hi)
theorem Wk.un : ∀ (a : Fm) (i : Nat), Wk a (fput a i .un)
  | [], _ => .nil
  | x :: xs, 0 => .d (Wk.refl xs)
  | x :: xs, i + 1 => .k (Wk.un xs i)
theorem fput_put : ∀ (a : Fm) (i : Nat) (x y : Sl), fput (fput a i x) i y = fput a i y
  | [], _, _, _ => rfl
  | _ :: _, 0, _, _ => rfl
  | z :: xs, i + 1, x, y => by show z :: _ = z :: _; rw [fput_put xs i x y]
theorem set_same {i : Nat} {v : Option V} (h1 : σ[i]? = some v) : σ.set i v = σ := List.ext_getElem? fun j => by
  by_cases hij : i = j
  · subst hij
    rw [h1]
    exact List.getElem?_set_self (List.getElem?_eq_some_iff.mp h1).1
  · rw [List.getElem?_set_ne hij]
theorem Hs.wk (h : Hs K B F H σ env ft) (w : Wk env env') : Hs K B F H σ env' ft :=
  ⟨fun i t d fs e => h.ow i t d fs (w.at e fun z => nomatch z), fun i j t u d e fs gs hij e1 e2 => h.dis i j t u d e fs gs hij (w.at e1 fun z => nomatch z) (w.at e2 fun z => nomatch z)⟩
theorem SR.wk (s : SR K B F H σ env) (w : Wk env env') : SR K B F H σ env' where
  ex := s.ex
  ex0 := s.ex0
  keep := s.keep
  newF := s.newF
  len := s.len.trans w.length
  fz := fun i d e => s.fz i d (w.at e fun z => nomatch z)
  xc := fun i a d gs e => s.xc i a d gs (w.at e fun z => nomatch z)
  own := s.own.imp fun ft h => h.wk w
/-- S stands still from now on -/
theorem SR.lay (s : SR K B F H σ env) {S : List Addr} (hS : ∀ a ∈ S, F a = none ∧ (B.H0 a = none ∨ B.ps a)) (hn : ∃ ft, Hs K B F H σ env ft ∧ ∀ a ∈ S, ¬ owned env ft a) : SR K B (lay F H S) H σ env := by
  have hx : Ex F (DM.lay F H S) := lay_ex fun a ha => (hS a ha).1
  refine ⟨lay_le s.ex, s.ex0.trans hx, s.keep, fun a o h => ?_, s.len, fun i d e => ?_, fun i a d gs e => ?_, ?_⟩
  · by_cases z : a ∈ S
    · exact Or.inr (hS a z).2
    · rw [lay_out z] at h; exact s.newF a o h
  · obtain ⟨v, q1, q2⟩ := s.fz i d e
    exact ⟨v, q1, q2.mono hx⟩
  · obtain ⟨h1, fs, h2, h3, h4⟩ := s.xc i a d gs e
    exact ⟨h1, fs, hx _ _ h2, h3, h4.mono hx⟩
  · obtain ⟨ft, h, hn⟩ := hn
    refine ⟨ft, h.congr hx fun a ha => ⟨rfl, ?_⟩⟩
    rw [lay_out fun z => hn a z ha]
    exact (h.owned_b ha).1
/-- a new thing stands still from now on -/
theorem SR.frzN (s : SR K B F H σ env) {v : V} {d : D} {fs : List Str} (h : rN K B F H σ env v d fs) : ∃ F', Ex F F' ∧ Dr K F' v d ∧ SR K B F' H σ env := by
  obtain ⟨p, S, rfl, h2, h3, h4⟩ := h
  obtain ⟨ft, hf⟩ := s.own
  refine ⟨DM.lay F H S, lay_ex fun a ha => (h3 a ha).1, h2.still (lay_ex fun a ha => (h3 a ha).1) fun a ha => lay_in ha, s.lay h3 ⟨ft, hf, h4 ft hf⟩⟩
/-- a slot's own thing stands still from now on -/
theorem SR.frz (s : SR K B F H σ env) {i : Nat} {t : Option Nat} {d : D} {fs : List Str} (he : fget env i = .ow t d fs) : ∃ v F', Ex F F' ∧ σ[i]? = some (some v) ∧ Dr K F' v d ∧ SR K B F' H σ (fput env i (.fz d)) := by
  obtain ⟨ft, hf⟩ := s.own
  obtain ⟨p, h1, h2, h3, h4⟩ := hf.ow i t d fs he
  have hx : Ex F (DM.lay F H (ft i)) := lay_ex fun a ha => (h3 a ha).1
  have hd : Dr K (DM.lay F H (ft i)) (.ref p) d := h2.still hx fun a ha => lay_in ha
  have s1 : SR K B F H σ (fput env i .un) := s.wk (Wk.un env i)
  have hn : ∀ a ∈ ft i, ¬ owned (fput env i .un) ft a := fun a ha ⟨j, t', d', fs', e1, e2⟩ => by
    by_cases hij : i = j
    · subst hij
      rcases fget_eq env (i := i) .un with z | z <;> (rw [z] at e1; cases e1)
    · rw [fget_ne _ _ hij] at e1
      exact hf.dis i j t t' d d' fs fs' hij he e1 a ha e2
  have s2 := s1.lay h3 ⟨ft, hf.wk (Wk.un env i), hn⟩
  refine ⟨.ref p, DM.lay F H (ft i), hx, h1, hd, ?_⟩
  have s3 := s2.setF (i := i) hd
  rw [fput_put, set_same h1] at s3
  exact s3
/-- a slot takes a new thing for itself -/
theorem SR.setO (s : SR K B F H σ env) {i : Nat} {v : V} {d : D} {fs : List Str} (h : rN K B F H σ env v d fs) : SR K B F H (σ.set i (some v)) (fput env i (.ow none d fs)) := by
  obtain ⟨p, S, rfl, h2, h3, h4⟩ := h
  refine s.put i _ _ (fun _ e => nomatch e) (fun _ _ _ e => nomatch e) fun ft hf t d' fs' e => ?_
  cases e
  exact ⟨p, S, rfl, h2, h3, h4 ft hf, fun k hk => nomatch hk⟩
/-- a slot's own thing changes -/
theorem SR.chg (s : SR K B F H σ env) {i : Nat} {t : Option Nat} {d : D} {fs : List Str} (he : fget env i = .ow t d fs) : ∃ p S, σ[i]? = some (some (.ref p)) ∧ Own K F H p d fs S ∧ (∀ a ∈ S, F a = none) ∧
    ∀ F' H' d' fs' S', Ex F F' → (∀ a o, F' a = some o → F a = some o ∨ H a = none ∨ a ∈ S) → Ex F' H' → (∀ a o, a ∉ S → H a = some o → H' a = some o) → Own K F' H' p d' fs' S' → (∀ a ∈ S', (a ∈ S ∨ H a = none) ∧ F' a = none) → SR K B F' H' σ (fput env i (.ow t d' fs')) := by
  obtain ⟨ft, hf⟩ := s.own
  obtain ⟨p, h1, h2, h3, h4⟩ := hf.ow i t d fs he
  refine ⟨p, ft i, h1, h2, fun a ha => (h3 a ha).1, fun F' H' d' fs' S' hx hnew hx' hk ho hS' => ?_⟩
  have hl : i < env.length := fget_lt he fun z => nomatch z
  refine ⟨hx', s.ex0.trans hx, fun a o h n => ?_, fun a o h => ?_, by rw [fput_length]; exact s.len, fun j e h7 => ?_, fun j a dd gs h7 => ?_, fun j => if j = i then S' else ft j, fun j t' d2 f2 h7 => ?_, fun j k t1 t2 d1 d2 f1 f2 hjk e1 e2 a a1 a2 => ?_⟩
  · refine hk a o (fun z => ?_) (s.keep a o h n)
    rcases (h3 a z).2 with q | q
    · rw [h] at q; cases q
    · exact n q
  · rcases hnew a o h with z | z | z
    · exact s.newF a o z
    · exact Or.inr (s.new_b z)
    · exact Or.inr (h3 a z).2
  · by_cases hij : i = j
    · subst hij
      rw [fget_self hl] at h7; cases h7
    · rw [fget_ne _ _ hij] at h7
      obtain ⟨v, q1, q2⟩ := s.fz j e h7
      exact ⟨v, q1, q2.mono hx⟩
  · by_cases hij : i = j
    · subst hij
      rw [fget_self hl] at h7; cases h7
    · rw [fget_ne _ _ hij] at h7
      obtain ⟨g1, fs, g2, g3, g4⟩ := s.xc j a dd gs h7
      exact ⟨g1, fs, hx _ _ g2, g3, g4.mono hx⟩
  · by_cases hij : i = j
    · subst hij
      rw [fget_self hl] at h7
      cases h7
      refine ⟨p, h1, ?_⟩
      simp only [if_pos]
      refine ⟨ho, fun a ha => ⟨(hS' a ha).2, ?_⟩, h4⟩
      rcases (hS' a ha).1 with z | z
      · exact (h3 a z).2
      · exact s.new_b z
    · rw [fget_ne _ _ hij] at h7
      simp only [if_neg (Ne.symm hij)]
      obtain ⟨q, g1, g2, g3, g4⟩ := hf.ow j t' d2 f2 h7
      have hne : ∀ a ∈ ft j, a ∉ ft i := fun a ha hb => hf.dis i j t t' d d2 fs f2 hij he h7 a hb ha
      refine ⟨q, g1, g2.congr hx fun a ha => ?_, fun a ha => ⟨?_, (g3 a ha).2⟩, g4⟩
      · obtain ⟨o, hoo⟩ := g2.some a ha
        rw [hk a o (hne a ha) hoo, hoo]
      · cases q : F' a with
        | none => rfl
        | some o =>
          rcases hnew a o q with z | z | z
          · rw [(g3 a ha).1] at z; cases z
          · obtain ⟨o2, ho2⟩ := g2.some a ha
            rw [z] at ho2; cases ho2
          · exact absurd z (hne a ha)
  · have key : ∀ {m : Nat} {t3 : Option Nat} {d3 : D} {f3 : List Str}, i ≠ m → fget (fput env i (.ow t d' fs')) m = .ow t3 d3 f3 → a ∈ S' → a ∈ ft m → False := fun {m t3 d3 f3} him e3 b1 b2 => by
      rw [fget_ne _ _ him] at e3
      rcases (hS' a b1).1 with z | z
      · exact hf.dis i m t t3 d d3 fs f3 him he e3 a z b2
      · obtain ⟨q, g1, g2, _⟩ := hf.ow m t3 d3 f3 e3
        obtain ⟨o2, ho2⟩ := g2.some a b2
        rw [z] at ho2; cases ho2
    by_cases hj : j = i
    · subst hj
      simp only [if_pos] at a1
      rw [if_neg (Ne.symm hjk)] at a2
      exact key hjk e2 a1 a2
    · simp only [if_neg hj] at a1
      by_cases hk : k = i
      · subst hk
        simp only [if_pos] at a2
        exact key (Ne.symm hjk) e1 a2 a1
      · simp only [if_neg hk] at a2
        rw [fget_ne _ _ (Ne.symm hj)] at e1
        rw [fget_ne _ _ (Ne.symm hk)] at e2
        exact hf.dis j k t1 t2 d1 d2 f1 f2 hjk e1 e2 a a1 a2

/-! ### a new start at a state, and back -/
def Bs.at (B : Bs) (F H : Hp) (env : Fm) (ft : Nat → List Addr) : Bs := ⟨F, H, owned env ft, B.par⟩
theorem SR.rebase (s : SR K B F H σ env) (hf : Hs K B F H σ env ft) : SR K (B.at F H env ft) F H σ env where
  ex := s.ex
  ex0 := Ex.refl F
  keep := fun _ _ h _ => h
  newF := fun a o h => Or.inl (fun z => by have z' : F a = none := z; rw [h] at z'; cases z')
  len := s.len
  fz := s.fz
  xc := s.xc
  own := ⟨ft, fun i t d fs e => by
    obtain ⟨p, h1, h2, h3, h4⟩ := hf.ow i t d fs e
    exact ⟨p, h1, h2, fun a ha => ⟨(h3 a ha).1, Or.inr ⟨i, t, d, fs, e, ha⟩⟩, h4⟩, hf.dis⟩
theorem SR.unbase (s : SR K B F H σ env) (hf : Hs K B F H σ env ft) {par : Nat → Option Addr} (hp : ∀ k p, par k = some p → B.par k = some p) (r : SR K ⟨F, H, owned env ft, par⟩ F' H' σ' env') : SR K B F' H' σ' env' where
  ex := r.ex
  ex0 := s.ex0.trans r.ex0
  keep := fun a o h n => r.keep a o (s.keep a o h n) fun z => by
    rcases (hf.owned_b z).2.2 with q | q
    · rw [h] at q; cases q
    · exact n q
  newF := fun a o h => by
    rcases r.newF a o h with z | z | z
    · cases q : F a with
      | none => exact absurd q z
      | some u => exact s.newF a u q
    · exact Or.inr (s.new_b z)
    · exact Or.inr (hf.owned_b z).2.2
  len := r.len
  fz := r.fz
  xc := r.xc
  own := by
    obtain ⟨ft', h'⟩ := r.own
    refine ⟨ft', fun i t d fs e => ?_, h'.dis⟩
    obtain ⟨p, h1, h2, h3, h4⟩ := h'.ow i t d fs e
    refine ⟨p, h1, h2, fun a ha => ⟨(h3 a ha).1, ?_⟩, fun k hk => hp k p (h4 k hk)⟩
    rcases (h3 a ha).2 with z | z
    · exact s.new_b z
    · exact (hf.owned_b z).2.2
/-- what stood at the entry and is not the def's stands still -/
theorem SR.off (s : SR K B F H σ env) {p : Addr} {o : HO} (h0 : B.H0 p = some o) (hF : B.F0 p = none) (hn : ¬ B.ps p) : H p = some o ∧ F p = none ∧ ∀ ft, Hs K B F H σ env ft → ¬ owned env ft p := by
  refine ⟨s.keep p o h0 hn, ?_, fun ft hf z => ?_⟩
  · cases q : F p with
    | none => rfl
    | some u =>
      rcases s.newF p u q with z | z | z
      · exact absurd hF z
      · rw [h0] at z; cases z
      · exact absurd z hn
  · rcases (hf.owned_b z).2.2 with z | z
    · rw [h0] at z; cases z
    · exact hn z
/-- a thing that is nobody's yet changes -/
theorem SR.updOff (s : SR K B F H σ env) {p : Addr} {o : HO} (hF : F p = none) (hb : B.H0 p = none ∨ B.ps p) (hn : ∀ ft, Hs K B F H σ env ft → ¬ owned env ft p) : SR K B F (upd H p o) σ env where
  ex := fun a u h => by rw [upd_ne (ne_of_none h hF)]; exact s.ex a u h
  ex0 := s.ex0
  keep := fun a u h n => by
    have hne : a ≠ p := fun z => by
      subst z
      rcases hb with z | z
      · rw [h] at z; cases z
      · exact n z
    rw [upd_ne hne]; exact s.keep a u h n
  newF := s.newF
  len := s.len
  fz := s.fz
  xc := s.xc
  own := by
    obtain ⟨ft, hf⟩ := s.own
    refine ⟨ft, hf.congr (Ex.refl F) fun a ha => ⟨upd_ne fun z => ?_, (hf.owned_b ha).1⟩⟩
    subst z
    exact hn ft hf ha
/-- the slots that nothing is known of may hold anything -/
theorem SR.unσ (s : SR K B F H σ env) (hl : σ'.length = σ.length) (hu : ∀ (i : Nat), fget env i ≠ .un → σ'[i]? = σ[i]?) : SR K B F H σ' env where
  ex := s.ex
  ex0 := s.ex0
  keep := s.keep
  newF := s.newF
  len := hl.trans s.len
  fz := fun i d e => by rw [hu i (by rw [e]; exact fun z => nomatch z)]; exact s.fz i d e
  xc := fun i a d gs e => by rw [hu i (by rw [e]; exact fun z => nomatch z)]; exact s.xc i a d gs e
  own := by
    obtain ⟨ft, hf⟩ := s.own
    exact ⟨ft, fun i t d fs e => by rw [hu i (by rw [e]; exact fun z => nomatch z)]; exact hf.ow i t d fs e, hf.dis⟩
theorem owf_eq {fs : List Str} {ws : List (Str × V)} {gs gs' : List (Str × D)} {S S' : List Addr} (h : OwF K F H fs ws gs S) (h' : OwF K F' H' fs ws gs' S') : S = S' := by
  induction h generalizing gs' S' with
  | nil => cases h'; rfl
  | fz h1 _ _ ih =>
    cases h' with
    | fz _ _ h4 => exact ih h4
    | ow h2 => exact absurd h2 h1
  | ow h1 _ _ _ _ ih =>
    cases h' with
    | fz h2 => exact absurd h1 h2
    | ow _ _ _ _ h5 => rw [ih h5]
theorem foot_same {p : Addr} {d d' : D} {fs : List Str} {S S' : List Addr} (h : Own K F H p d fs S) (hx : Ex H H') (h' : Own K F' H' p d' fs S') : S = S' := by
  cases h with
  | ce h1 h2 => exact h'.plain.1.symm
  | ob h1 h2 h3 =>
    cases h' with
    | ce h4 h5 => rw [h3.plain.1]
    | ob h4 h5 h6 =>
      rw [hx _ _ h1] at h4
      cases h4
      rw [owf_eq h3 h6]
theorem foot_eq {p : Addr} {d d' : D} {fs : List Str} {S S' : List Addr} (h : Own K F H p d fs S) (hx : Ex H H') (h' : Own K F' H' p d' fs S') : ∀ a ∈ S', H a = none → False := fun a ha hn => by
  rw [← foot_same h hx h'] at ha
  obtain ⟨o, ho⟩ := h.some a ha
  rw [hn] at ho
  cases ho
end
/-! ### what a thing that is read is -/
/-- it stands still, or it is a list or dict of the frame's own -/
def Dh (K : PySem.W.Frag) (F H : Hp) (v : V) (d : D) : Prop := Dr K F v d ∨ ∃ p o, v = .ref p ∧ H p = some o ∧ Do K F o d
section
variable {K : PySem.W.Frag} {F H F' H' : Hp} {v : V}
theorem Dh.mono {d : D} (e : Ex F F') (e2 : Ex H H') (h : Dh K F H v d) : Dh K F' H' v d := by
  rcases h with h | ⟨p, o, h1, h2, h3⟩
  · exact Or.inl (h.mono e)
  · exact Or.inr ⟨p, o, h1, e2 _ _ h2, h3.mono e⟩
theorem Dh.non (h : Dh K F H v .non) : v = .non := by
  rcases h with h | ⟨p, o, _, _, h⟩ <;> cases h; rfl
theorem Dh.bl {b : Bool} (h : Dh K F H v (.bl b)) : v = .bl b := by
  rcases h with h | ⟨p, o, _, _, h⟩ <;> cases h; rfl
theorem Dh.int {i : Int} (h : Dh K F H v (.int i)) : v = .int i := by
  rcases h with h | ⟨p, o, _, _, h⟩ <;> cases h; rfl
theorem Dh.str {x : Str} (h : Dh K F H v (.str x)) : v = .str x := by
  rcases h with h | ⟨p, o, _, _, h⟩ <;> cases h; rfl
theorem Dh.tyv {x : String} (h : Dh K F H v (.ty x)) : v = .ty x := by
  rcases h with h | ⟨p, o, _, _, h⟩ <;> cases h; rfl
theorem Dh.lstR {ds : List D} (e : Ex F H) (h : Dh K F H v (.lst ds)) : ∃ a xs, v = .ref a ∧ Rd H a (.lst xs) ∧ DrA K F xs ds := by
  rcases h with h | ⟨p, o, rfl, hp, h⟩
  · cases h with
    | lst h1 h2 => exact ⟨_, _, rfl, e.rd h1, h2⟩
  · cases h with
    | lst h2 => exact ⟨_, _, rfl, Or.inl hp, h2⟩
theorem Dh.lst {ds : List D} (e : Ex F H) (h : Dh K F H v (.lst ds)) : ∃ a xs, v = .ref a ∧ SqL K H a xs ∧ DrA K F xs ds := by
  obtain ⟨a, xs, h1, h2, h3⟩ := h.lstR e
  exact ⟨a, xs, h1, Or.inl h2, h3⟩
theorem Dh.tup {ds : List D} (e : Ex F H) (h : Dh K F H v (.tup ds)) : ∃ a xs, v = .ref a ∧ SqT K H a xs ∧ DrA K F xs ds := by
  rcases h with h | ⟨p, o, rfl, hp, h⟩
  · cases h with
    | tup h1 h2 => exact ⟨_, _, rfl, e.st h1.sq, h2⟩
  · cases h
theorem Dh.tupZ {ds : List D} (e : Ex F H) (h : Dh K F H v (.tup ds)) : ∃ a xs, v = .ref a ∧ TqT K H a xs ∧ DrA K F xs ds := by
  rcases h with h | ⟨p, o, rfl, hp, h⟩
  · cases h with
    | tup h1 h2 => exact ⟨_, _, rfl, e.tq h1, h2⟩
  · cases h
theorem Dh.dct {kds : List (Key × D)} (e : Ex F H) (h : Dh K F H v (.dct kds)) : ∃ a kvs, v = .ref a ∧ H a = some (.dK kvs) ∧ kvs.map (·.1) = kds.map (·.1) ∧ DrA K F (kvs.map (·.2)) (kds.map (·.2)) := by
  rcases h with h | ⟨p, o, rfl, hp, h⟩
  · cases h with
    | dct h1 h2 h3 => exact ⟨_, _, rfl, e _ _ h1, h2, h3⟩
  · cases h with
    | dct h2 h3 => exact ⟨_, _, rfl, hp, h2, h3⟩
theorem Dh.obj {C : Str} {gs : List (Str × D)} (e : Ex F H) (h : Dh K F H v (.obj C gs)) : ∃ a c dx fs, v = .ref a ∧ H a = some (.ins c dx fs) ∧ Cl K C c ∧ fs.map (·.1) = gs.map (·.1) ∧ DrA K F (fs.map (·.2)) (gs.map (·.2)) := by
  rcases h with h | ⟨p, o, rfl, hp, h⟩
  · cases h with
    | obj h1 h2 h3 h4 => exact ⟨_, _, _, _, rfl, e _ _ h1, h2, h3, h4⟩
  · cases h with
    | obj h2 h3 h4 => exact ⟨_, _, _, _, rfl, hp, h2, h3, h4⟩
theorem Dh.all {d : D} (e : Ex F H) (h : Dh K F H v d) : Dr K H v d := by
  rcases h with h | ⟨p, o, rfl, hp, h⟩
  · exact h.mono e
  · exact (h.mono e).dr hp
end
end DM

/-! Tuples that are laid so that it is known that they have no dict. -/
namespace DM
open PySem PySem.Spec PyProof.Rows L2 DL

/-- a new tuple, its object kept -/
def zT (xs : List V) (H : Hp) (Q : VK) : Prop := ∀ p o, H p = none → o.dict = none → Q (.ref p) (upd H p (.frz o (.tup xs)))
section
variable {X : Cx} {pins : List (Addr × Obj)} {σ : L2.St} {H : Hp} {s : Shared} {Q : VK}
theorem zT.made {xs : List V} {us : List Value} {tk : Nat} (I : Inv X pins σ H s) (r : Vals xs us) (z : xs.length ≤ sizeLine) (q : zT xs H Q) : EP X pins σ Q (.ref s.heap.objs.size) { s with heap := s.heap.push ({ cls := .type "tuple", data := .seq us.toArray } : Obj), toks := tk } := by
  have hg : (s.heap.push ({ cls := .type "tuple", data := .seq us.toArray } : Obj)).get? s.heap.objs.size = some { cls := .type "tuple", data := .seq us.toArray } := Heap.get?_push_size _ rfl
  refine ⟨.ref s.heap.objs.size, upd H s.heap.objs.size (.frz { cls := .type "tuple", data := .seq us.toArray } (.tup xs)), ?_, rfl, q _ _ (I.hok.fresh (Nat.le_refl _)) rfl⟩
  refine I.laid (t' := tk) (fun b u e => Heap.get?_push_of_some _ e) (Nat.le_refl _) ?_
  show _ = _ ∧ _
  exact ⟨hg, z, us, r, _, hg, rfl, _, rfl⟩
end
section
variable {X : Cx}
def tTupZ (t : TA) : TE := fun σ H Q => t σ H fun xs H1 => xs.length ≤ sizeLine ∧ zT xs H1 Q
theorem pe_tupZ {es : List Expr} {t : TA} {pos : Pos} {x1} (h : PA X es t) : PE X (.Tuple es x1 pos) (tTupZ t) :=
  ⟨fun pins s σ H Q I hq => wpAny_Tuple_spliced (thn (h.run pos pins s σ H _ I hq) fun us s1 ⟨xs, H1, I1, r, z, q⟩ => ⟨by rw [← r.length]; exact z, zT.made I1 r z q⟩)⟩
def rCatZ (K : PySem.W.Frag) : R2 := fun x y H Q => ∃ a b xs ys, x = .ref a ∧ y = .ref b ∧ SqT K H a xs ∧ SqT K H b ys ∧ xs.length + ys.length ≤ sizeLine ∧ (xs = [] → Q (.ref b) H) ∧ (xs ≠ [] → ys = [] → Q (.ref a) H) ∧ (xs ≠ [] → ys ≠ [] → zT (xs ++ ys) H Q)
theorem op_catZ : OpR X (binaryOp .Add) (rCatZ X.K) := by
  intro pins s σ H x y v u Q I rx ry h
  obtain ⟨a, b, xs, ys, rfl, rfl, ha, hb, hz, q0, q1, q2⟩ := h
  cases rx
  cases ry
  obtain ⟨i1, r1, p1, _⟩ := I.tuple ha
  obtain ⟨i2, r2, p2, _⟩ := I.tuple hb
  by_cases hx : xs = []
  · subst hx
    cases r1
    exact cat_tup0 p1 p2 ⟨.ref b, H, I, rfl, q0 rfl⟩
  · exact HT.cat_tup p1 p2 (fun z => hx (r1.nil_iff.mp z)) (fun z => ⟨.ref a, H, I, rfl, q1 hx (r2.nil_iff.mp z)⟩) (fun z => zT.made I (r1.append r2) (by rw [List.length_append]; exact hz) (q2 hx fun w => z (r2.nil_iff.mpr w))) (by rw [← r1.length, ← r2.length]; exact hz)
def rSlZ (K : PySem.W.Frag) : V → Option Int → Option Int → Hp → VK → Prop := fun x lo hi H Q => ∃ a xs, x = .ref a ∧ SqT K H a xs ∧
  (HT.sIx xs.length 0 lo = 0 ∧ HT.sIx xs.length xs.length hi = xs.length → Q (.ref a) H) ∧ (¬ (HT.sIx xs.length 0 lo = 0 ∧ HT.sIx xs.length xs.length hi = xs.length) → zT (cutV xs lo hi) H Q)
theorem sl_tupZ : SlR X (rSlZ X.K) := by
  intro pins s σ H x v vl vu lo hi sl Q I rx hs pl pu h
  obtain ⟨a, xs, rfl, hx, q1, q2⟩ := h
  cases rx
  obtain ⟨its, r, ht, hz⟩ := I.tuple hx
  have hlen : its.toArray.size = xs.length := by rw [List.size_toArray, r.length]
  refine ⟨"tuple", _, PyProof.Rows.slot_tuple_getitem.lookup, ht.typeIs, ?_⟩
  by_cases hw : HT.sIx xs.length 0 lo = 0 ∧ HT.sIx xs.length xs.length hi = xs.length
  · exact getItem_tuple_whole ht hs pl pu (by rw [hlen]; exact hw) ⟨.ref a, H, I, rfl, q1 hw⟩
  · refine HT.getItem_tuple_cut ht hs pl pu (by rw [hlen]; exact hw) ?_ (by rw [hlen]; exact hz)
    rw [hlen]
    exact zT.made I ((r.drop (HT.sIx xs.length 0 lo)).take (HT.sIx xs.length xs.length hi - HT.sIx xs.length 0 lo)) (Nat.le_trans (cutV_length xs lo hi) hz) (q2 hw)
def rTupZ (K : PySem.W.Frag) : List V → Hp → VK → Prop := fun xs H Q => ∃ p ys, xs = [.ref p] ∧ ((SqL K H p ys ∧ zT ys H Q) ∨ (SqT K H p ys ∧ Q (.ref p) H))
theorem call_tupleZ : CallR X (.type "tuple") (rTupZ X.K) := by
  intro pins s σ H xs us Q I r h
  obtain ⟨p, ys, rfl, h⟩ := h
  obtain ⟨u, rfl, rx⟩ := vals1 r
  cases rx
  rcases h with ⟨hq, q⟩ | ⟨hq, q⟩
  · obtain ⟨its, r', pl, hz⟩ := I.list hq
    refine call_tuple_list pl.isList (fun h' kp => ?_) (by rw [List.size_toArray, ← r'.length]; exact hz)
    exact zT.made (I.kept (t' := s.toks) kp) r' hz q
  · obtain ⟨its, r', pl, hz⟩ := I.tuple hq
    exact call_tuple_same pl ⟨.ref p, H, I, rfl, q⟩
end
end DM

/-! Operators and built-ins on data. -/
namespace DM
open PySem PySem.Spec PyProof.Rows L2 DL
section
variable {K : PySem.W.Frag} {B : Bs} {F H : Hp} {σ : L2.St} {env : Fm}
theorem SR.newN (s : SR K B F H σ env) {p : Addr} {o : HO} {d : D} (hp : H p = none) (hd : Do K F o d) : SR K B F (upd H p o) σ env ∧ rN K B F (upd H p o) σ env (.ref p) d [] := by
  refine ⟨s.growH hp, p, [p], rfl, .ce upd_same hd, fun a ha => ?_, fun ft hf a ha z => ?_⟩
  · rw [List.mem_singleton.mp ha]
    exact ⟨s.ex.none hp, s.new_b hp⟩
  · rw [List.mem_singleton.mp ha] at z
    obtain ⟨i, t, d', fs, e1, e2⟩ := z
    obtain ⟨ft0, hf0⟩ := s.own
    obtain ⟨q, h1, h2, _⟩ := hf0.ow i t d' fs e1
    obtain ⟨q', g1, g2, g3, _⟩ := hf.ow i t d' fs e1
    rw [h1] at g1
    cases g1
    exact (foot_eq h2 (fun a o e => Ex.new hp a o e) g2 p e2 hp).elim
theorem SR.newT (s : SR K B F H σ env) {p : Addr} {o : Obj} {xs : List V} {ds : List D} (hp : H p = none) (ho : o.dict = none) (hd : DrA K F xs ds) :
    Ex F (upd F p (.frz o (.tup xs))) ∧ SR K B (upd F p (.frz o (.tup xs))) (upd H p (.frz o (.tup xs))) σ env ∧ Dr K (upd F p (.frz o (.tup xs))) (.ref p) (.tup ds) :=
  ⟨Ex.new (s.ex.none hp), s.grow hp, .tup (Or.inl ⟨o, upd_same, ho⟩) (hd.mono (Ex.new (s.ex.none hp)))⟩
end
/-! ### two-place operations -/
/-- on data, what comes stands still -/
def OpD (K : PySem.W.Frag) (r : R2) (g : D → D → Option D) : Prop := ∀ B F H σ env x y a b c Q, SR K B F H σ env → Dh K F H x a → Dh K F H y b → g a b = some c →
  (∀ v F' H', Ex F F' → Ex H H' → SR K B F' H' σ env → Dr K F' v c → Q v H') → r x y H Q
/-- .. what comes is new -/
def OpN (K : PySem.W.Frag) (r : R2) (g : D → D → Option D) : Prop := ∀ B F H σ env x y a b c Q, SR K B F H σ env → Dh K F H x a → Dh K F H y b → g a b = some c →
  (∀ v F' H', Ex F F' → Ex H H' → SR K B F' H' σ env → rN K B F' H' σ env v c [] → Q v H') → r x y H Q
theorem OpN.d {K : PySem.W.Frag} {r : R2} {g : D → D → Option D} (h : OpN K r g) : OpD K r g := fun B F H σ env x y a b c Q s hx hy hc q =>
  h B F H σ env x y a b c Q s hx hy hc fun v F' H' e eh s' n => by
    obtain ⟨F2, e2, d2, s2⟩ := s'.frzN n
    exact q v F2 H' (e.trans e2) eh s2 d2
def orG (g g' : D → D → Option D) : D → D → Option D := fun a b => match g a b with
  | some c => some c
  | none => g' a b
theorem OpD.or {K : PySem.W.Frag} {r r' : R2} {g g' : D → D → Option D} (h : OpD K r g) (h' : OpD K r' g') : OpD K (fun x y H Q => r x y H Q ∨ r' x y H Q) (orG g g') := fun B F H σ env x y a b c Q s hx hy hc q => by
  unfold orG at hc
  cases e : g a b with
  | some z =>
    rw [e] at hc
    cases hc
    exact Or.inl (h B F H σ env x y a b _ Q s hx hy e q)
  | none =>
    rw [e] at hc
    exact Or.inr (h' B F H σ env x y a b c Q s hx hy hc q)
/-! ### ints -/
def intG (C : Int → Int → Bool) (h : Int → Int → D) : D → D → Option D := fun a b => match a, b with
  | .int i, .int j => if C i j then some (h i j) else none
  | _, _ => none
section
variable {K : PySem.W.Frag}
theorem opd_I {C : Int → Int → Prop} {C' : Int → Int → Bool} {g : Int → Int → V} {h : Int → Int → D} (hc : ∀ i j, C' i j = true → C i j) (hd : ∀ F i j, Dr K F (g i j) (h i j)) : OpD K (rI C g) (intG C' h) := by
  intro B F H σ env x y a b c Q s hx hy hg q
  unfold intG at hg
  split at hg
  · rename_i i j
    split at hg
    · rename_i hij
      cases hg
      exact ⟨i, j, hx.int, hy.int, hc i j hij, q _ F H (Ex.refl F) (Ex.refl H) s (hd F i j)⟩
    · cases hg
  · cases hg
theorem opd_I0 {g : Int → Int → V} {h : Int → Int → D} (hd : ∀ F i j, Dr K F (g i j) (h i j)) : OpD K (rI0 g) (intG (fun _ _ => true) h) := by
  intro B F H σ env x y a b c Q s hx hy hg q
  unfold intG at hg
  split at hg
  · rename_i i j
    rw [if_pos rfl] at hg
    cases hg
    exact ⟨i, j, hx.int, hy.int, q _ F H (Ex.refl F) (Ex.refl H) s (hd F i j)⟩
  · cases hg
def cMul (i j : Int) : Bool := decide (-(2 ^ 64) < i ∧ i < 2 ^ 64) || decide (-(2 ^ 64) < j ∧ j < 2 ^ 64)
def cDiv (_ j : Int) : Bool := decide (0 < j ∧ j < 1073741824)
def cMod (_ j : Int) : Bool := decide (0 < j)
def cPow (i j : Int) : Bool := decide (0 ≤ j ∧ j ≤ 1000000 ∧ i.natAbs < 2 ^ 64)
def addG := intG (fun _ _ => true) fun i j => .int (i + j)
def subG := intG (fun _ _ => true) fun i j => .int (i - j)
def mulG := intG cMul fun i j => .int (i * j)
def divG := intG cDiv fun i j => .int (i / j)
def modG := intG cMod fun i j => .int (i % j)
def powG := intG cPow fun i j => .int (i ^ j.toNat)
def ltG := intG (fun _ _ => true) fun i j => .bl (decide (i < j))
def leG := intG (fun _ _ => true) fun i j => .bl (decide (i ≤ j))
def gtG := intG (fun _ _ => true) fun i j => .bl (decide (j < i))
def geG := intG (fun _ _ => true) fun i j => .bl (decide (j ≤ i))
theorem od_add : OpD K (rI0 fun i j => .int (i + j)) addG := opd_I0 fun _ _ _ => .int _
theorem od_sub : OpD K (rI0 fun i j => .int (i - j)) subG := opd_I0 fun _ _ _ => .int _
theorem od_mul : OpD K (rI CMul fun i j => .int (i * j)) mulG := opd_I (fun i j h => by
  unfold cMul at h
  rw [Bool.or_eq_true] at h
  rcases h with h | h
  · exact Or.inl (of_decide_eq_true h)
  · exact Or.inr (of_decide_eq_true h)) fun _ _ _ => .int _
theorem od_div : OpD K (rI CDiv fun i j => .int (i / j)) divG := opd_I (fun i j h => (of_decide_eq_true h : 0 < j ∧ j < 1073741824)) fun _ _ _ => .int _
theorem od_mod : OpD K (rI (fun _ j => 0 < j) fun i j => .int (i % j)) modG := opd_I (fun i j h => of_decide_eq_true h) fun _ _ _ => .int _
theorem od_pow : OpD K (rI CPow fun i j => .int (i ^ j.toNat)) powG := opd_I (fun i j h => (of_decide_eq_true h : 0 ≤ j ∧ j ≤ 1000000 ∧ i.natAbs < 2 ^ 64)) fun _ _ _ => .int _
theorem od_lt : OpD K (rI0 fun i j => .bl (decide (i < j))) ltG := opd_I0 fun _ _ _ => .bl _
theorem od_le : OpD K (rI0 fun i j => .bl (decide (i ≤ j))) leG := opd_I0 fun _ _ _ => .bl _
theorem od_gt : OpD K (rI0 fun i j => .bl (decide (j < i))) gtG := opd_I0 fun _ _ _ => .bl _
theorem od_ge : OpD K (rI0 fun i j => .bl (decide (j ≤ i))) geG := opd_I0 fun _ _ _ => .bl _
end

/-! ### texts -/
def catSG : D → D → Option D := fun a b => match a, b with
  | .str x, .str y => if x.length + y.length ≤ sizeLine then some (.str (x ++ y)) else none
  | _, _ => none
def inSG : D → D → Option D := fun a b => match a, b with
  | .str x, .str z => match x.cps.toList with
    | [c] => some (.bl (decide (c ∈ z.cps.toList)))
    | _ => none
  | _, _ => none
def notInSG : D → D → Option D := fun a b => match a, b with
  | .str x, .str z => match x.cps.toList with
    | [c] => some (.bl (!decide (c ∈ z.cps.toList)))
    | _ => none
  | _, _ => none
section
variable {K : PySem.W.Frag}
theorem od_catS : OpD K (fun x y H Q => ∃ i j, x = .str i ∧ y = .str j ∧ i.length + j.length ≤ sizeLine ∧ Q (.str (i ++ j)) H) catSG := by
  intro B F H σ env x y a b c Q s hx hy hg q
  unfold catSG at hg
  split at hg
  · split at hg
    · rename_i hij
      cases hg
      exact ⟨_, _, hx.str, hy.str, hij, q _ F H (Ex.refl F) (Ex.refl H) s (.str _)⟩
    · cases hg
  · cases hg
theorem od_inS : OpD K (fun x y H Q => ∃ (c : Nat) (z : Str), x = .str ⟨#[c]⟩ ∧ y = .str z ∧ Q (.bl (decide (c ∈ z.cps.toList))) H) inSG := by
  intro B F H σ env x y a b c Q s hx hy hg q
  unfold inSG at hg
  split at hg
  · split at hg
    · rename_i x' z _ c' he
      cases hg
      have e : x' = ⟨#[c']⟩ := by
        obtain ⟨⟨l⟩⟩ := x'
        have he' : l = [c'] := he
        rw [he']
      exact ⟨c', z, by rw [hx.str, e], hy.str, q _ F H (Ex.refl F) (Ex.refl H) s (.bl _)⟩
    · cases hg
  · cases hg
theorem od_notInS : OpD K (fun x y H Q => ∃ (c : Nat) (z : Str), x = .str ⟨#[c]⟩ ∧ y = .str z ∧ Q (.bl (!decide (c ∈ z.cps.toList))) H) notInSG := by
  intro B F H σ env x y a b c Q s hx hy hg q
  unfold notInSG at hg
  split at hg
  · split at hg
    · rename_i x' z _ c' he
      cases hg
      have e : x' = ⟨#[c']⟩ := by
        obtain ⟨⟨l⟩⟩ := x'
        have he' : l = [c'] := he
        rw [he']
      exact ⟨c', z, by rw [hx.str, e], hy.str, q _ F H (Ex.refl F) (Ex.refl H) s (.bl _)⟩
    · cases hg
  · cases hg
end

/-! ### == of data -/
mutual
def pd : D → PyData
  | .non => .none
  | .bl b => .bool b
  | .int i => .int i
  | .str x => .str x
  | .lst ds => .list (pds ds)
  | .tup ds => .tuple (pds ds)
  | .dct _ => .dict []
  | .obj _ _ => .dict []
  | .ty _ => .dict []
  | .exc _ _ => .dict []
def pds : List D → List PyData
  | [] => []
  | d :: ds => pd d :: pds ds
end
theorem Dr.pd {K : PySem.W.Frag} {F : Hp} {v : V} {d : D} (h : Dr K F v d) : (DM.pd d).canLay0 = true → Dp K F v (DM.pd d) :=
  Dr.rec (motive_1 := fun v d _ => (DM.pd d).canLay0 = true → Dp K F v (DM.pd d)) (motive_2 := fun vs ds _ => PyData.canLayAll0 (pds ds) = true → DpAll K F vs (pds ds))
    (fun _ => by rw [DM.pd]; exact .non) (fun b _ => by rw [DM.pd]; exact .bl b) (fun i _ => by rw [DM.pd]; exact .int i) (fun x _ => by rw [DM.pd]; exact .str x)
    (fun h _ ih c => by rw [DM.pd] at c ⊢; exact .lst (Or.inl h) (ih (by simpa only [PyData.canLay0] using c)))
    (fun h _ ih c => by rw [DM.pd] at c ⊢; exact .tup h.sq (ih (by simpa only [PyData.canLay0] using c)))
    (fun _ _ _ _ c => by rw [DM.pd] at c; simp [PyData.canLay0] at c) (fun _ _ _ _ _ c => by rw [DM.pd] at c; simp [PyData.canLay0] at c) (fun _ c => by rw [DM.pd] at c; simp [PyData.canLay0] at c) (fun _ _ _ _ _ _ c => by rw [DM.pd] at c; simp [PyData.canLay0] at c)
    (fun _ => by rw [pds]; exact .nil)
    (fun _ _ ih ih2 c => by
      rw [pds] at c ⊢
      rw [PyData.canLayAll0, Bool.and_eq_true] at c
      exact .cons (ih c.1) (ih2 c.2)) h
/-- plain data, not too deep: can be compared -/
def shp (d : D) : Bool := SeqAt.shaped (pd d)
def eqG : D → D → Option D := fun a b => match a, b with
  | .int i, .int j => some (.bl (decide (i = j)))
  | .str i, .str j => some (.bl (decide (i = j)))
  | .bl i, .bl j => some (.bl (decide (i = j)))
  | a, b => if shp a && shp b then some (.bl (PyData.eqv (pd a) (pd b))) else none
def neG : D → D → Option D := fun a b => match a, b with
  | .int i, .int j => some (.bl (!decide (i = j)))
  | .str i, .str j => some (.bl (!decide (i = j)))
  | .bl i, .bl j => some (.bl (!decide (i = j)))
  | a, b => if shp a && shp b then some (.bl (!PyData.eqv (pd a) (pd b))) else none
section
variable {K : PySem.W.Frag} {X : Cx}
theorem decV_int (i j : Int) : decide (V.int i = V.int j) = decide (i = j) := by
  by_cases e : i = j
  · subst e; simp
  · rw [decide_eq_false e, decide_eq_false fun h => e (V.int.inj h)]
theorem decV_str (i j : Str) : decide (V.str i = V.str j) = decide (i = j) := by
  by_cases e : i = j
  · subst e; simp
  · rw [decide_eq_false e, decide_eq_false fun h => e (V.str.inj h)]
theorem decV_bl (i j : Bool) : decide (V.bl i = V.bl j) = decide (i = j) := by
  by_cases e : i = j
  · subst e; simp
  · rw [decide_eq_false e, decide_eq_false fun h => e (V.bl.inj h)]
abbrev rEqA (K : PySem.W.Frag) : R2 := fun x y H Q => rEq x y H Q ∨ rEqD K x y H Q
abbrev rNeA (K : PySem.W.Frag) : R2 := fun x y H Q => rNe x y H Q ∨ rNeD K x y H Q
theorem od_eq : OpD K (rEqA K) eqG := by
  intro B F H σ env x y a b c Q s hx hy hg q
  unfold eqG at hg
  split at hg
  · cases hg
    rw [hx.int, hy.int]
    exact Or.inl ⟨rfl, by rw [decV_int]; exact q _ F H (Ex.refl F) (Ex.refl H) s (.bl _)⟩
  · cases hg
    rw [hx.str, hy.str]
    exact Or.inl ⟨rfl, by rw [decV_str]; exact q _ F H (Ex.refl F) (Ex.refl H) s (.bl _)⟩
  · cases hg
    rw [hx.bl, hy.bl]
    exact Or.inl ⟨rfl, by rw [decV_bl]; exact q _ F H (Ex.refl F) (Ex.refl H) s (.bl _)⟩
  · split at hg
    · rename_i hs
      cases hg
      rw [Bool.and_eq_true] at hs
      exact Or.inr ⟨_, _, (hx.all s.ex).pd (SeqAt.canLay_of_shaped hs.1), (hy.all s.ex).pd (SeqAt.canLay_of_shaped hs.2), hs.1, hs.2, q _ F H (Ex.refl F) (Ex.refl H) s (.bl _)⟩
    · cases hg
theorem od_ne : OpD K (rNeA K) neG := by
  intro B F H σ env x y a b c Q s hx hy hg q
  unfold neG at hg
  split at hg
  · cases hg
    rw [hx.int, hy.int]
    exact Or.inl ⟨rfl, by rw [decV_int]; exact q _ F H (Ex.refl F) (Ex.refl H) s (.bl _)⟩
  · cases hg
    rw [hx.str, hy.str]
    exact Or.inl ⟨rfl, by rw [decV_str]; exact q _ F H (Ex.refl F) (Ex.refl H) s (.bl _)⟩
  · cases hg
    rw [hx.bl, hy.bl]
    exact Or.inl ⟨rfl, by rw [decV_bl]; exact q _ F H (Ex.refl F) (Ex.refl H) s (.bl _)⟩
  · split at hg
    · rename_i hs
      cases hg
      rw [Bool.and_eq_true] at hs
      exact Or.inr ⟨_, _, (hx.all s.ex).pd (SeqAt.canLay_of_shaped hs.1), (hy.all s.ex).pd (SeqAt.canLay_of_shaped hs.2), hs.1, hs.2, q _ F H (Ex.refl F) (Ex.refl H) s (.bl _)⟩
    · cases hg
theorem op_eqA (hu : X.A.units + 64 < cLine) (hK : X.K = K := by rfl) : OpR X (compareOp .Eq) (rEqA K) := by
  subst hK
  exact op_eq.or (op_eqD hu)
theorem op_neA (hu : X.A.units + 64 < cLine) (hK : X.K = K := by rfl) : OpR X (compareOp .NotEq) (rNeA K) := by
  subst hK
  exact op_ne.or (op_neD hu)
end
/-! ### is -/
def isNon : D → Option Bool
  | .non => some true
  | .ty _ => none
  | _ => some false
def isNG : D → D → Option D := fun a b => match b with
  | .non => (isNon a).map .bl
  | _ => none
def notNG : D → D → Option D := fun a b => match b with
  | .non => (isNon a).map fun k => .bl (!k)
  | _ => none
def isBG : D → D → Option D := fun a b => match a, b with
  | .bl i, .bl j => some (.bl (decide (i = j)))
  | _, _ => none
def notBG : D → D → Option D := fun a b => match a, b with
  | .bl i, .bl j => some (.bl (!decide (i = j)))
  | _, _ => none
section
variable {K : PySem.W.Frag}
theorem Dh.isN {F H : Hp} {x : V} {a : D} {k : Bool} (hc : isNon a = some k) (h : Dh K F H x a) : decide (x = .non) = k := by
  rcases h with h | ⟨p, o, rfl, _, h⟩
  · cases h <;> first | (cases hc; rfl) | cases hc
  · cases h <;> (cases hc; rfl)
theorem od_isN : OpD K (fun x y H Q => y = .non ∧ Q (.bl (decide (x = .non))) H) isNG := by
  intro B F H σ env x y a b c Q s hx hy hg q
  unfold isNG at hg
  split at hg
  · cases e : isNon a with
    | none => rw [e] at hg; cases hg
    | some k =>
      rw [e] at hg
      cases hg
      exact ⟨hy.non, by rw [hx.isN e]; exact q _ F H (Ex.refl F) (Ex.refl H) s (.bl _)⟩
  · cases hg
theorem od_notN : OpD K (fun x y H Q => y = .non ∧ Q (.bl (!decide (x = .non))) H) notNG := by
  intro B F H σ env x y a b c Q s hx hy hg q
  unfold notNG at hg
  split at hg
  · cases e : isNon a with
    | none => rw [e] at hg; cases hg
    | some k =>
      rw [e] at hg
      cases hg
      exact ⟨hy.non, by rw [hx.isN e]; exact q _ F H (Ex.refl F) (Ex.refl H) s (.bl _)⟩
  · cases hg
theorem od_isB : OpD K rIsB isBG := by
  intro B F H σ env x y a b c Q s hx hy hg q
  unfold isBG at hg
  split at hg
  · cases hg
    exact ⟨_, _, hx.bl, hy.bl, q _ F H (Ex.refl F) (Ex.refl H) s (.bl _)⟩
  · cases hg
theorem od_notB : OpD K rNotB notBG := by
  intro B F H σ env x y a b c Q s hx hy hg q
  unfold notBG at hg
  split at hg
  · cases hg
    exact ⟨_, _, hx.bl, hy.bl, q _ F H (Ex.refl F) (Ex.refl H) s (.bl _)⟩
  · cases hg
end

def DhA (K : PySem.W.Frag) (F H : Hp) : List V → List D → Prop
  | [], [] => True
  | v :: vs, d :: ds => Dh K F H v d ∧ DhA K F H vs ds
  | _, _ => False
def CallD (K : PySem.W.Frag) (r : List V → Hp → VK → Prop) (g : List D → Option D) : Prop := ∀ B F H σ env xs as c Q, SR K B F H σ env → DhA K F H xs as → g as = some c →
  (∀ v F' H', Ex F F' → Ex H H' → SR K B F' H' σ env → Dr K F' v c → Q v H') → r xs H Q
def CallN (K : PySem.W.Frag) (r : List V → Hp → VK → Prop) (g : List D → Option D) : Prop := ∀ B F H σ env xs as c Q, SR K B F H σ env → DhA K F H xs as → g as = some c →
  (∀ v F' H', Ex F F' → Ex H H' → SR K B F' H' σ env → rN K B F' H' σ env v c [] → Q v H') → r xs H Q
/-! ### len, isinstance, all, any, max, min, int -/
def lenG : List D → Option D
  | [.str x] => if x.length ≤ sizeLine then some (.int x.length) else none
  | [.lst ds] => some (.int ds.length)
  | [.tup ds] => some (.int ds.length)
  | _ => none
def tyn : D → Option String
  | .non => some "NoneType"
  | .bl _ => some "bool"
  | .int _ => some "int"
  | .str _ => some "str"
  | .lst _ => some "list"
  | .tup _ => some "tuple"
  | .dct _ => some "dict"
  | _ => none
def tyIs (a T : String) : Bool := a == T || (a == "bool" && T == "int")
def tys : List String := ["NoneType", "bool", "int", "str", "list", "tuple", "dict"]
def isiG : List D → Option D
  | [d, .ty T] => if tys.contains T then (tyn d).map fun a => .bl (tyIs a T) else none
  | _ => none
def boolsOf : List D → Option (List Bool)
  | [] => some []
  | .bl b :: ds => (boolsOf ds).map (b :: ·)
  | _ :: _ => none
def allG : List D → Option D
  | [.lst ds] => (boolsOf ds).map fun bs => .bl (bs.all id)
  | _ => none
def anyG : List D → Option D
  | [.lst ds] => (boolsOf ds).map fun bs => .bl (bs.any id)
  | _ => none
def max2G : List D → Option D
  | [.int i, .int j] => some (.int (if j > i then j else i))
  | _ => none
def min2G : List D → Option D
  | [.int i, .int j] => some (.int (if j < i then j else i))
  | _ => none
def intG1 : List D → Option D
  | [.int i] => some (.int i)
  | [.bl k] => some (.int (if k then 1 else 0))
  | _ => none
section
variable {K : PySem.W.Frag} {F H : Hp}
theorem DhA.one {xs : List V} {d : D} (h : DhA K F H xs [d]) : ∃ v, xs = [v] ∧ Dh K F H v d := by
  match xs, h with
  | [v], h => exact ⟨v, rfl, h.1⟩
  | [], h => exact h.elim
  | _ :: _ :: _, h => exact h.2.elim
theorem DhA.two {xs : List V} {d e : D} (h : DhA K F H xs [d, e]) : ∃ v w, xs = [v, w] ∧ Dh K F H v d ∧ Dh K F H w e := by
  match xs, h with
  | [v, w], h => exact ⟨v, w, rfl, h.1, h.2.1⟩
  | [], h => exact h.elim
  | [_], h => exact h.2.elim
  | _ :: _ :: _ :: _, h => exact h.2.2.elim
theorem cd_len : CallD K (fun xs H Q => ∃ x n, xs = [x] ∧ LenV K x H n ∧ Q (.int n) H) lenG := by
  intro B F H σ env xs as c Q s hx hg q
  unfold lenG at hg
  split at hg
  · split at hg
    · rename_i hz
      cases hg
      obtain ⟨v, rfl, hv⟩ := hx.one
      refine ⟨v, _, rfl, ?_, q _ F H (Ex.refl F) (Ex.refl H) s (.int _)⟩
      rw [hv.str]
      exact ⟨hz, rfl⟩
    · cases hg
  · cases hg
    obtain ⟨v, rfl, hv⟩ := hx.one
    obtain ⟨a, ys, rfl, h1, h2⟩ := hv.lst s.ex
    exact ⟨_, _, rfl, Or.inl ⟨ys, h1, h2.length.symm⟩, q _ F H (Ex.refl F) (Ex.refl H) s (.int _)⟩
  · cases hg
    obtain ⟨v, rfl, hv⟩ := hx.one
    obtain ⟨a, ys, rfl, h1, h2⟩ := hv.tup s.ex
    exact ⟨_, _, rfl, Or.inr ⟨ys, h1, h2.length.symm⟩, q _ F H (Ex.refl F) (Ex.refl H) s (.int _)⟩
  · cases hg
theorem sql_ty {a : Addr} {xs : List V} (h : SqL K H a xs) : TyX K H (.ref a) (.type "list") := by
  rcases h with (h | ⟨o, h⟩) | ⟨o, its, n, h1, h2, _⟩
  · exact .base (.lst h)
  · exact .base (.frz h)
  · exact .kList h1 h2
theorem sqt_ty {a : Addr} {xs : List V} (h : SqT K H a xs) : TyX K H (.ref a) (.type "tuple") := by
  rcases h with (h | ⟨o, h⟩) | ⟨o, its, n, h1, h2, _⟩
  · exact .base (.tup h)
  · exact .fTuple h
  · exact .kTuple h1 h2
theorem Dh.ty {x : V} {d : D} {a : String} (e : Ex F H) (h : Dh K F H x d) (ht : tyn d = some a) : TyX K H x (.type a) := by
  cases d with
  | non => cases ht; rw [h.non]; exact .base .non
  | bl b => cases ht; rw [h.bl]; exact .base (.bl b)
  | int i => cases ht; rw [h.int]; exact .base (.int i)
  | str y => cases ht; rw [h.str]; exact .base (.str y)
  | lst ds => cases ht; obtain ⟨p, ys, rfl, h1, _⟩ := h.lst e; exact sql_ty h1
  | tup ds => cases ht; obtain ⟨p, ys, rfl, h1, _⟩ := h.tup e; exact sqt_ty h1
  | dct kvs => cases ht; obtain ⟨p, ys, rfl, h1, _⟩ := h.dct e; exact .base (.dK h1)
  | obj C fs => cases ht
  | ty c => cases ht
  | exc C fs => cases ht
theorem kit_tab : ∀ a ∈ tys, ∀ T ∈ tys, kitB a T = some (tyIs a T) := by decide +kernel
theorem tyn_mem {d : D} {a : String} (h : tyn d = some a) : a ∈ tys := by
  cases d <;> cases h <;> decide
theorem cd_isi : CallD K (rIsi K) isiG := by
  intro B F H σ env xs as c Q s hx hg q
  unfold isiG at hg
  split at hg
  · rename_i d T
    split at hg
    · rename_i hT
      cases ht : tyn d with
      | none => rw [ht] at hg; cases hg
      | some a =>
        rw [ht] at hg
        cases hg
        obtain ⟨v, w, rfl, hv, hw⟩ := hx.two
        rw [hw.tyv]
        exact ⟨v, .ty T, .type a, .type T, _, rfl, .ty T, hv.ty s.ex ht, kit_ty (kit_tab a (tyn_mem ht) T (List.contains_iff_mem.mp hT)), q _ F H (Ex.refl F) (Ex.refl H) s (.bl _)⟩
    · cases hg
  · cases hg
theorem boolsOf_dr : ∀ {xs : List V} {ds : List D} {bs : List Bool}, DrA K F xs ds → boolsOf ds = some bs → xs = bs.map V.bl
  | _, _, bs, .nil, h => by cases h; rfl
  | _, _, bs, .cons (d := d) (ds := ds) h t, hb => by
    unfold boolsOf at hb
    split at hb
    · rename_i he; cases he
    · rename_i b ds' he
      cases he
      cases h
      cases e : boolsOf ds with
      | none => rw [e] at hb; cases hb
      | some bs' =>
        rw [e] at hb
        cases hb
        rw [boolsOf_dr t e]
        rfl
    · cases hb
theorem cd_all : CallD K (rAll K) allG := by
  intro B F H σ env xs as c Q s hx hg q
  unfold allG at hg
  split at hg
  · rename_i ds
    cases e : boolsOf ds with
    | none => rw [e] at hg; cases hg
    | some bs =>
      rw [e] at hg
      cases hg
      obtain ⟨v, rfl, hv⟩ := hx.one
      obtain ⟨a, ys, rfl, h1, h2⟩ := hv.lst s.ex
      rw [boolsOf_dr h2 e] at h1
      exact ⟨a, bs, rfl, h1, q _ F H (Ex.refl F) (Ex.refl H) s (.bl _)⟩
  · cases hg
theorem cd_any : CallD K (rAny K) anyG := by
  intro B F H σ env xs as c Q s hx hg q
  unfold anyG at hg
  split at hg
  · rename_i ds
    cases e : boolsOf ds with
    | none => rw [e] at hg; cases hg
    | some bs =>
      rw [e] at hg
      cases hg
      obtain ⟨v, rfl, hv⟩ := hx.one
      obtain ⟨a, ys, rfl, h1, h2⟩ := hv.lst s.ex
      rw [boolsOf_dr h2 e] at h1
      exact ⟨a, bs, rfl, h1, q _ F H (Ex.refl F) (Ex.refl H) s (.bl _)⟩
  · cases hg
theorem cd_max2 : CallD K (fun xs H Q => ∃ i j, xs = [.int i, .int j] ∧ Q (.int (if j > i then j else i)) H) max2G := by
  intro B F H σ env xs as c Q s hx hg q
  unfold max2G at hg
  split at hg
  · cases hg
    obtain ⟨v, w, rfl, hv, hw⟩ := hx.two
    rw [hv.int, hw.int]
    exact ⟨_, _, rfl, q _ F H (Ex.refl F) (Ex.refl H) s (.int _)⟩
  · cases hg
theorem cd_min2 : CallD K (fun xs H Q => ∃ i j, xs = [.int i, .int j] ∧ Q (.int (if j < i then j else i)) H) min2G := by
  intro B F H σ env xs as c Q s hx hg q
  unfold min2G at hg
  split at hg
  · cases hg
    obtain ⟨v, w, rfl, hv, hw⟩ := hx.two
    rw [hv.int, hw.int]
    exact ⟨_, _, rfl, q _ F H (Ex.refl F) (Ex.refl H) s (.int _)⟩
  · cases hg
theorem cd_int : CallD K (fun xs H Q => (∃ i, xs = [.int i] ∧ Q (.int i) H) ∨ ∃ k, xs = [.bl k] ∧ Q (.int (if k then 1 else 0)) H) intG1 := by
  intro B F H σ env xs as c Q s hx hg q
  unfold intG1 at hg
  split at hg
  · cases hg
    obtain ⟨v, rfl, hv⟩ := hx.one
    rw [hv.int]
    exact Or.inl ⟨_, rfl, q _ F H (Ex.refl F) (Ex.refl H) s (.int _)⟩
  · cases hg
    obtain ⟨v, rfl, hv⟩ := hx.one
    rw [hv.bl]
    exact Or.inr ⟨_, rfl, q _ F H (Ex.refl F) (Ex.refl H) s (.int _)⟩
  · cases hg
end

def listG : List D → Option D
  | [.lst ds] => some (.lst ds)
  | [.tup ds] => some (.lst ds)
  | _ => none
def tupleG : List D → Option D
  | [.lst ds] => some (.tup ds)
  | [.tup ds] => some (.tup ds)
  | _ => none
section
variable {K : PySem.W.Frag} {F H : Hp}
theorem cn_list : CallN K (fun xs H Q => ∃ p ys, xs = [.ref p] ∧ (SqL K H p ys ∨ SqT K H p ys) ∧ ∀ l, H l = none → Q (.ref l) (upd H l (.lst ys))) listG := by
  intro B F H σ env xs as c Q s hx hg q
  unfold listG at hg
  split at hg
  · cases hg
    obtain ⟨v, rfl, hv⟩ := hx.one
    obtain ⟨a, ys, rfl, h1, h2⟩ := hv.lst s.ex
    exact ⟨a, ys, rfl, Or.inl h1, fun l hl => q _ F _ (Ex.refl F) (Ex.new hl) (s.newN hl (Do.lst h2)).1 (s.newN hl (Do.lst h2)).2⟩
  · cases hg
    obtain ⟨v, rfl, hv⟩ := hx.one
    obtain ⟨a, ys, rfl, h1, h2⟩ := hv.tup s.ex
    exact ⟨a, ys, rfl, Or.inr h1, fun l hl => q _ F _ (Ex.refl F) (Ex.new hl) (s.newN hl (Do.lst h2)).1 (s.newN hl (Do.lst h2)).2⟩
  · cases hg
theorem cd_tuple : CallD K (rTupZ K) tupleG := by
  intro B F H σ env xs as c Q s hx hg q
  unfold tupleG at hg
  split at hg
  · cases hg
    obtain ⟨v, rfl, hv⟩ := hx.one
    obtain ⟨a, ys, rfl, h1, h2⟩ := hv.lst s.ex
    refine ⟨a, ys, rfl, Or.inl ⟨h1, fun l o hl ho => ?_⟩⟩
    obtain ⟨e1, s1, d1⟩ := s.newT hl ho h2
    exact q _ _ _ e1 (Ex.new hl) s1 d1
  · cases hg
    obtain ⟨v, rfl, hv⟩ := hx.one
    rcases hv with hv | ⟨_, _, _, _, hv⟩
    · cases hv with
      | tup h1 h2 => exact ⟨_, _, rfl, Or.inr ⟨s.ex.st h1.sq, q _ F H (Ex.refl F) (Ex.refl H) s (.tup h1 h2)⟩⟩
    · cases hv
  · cases hg
end
def few (n : Nat) : Bool := decide (n ≤ sizeLine)
/-! ### subscripts, slices -/
def ixG : D → D → Option D := fun a b => match a, b with
  | .lst ds, .int i => atI ds i
  | .tup ds, .int i => atI ds i
  | .str z, .int i => if z.length ≤ sizeLine then (atI z.cps.toList i).map fun c => .str ⟨#[c]⟩ else none
  | _, _ => none
section
variable {K : PySem.W.Frag} {F H : Hp}
theorem DrA.at {xs : List V} {ds : List D} {i : Int} {d : D} (h : DrA K F xs ds) (e : atI ds i = some d) : ∃ v, atI xs i = some v ∧ Dr K F v d := by
  unfold atI at e ⊢
  rw [h.length]
  cases q : ixN ds.length i with
  | none => rw [q] at e; cases e
  | some j =>
    rw [q] at e
    exact h.get e
theorem od_ix : OpD K (rIx K) ixG := by
  intro B F H σ env x y a b c Q s hx hy hg q
  unfold ixG at hg
  split at hg
  · obtain ⟨p, xs, rfl, h1, h2⟩ := hx.lst s.ex
    obtain ⟨v, e, hv⟩ := h2.at hg
    exact Or.inl ⟨p, xs, _, v, rfl, hy.int, h1, e, q _ F H (Ex.refl F) (Ex.refl H) s hv⟩
  · obtain ⟨p, xs, rfl, h1, h2⟩ := hx.tup s.ex
    obtain ⟨v, e, hv⟩ := h2.at hg
    exact Or.inr (Or.inl ⟨p, xs, _, v, rfl, hy.int, h1, e, q _ F H (Ex.refl F) (Ex.refl H) s hv⟩)
  · rename_i z i
    split at hg
    · rename_i hz
      cases e : atI z.cps.toList i with
      | none => rw [e] at hg; cases hg
      | some k =>
        rw [e] at hg
        cases hg
        exact Or.inr (Or.inr ⟨z, i, k, hx.str, hy.int, hz, e, q _ F H (Ex.refl F) (Ex.refl H) s (.str _)⟩)
    · cases hg
  · cases hg
end
def cutD {α : Type} (xs : List α) (lo hi : Option Int) : List α := (xs.drop (HT.sIx xs.length 0 lo)).take (HT.sIx xs.length xs.length hi - HT.sIx xs.length 0 lo)
def slG (a : D) (lo hi : Option Int) : Option D := match a with
  | .lst ds => some (.lst (cutD ds lo hi))
  | .tup ds => some (.tup (cutD ds lo hi))
  | .str z => if z.length ≤ sizeLine then some (.str (Txt.slice z lo hi)) else none
  | _ => none
abbrev rSlAll (K : PySem.W.Frag) : V → Option Int → Option Int → Hp → VK → Prop := fun x lo hi H Q => (rSlL K x lo hi H Q ∨ rSlZ K x lo hi H Q) ∨ C8.rSlX x lo hi H Q
theorem DrA.cut {K : PySem.W.Frag} {F : Hp} {xs : List V} {ds : List D} (h : DrA K F xs ds) (lo hi : Option Int) : DrA K F (cutV xs lo hi) (cutD ds lo hi) := by
  unfold cutV cutD
  rw [h.length]
  exact (h.drop _).take _
theorem cutV_whole {xs : List V} {lo hi : Option Int} (h : HT.sIx xs.length 0 lo = 0 ∧ HT.sIx xs.length xs.length hi = xs.length) : cutV xs lo hi = xs := by
  unfold cutV
  rw [h.1, h.2, List.drop_zero, Nat.sub_zero, List.take_length]
/-! ### xs + ys, xs * k: lists -/
def rCatL : R2 := fun x y H Q => ∃ l b xs zs, x = .ref l ∧ y = .ref b ∧ Rd H l (.lst xs) ∧ Rd H b (.lst zs) ∧ xs.length + zs.length ≤ sizeLine ∧ ∀ p, H p = none → Q (.ref p) (upd H p (.lst (xs ++ zs)))
theorem rd_lst {X : Cx} {pins : List (Addr × Obj)} {σ : L2.St} {H : Hp} {s : Shared} {l : Addr} {xs : List V} (I : Inv X pins σ H s) (h : Rd H l (.lst xs)) :
    xs.length ≤ sizeLine ∧ ∃ (its : List Value) (n : Nat), Vals xs its ∧ xs.length = its.length ∧ s.heap.get? l = some { cls := .type "list", data := .seq its.toArray n } := by
  obtain ⟨z, its, n, r, e⟩ := h.ok I.hok
  exact ⟨z, its, n, r, r.length, e⟩
theorem op_catL {X : Cx} : OpR X (binaryOp .Add) rCatL := by
  intro pins s σ H x y v u Q I rx ry h
  obtain ⟨l, b, xs, zs, rfl, rfl, hH, hB, hz, q⟩ := h
  cases rx
  cases ry
  obtain ⟨z, its, n, r, hl, e⟩ := rd_lst I hH
  obtain ⟨z2, its2, n2, r2, hl2, e2⟩ := rd_lst I hB
  refine PySem.P.add_list e e2 ?_ (by rw [List.size_toArray, List.size_toArray]; omega)
  have ea : its.toArray ++ its2.toArray = (its ++ its2).toArray := by simp
  rw [ea]
  exact ⟨.ref _, _, I.lnew (t' := s.toks) (r.append r2) (by rw [List.length_append]; omega), rfl, q _ I.fresh⟩
def catLG : D → D → Option D := fun a b => match a, b with
  | .lst xs, .lst ys => if xs.length + ys.length ≤ sizeLine then some (.lst (xs ++ ys)) else none
  | _, _ => none
theorem on_catL {K : PySem.W.Frag} : OpN K rCatL catLG := by
  intro B F H σ env x y a b c Q s hx hy hg q
  unfold catLG at hg
  split at hg
  · split at hg
    · rename_i hz
      cases hg
      obtain ⟨l, xs, rfl, h1, h2⟩ := hx.lstR s.ex
      obtain ⟨m, ys, rfl, h3, h4⟩ := hy.lstR s.ex
      refine ⟨l, m, xs, ys, rfl, rfl, h1, h3, by rw [h2.length, h4.length]; exact hz, fun p hp => ?_⟩
      obtain ⟨s2, n2⟩ := s.newN hp (Do.lst (h2.append h4))
      exact q _ F _ (Ex.refl F) (Ex.new hp) s2 n2
    · cases hg
  · cases hg
theorem DrA.rep {K : PySem.W.Frag} {F : Hp} {xs : List V} {ds : List D} (h : DrA K F xs ds) : ∀ k : Nat, DrA K F (List.replicate k xs).flatten (List.replicate k ds).flatten
  | 0 => .nil
  | k + 1 => by
    rw [List.replicate_succ, List.replicate_succ, List.flatten_cons, List.flatten_cons]
    exact h.append (DrA.rep h k)
/-! ### sep.join(texts) -/
def strsOf : List D → Option (List Str)
  | [] => some []
  | .str x :: ds => (strsOf ds).map (x :: ·)
  | _ :: _ => none
theorem strsOf_dr {K : PySem.W.Frag} {F : Hp} : ∀ {xs : List V} {ds : List D} {bs : List Str}, DrA K F xs ds → strsOf ds = some bs → xs = bs.map V.str
  | _, _, bs, .nil, h => by cases h; rfl
  | _, _, bs, .cons (d := d) (ds := ds) h t, hb => by
    unfold strsOf at hb
    split at hb
    · rename_i he; cases he
    · rename_i b ds' he
      cases he
      cases h
      cases e : strsOf ds with
      | none => rw [e] at hb; cases hb
      | some bs' =>
        rw [e] at hb
        cases hb
        rw [strsOf_dr t e]
        rfl
    · cases hb
def joinG : D → D → Option D := fun a b => match a, b with
  | .str a, .lst ds => (strsOf ds).bind fun ys => if (ys.map (·.length)).sum + ys.length * a.length ≤ 16777216 then some (.str (Txt.join a ys)) else none
  | .str a, .tup ds => (strsOf ds).bind fun ys => if (ys.map (·.length)).sum + ys.length * a.length ≤ 16777216 then some (.str (Txt.join a ys)) else none
  | _, _ => none
theorem u65 {k : Nat} {A : Around} (r : Room k A) : A.units + 65 < cLine := by have := r.un; omega
/-! ### a + b -/
def catTG : D → D → Option D := fun a b => match a, b with
  | .tup xs, .tup ys => if xs.length + ys.length ≤ sizeLine then some (.tup (xs ++ ys)) else none
  | _, _ => none
theorem od_catT {K : PySem.W.Frag} : OpD K (rCatZ K) catTG := by
  intro B F H σ env x y a b c Q s hx hy hg q
  unfold catTG at hg
  split at hg
  · split at hg
    · rename_i hz
      cases hg
      rcases hx with hx | ⟨_, _, _, _, hx⟩
      · cases hx with
        | tup h1 h2 =>
          rcases hy with hy | ⟨_, _, _, _, hy⟩
          · cases hy with
            | tup h3 h4 =>
              refine ⟨_, _, _, _, rfl, rfl, s.ex.st h1.sq, s.ex.st h3.sq, by rw [h2.length, h4.length]; exact hz, fun e => ?_, fun _ e => ?_, fun _ _ p o hp ho => ?_⟩
              · subst e
                cases h2
                exact q _ F H (Ex.refl F) (Ex.refl H) s (.tup h3 h4)
              · subst e
                cases h4
                exact q _ F H (Ex.refl F) (Ex.refl H) s (.tup h1 (by rw [List.append_nil]; exact h2))
              · obtain ⟨e1, s1, d1⟩ := s.newT hp ho (h2.append h4)
                exact q _ _ _ e1 (Ex.new hp) s1 d1
          · cases hy
      · cases hx
    · cases hg
  · cases hg
def addA : D → D → Option D := orG addG (orG catSG (orG catTG catLG))
abbrev rAddA (K : PySem.W.Frag) : R2 := fun x y H Q => (rI0 fun i j => .int (i + j)) x y H Q ∨ ((∃ i j, x = .str i ∧ y = .str j ∧ i.length + j.length ≤ sizeLine ∧ Q (.str (i ++ j)) H) ∨ (rCatZ K x y H Q ∨ rCatL x y H Q))
theorem op_addA {X : Cx} {K : PySem.W.Frag} (hK : X.K = K := by rfl) : OpR X (binaryOp .Add) (rAddA K) := by
  subst hK
  exact op_add.or (op_add_str.or (op_catZ.or op_catL))
theorem od_addA {K : PySem.W.Frag} : OpD K (rAddA K) addA := OpD.or od_add (OpD.or od_catS (OpD.or od_catT on_catL.d))

/-! ### x in y -/
def flat : D → Bool
  | .non => true
  | .bl _ => true
  | .int _ => true
  | .str _ => true
  | _ => false
def eqF : D → D → Bool
  | .non, .non => true
  | .bl a, .bl b => a == b
  | .bl a, .int b => (if a then 1 else 0) == b
  | .int a, .bl b => a == (if b then 1 else 0)
  | .int a, .int b => a == b
  | .str a, .str b => a == b
  | _, _ => false
def inF (d : D) (ds : List D) : Option Bool := if flat d && ds.all flat then some (ds.any fun y => eqF y d) else none
def inP (d : D) (ds : List D) : Option Bool := if shp d && shp (.lst ds) then some ((pds ds).any fun z => PyData.eqv z (pd d)) else none
def inL (d : D) (ds : List D) : Option Bool := match inF d ds with
  | some b => some b
  | none => inP d ds
def inSeqG : D → D → Option D := fun a b => match b with
  | .lst ds => (inL a ds).map .bl
  | .tup ds => (inL a ds).map .bl
  | _ => none
def notInSeqG : D → D → Option D := fun a b => match b with
  | .lst ds => (inL a ds).map fun k => .bl (!k)
  | .tup ds => (inL a ds).map fun k => .bl (!k)
  | _ => none
section
variable {K : PySem.W.Frag} {F H : Hp}
theorem Dr.flat {v : V} {d : D} (h : Dr K F v d) (hf : DM.flat d = true) : flatV v = true ∧ ∀ {w : V} {e : D}, Dr K F w e → DM.flat e = true → eqV w v = eqF e d := by
  cases h with
  | non => exact ⟨rfl, fun {w e} h2 f2 => by cases h2 <;> first | rfl | cases f2⟩
  | bl b => exact ⟨rfl, fun {w e} h2 f2 => by cases h2 <;> first | rfl | cases f2⟩
  | int b => exact ⟨rfl, fun {w e} h2 f2 => by cases h2 <;> first | rfl | cases f2⟩
  | str b => exact ⟨rfl, fun {w e} h2 f2 => by cases h2 <;> first | rfl | cases f2⟩
  | lst _ _ => cases hf
  | tup _ _ => cases hf
  | dct _ _ _ => cases hf
  | obj _ _ _ _ => cases hf
  | ty _ => cases hf
  | exc _ _ _ _ _ => cases hf
theorem DrA.flat : ∀ {vs : List V} {ds : List D}, DrA K F vs ds → ds.all DM.flat = true → vs.all flatV = true ∧ ∀ {v : V} {d : D}, Dr K F v d → DM.flat d = true → inV v vs = ds.any fun y => eqF y d
  | _, _, .nil, _ => ⟨rfl, fun _ _ => rfl⟩
  | _, _, .cons h t, ha => by
    rw [List.all_cons, Bool.and_eq_true] at ha
    obtain ⟨h1, h2⟩ := DrA.flat t ha.2
    refine ⟨by rw [List.all_cons, (h.flat ha.1).1, h1]; rfl, fun {v d} hv hf => ?_⟩
    unfold inV
    rw [List.any_cons, List.any_cons, (hv.flat hf).2 h ha.1]
    have := h2 hv hf
    unfold inV at this
    rw [this]
theorem Dh.dr_flat {v : V} {d : D} (h : Dh K F H v d) (hf : DM.flat d = true) : Dr K F v d := by
  rcases h with h | ⟨p, o, _, _, h⟩
  · exact h
  · cases h <;> cases hf
end
def rInAll (K : PySem.W.Frag) : R2 := fun x y H Q => ∃ (p : Addr) (d : PyData) (ds : List PyData), y = .ref p ∧ Dp K H x d ∧ (Dp K H y (.list ds) ∨ Dp K H y (.tuple ds)) ∧ SeqAt.shaped d = true ∧ PyData.canLayAll0 ds = true ∧ Q (.bl (ds.any fun z => PyData.eqv z d)) H
def rNotInAll (K : PySem.W.Frag) : R2 := fun x y H Q => ∃ (p : Addr) (d : PyData) (ds : List PyData), y = .ref p ∧ Dp K H x d ∧ (Dp K H y (.list ds) ∨ Dp K H y (.tuple ds)) ∧ SeqAt.shaped d = true ∧ PyData.canLayAll0 ds = true ∧ Q (.bl (!ds.any fun z => PyData.eqv z d)) H
theorem op_inAll {X : Cx} (hu : X.A.units + 65 < cLine) : OpR X (compareOp .In) (rInAll X.K) := by
  intro pins s σ H x y v u Q I rx ry h
  obtain ⟨p, d, ds, rfl, hd, he, sd, se, q⟩ := h
  obtain ⟨as, r1⟩ := Dp.reads I d x v hd rx
  rcases he with he | he
  · obtain ⟨bs, r2⟩ := Dp.reads I (.list ds) _ u he ry
    exact SeqAt.in_list_reads r2 r1 se (SeqAt.canLay_of_shaped sd) (room_in_shaped sd hu) ⟨.bl _, H, I, rfl, q⟩
  · obtain ⟨bs, r2⟩ := Dp.reads I (.tuple ds) _ u he ry
    exact SeqAt.in_tuple_reads r2 r1 se (SeqAt.canLay_of_shaped sd) (room_in_shaped sd hu) ⟨.bl _, H, I, rfl, q⟩
theorem op_notInAll {X : Cx} (hu : X.A.units + 65 < cLine) : OpR X (compareOp .NotIn) (rNotInAll X.K) := by
  intro pins s σ H x y v u Q I rx ry h
  obtain ⟨p, d, ds, rfl, hd, he, sd, se, q⟩ := h
  obtain ⟨as, r1⟩ := Dp.reads I d x v hd rx
  rcases he with he | he
  · obtain ⟨bs, r2⟩ := Dp.reads I (.list ds) _ u he ry
    exact SeqAt.notIn_list_reads r2 r1 se (SeqAt.canLay_of_shaped sd) (room_in_shaped sd hu) ⟨.bl _, H, I, rfl, q⟩
  · obtain ⟨bs, r2⟩ := Dp.reads I (.tuple ds) _ u he ry
    exact SeqAt.notIn_tuple_reads r2 r1 se (SeqAt.canLay_of_shaped sd) (room_in_shaped sd hu) ⟨.bl _, H, I, rfl, q⟩
section
variable {K : PySem.W.Frag}
theorem in_core {B : Bs} {F H : Hp} {σ : L2.St} {env : Fm} {x : V} {a : D} {ds : List D} {p : Addr} {ys : List V} {k : Bool} {Q : Bool → Prop} (s : SR K B F H σ env) (hx : Dh K F H x a) (hs : SqL K H p ys ∨ SqT K H p ys) (hA : DrA K F ys ds) (hk : inL a ds = some k) :
    (flatV x = true ∧ ys.all flatV = true ∧ inV x ys = k) ∨ (∃ (d : PyData) (es : List PyData), Dp K H x d ∧ (Dp K H (.ref p) (.list es) ∨ Dp K H (.ref p) (.tuple es)) ∧ SeqAt.shaped d = true ∧ PyData.canLayAll0 es = true ∧ (es.any fun z => PyData.eqv z d) = k) := by
  unfold inL at hk
  split at hk
  · rename_i b hb
    cases hk
    unfold inF at hb
    split at hb
    · rename_i hf
      cases hb
      rw [Bool.and_eq_true] at hf
      have hd := hx.dr_flat hf.1
      obtain ⟨h1, h2⟩ := hA.flat hf.2
      exact Or.inl ⟨(hd.flat hf.1).1, h1, h2 hd hf.1⟩
    · cases hb
  · unfold inP at hk
    split at hk
    · rename_i hf
      cases hk
      rw [Bool.and_eq_true] at hf
      have hl : PyData.canLayAll0 (pds ds) = true := by
        have := SeqAt.canLay_of_shaped hf.2
        rw [pd] at this
        simpa only [PyData.canLay0] using this
      have hB : Dp K H (.ref p) (.list (pds ds)) ∨ Dp K H (.ref p) (.tuple (pds ds)) := by
        have hA2 : DpAll K H ys (pds ds) := by
          have hr : Rd (upd H p (.lst ys)) p (.lst ys) := Or.inl upd_same
          clear hf hx hs
          have go : ∀ {ys : List V} {ds : List D}, DrA K F ys ds → PyData.canLayAll0 (pds ds) = true → DpAll K H ys (pds ds) := by
            intro ys ds h
            induction h using DrA.rec (motive_1 := fun _ _ _ => True) with
            | nil => intro _; rw [pds]; exact .nil
            | cons h1 h2 _ ih =>
              intro hc
              rw [pds] at hc ⊢
              rw [PyData.canLayAll0, Bool.and_eq_true] at hc
              exact .cons ((h1.mono s.ex).pd hc.1) (ih hc.2)
            | _ => trivial
          exact go hA hl
        rcases hs with hs | hs
        · exact Or.inl (.lst hs hA2)
        · exact Or.inr (.tup hs hA2)
      exact Or.inr ⟨pd a, pds ds, (hx.all s.ex).pd (SeqAt.canLay_of_shaped hf.1), hB, hf.1, hl, rfl⟩
    · cases hk
abbrev rInA (K : PySem.W.Frag) : R2 := fun x y H Q => (∃ (c : Nat) (z : Str), x = .str ⟨#[c]⟩ ∧ y = .str z ∧ Q (.bl (decide (c ∈ z.cps.toList))) H) ∨ (rIn K false x y H Q ∨ rInAll K x y H Q)
abbrev rNotInA (K : PySem.W.Frag) : R2 := fun x y H Q => (∃ (c : Nat) (z : Str), x = .str ⟨#[c]⟩ ∧ y = .str z ∧ Q (.bl (!decide (c ∈ z.cps.toList))) H) ∨ (rIn K true x y H Q ∨ rNotInAll K x y H Q)
theorem op_inA {X : Cx} (hu : X.A.units + 65 < cLine) (hK : X.K = K := by rfl) : OpR X (compareOp .In) (rInA K) := by
  subst hK
  exact op_in_sign.or (op_in_seq.or (op_inAll hu))
theorem op_notInA {X : Cx} (hu : X.A.units + 65 < cLine) (hK : X.K = K := by rfl) : OpR X (compareOp .NotIn) (rNotInA K) := by
  subst hK
  exact op_notIn_sign.or (op_notIn_seq.or (op_notInAll hu))
theorem od_inSeq : OpD K (fun x y H Q => rIn K false x y H Q ∨ rInAll K x y H Q) inSeqG := by
  intro B F H σ env x y a b c Q s hx hy hg q
  have key : ∀ (ds : List D) (p : Addr) (ys : List V), y = .ref p → (SqL K H p ys ∨ SqT K H p ys) → DrA K F ys ds → (inL a ds).map D.bl = some c → rIn K false x y H Q ∨ rInAll K x y H Q := by
    intro ds p ys hy0 hs hA hc
    cases hk : inL a ds with
    | none => rw [hk] at hc; cases hc
    | some k =>
      rw [hk] at hc
      cases hc
      have qk := q _ F H (Ex.refl F) (Ex.refl H) s (.bl k)
      rcases in_core (Q := fun _ => True) s hx hs hA hk with ⟨h1, h2, h3⟩ | ⟨d, es, h1, h2, h3, h4, h5⟩
      · exact Or.inl ⟨p, ys, hy0, hs, h1, h2, by rw [h3]; exact qk⟩
      · exact Or.inr ⟨p, d, es, hy0, h1, by rw [hy0]; exact h2, h3, h4, by rw [h5]; exact qk⟩
  unfold inSeqG at hg
  split at hg
  · obtain ⟨p, ys, hy0, h1, h2⟩ := hy.lst s.ex
    exact key _ p ys hy0 (Or.inl h1) h2 hg
  · obtain ⟨p, ys, hy0, h1, h2⟩ := hy.tup s.ex
    exact key _ p ys hy0 (Or.inr h1) h2 hg
  · cases hg
theorem od_notInSeq : OpD K (fun x y H Q => rIn K true x y H Q ∨ rNotInAll K x y H Q) notInSeqG := by
  intro B F H σ env x y a b c Q s hx hy hg q
  have key : ∀ (ds : List D) (p : Addr) (ys : List V), y = .ref p → (SqL K H p ys ∨ SqT K H p ys) → DrA K F ys ds → (inL a ds).map (fun k => D.bl (!k)) = some c → rIn K true x y H Q ∨ rNotInAll K x y H Q := by
    intro ds p ys hy0 hs hA hc
    cases hk : inL a ds with
    | none => rw [hk] at hc; cases hc
    | some k =>
      rw [hk] at hc
      cases hc
      have qk := q _ F H (Ex.refl F) (Ex.refl H) s (.bl (!k))
      rcases in_core (Q := fun _ => True) s hx hs hA hk with ⟨h1, h2, h3⟩ | ⟨d, es, h1, h2, h3, h4, h5⟩
      · exact Or.inl ⟨p, ys, hy0, hs, h1, h2, by rw [h3]; exact qk⟩
      · exact Or.inr ⟨p, d, es, hy0, h1, by rw [hy0]; exact h2, h3, h4, by rw [h5]; exact qk⟩
  unfold notInSeqG at hg
  split at hg
  · obtain ⟨p, ys, hy0, h1, h2⟩ := hy.lst s.ex
    exact key _ p ys hy0 (Or.inl h1) h2 hg
  · obtain ⟨p, ys, hy0, h1, h2⟩ := hy.tup s.ex
    exact key _ p ys hy0 (Or.inr h1) h2 hg
  · cases hg
def inA : D → D → Option D := orG inSG inSeqG
def notInA : D → D → Option D := orG notInSG notInSeqG
theorem od_inA : OpD K (rInA K) inA := OpD.or od_inS od_inSeq
theorem od_notInA : OpD K (rNotInA K) notInA := OpD.or od_notInS od_notInSeq
end

/-- what may be shown: its text is short, it is not deep -/
def shwB (d : PyData) : Bool := d.showable && (!d.hasDict && (decide (d.depth ≤ 60) && decide (d.shown.length ≤ sizeLine)))
def rRepr (K : PySem.W.Frag) : List V → Hp → VK → Prop := fun xs H Q => ∃ v d, xs = [v] ∧ Dp K H v d ∧ shwB d = true ∧ Q (.str d.shown) H
theorem cr_repr {X : Cx} {K : PySem.W.Frag} (hG : Quiet X.A) (hu : X.A.units + 64 < cLine) (hK : X.K = K := by rfl) : CallR X (.builtin "repr") (rRepr K) := by
  subst hK
  intro pins s σ H xs us Q I r h
  obtain ⟨v, d, rfl, hd, hs, q⟩ := h
  unfold shwB at hs
  rw [Bool.and_eq_true, Bool.and_eq_true, Bool.and_eq_true] at hs
  obtain ⟨s1, s2, s3, s4⟩ := hs
  have s2 : d.hasDict = false := by simpa using s2
  have s3 := of_decide_eq_true s3
  have s4 := of_decide_eq_true s4
  obtain ⟨u, rfl, ru⟩ := vals1 r
  obtain ⟨as, rd⟩ := Dp.reads I d v u hd ru
  cases hdis : isDisplay d with
  | true =>
    obtain ⟨a, rfl⟩ := isRef_of_reads rd hdis
    exact repr_of_reads' rd s1 (PyData.noDict_hsm s2) hG (by omega) (fun _ _ e => e) (fun h' u tk hk => ⟨.str _, H, I.kept (t' := tk) hk, ⟨_, rfl⟩, q⟩) s4
  | false =>
    cases rd with
    | none => exact PySem.P.repr_of_none ⟨.str _, H, I.tok _, ⟨_, rfl⟩, q⟩
    | bool b => exact PySem.P.repr_of_bool ⟨.str _, H, I.tok _, ⟨_, rfl⟩, q⟩
    | int i t => exact PySem.P.repr_of_int (by simpa [PyData.showable] using s1) ⟨.str _, H, I.tok _, ⟨_, rfl⟩, q⟩
    | str x t => exact PySem.P.repr_of_str ⟨.str _, H, I.tok _, ⟨_, rfl⟩, q⟩ s4
    | list _ _ _ _ => cases hdis
    | tuple _ _ _ _ => cases hdis
    | dict _ _ _ _ _ => simp [PyData.hasDict] at s2
def reprG : List D → Option D
  | [d] => if (pd d).canLay0 && shwB (pd d) then some (.str (pd d).shown) else none
  | _ => none
theorem cd_repr {K : PySem.W.Frag} : CallD K (rRepr K) reprG := by
  intro B F H σ env xs as c Q s hx hg q
  unfold reprG at hg
  split at hg
  · rename_i d
    split at hg
    · rename_i hc
      cases hg
      rw [Bool.and_eq_true] at hc
      obtain ⟨v, rfl, hv⟩ := hx.one
      exact ⟨v, pd d, rfl, (hv.all s.ex).pd hc.1, hc.2, q _ F H (Ex.refl F) (Ex.refl H) s (.str _)⟩
    · cases hg
  · cases hg

end DM

/-! What code does, told by plain functions: expressions. -/
namespace DM
open PySem PySem.Spec PyProof.Rows L2 DL

structure Exn where
  C : Str
  fs : List (Str × D)
/-- what comes of a piece of code: a value; an exception (b: what stands then); nothing is told -/
inductive R (β α : Type) where
  | ok (a : α) | ex (x : Exn) (b : β) | no
namespace R
variable {β α γ : Type}
def bind (m : R β α) (k : α → R β γ) : R β γ := match m with
  | .ok a => k a
  | .ex x b => .ex x b
  | .no => .no
/-- an own def's call -/
def call (m : R Unit α) (xb : β) (k : α → R β γ) : R β γ := match m with
  | .ok a => k a
  | .ex x _ => .ex x xb
  | .no => .no
/-- .. that hands on what it changed -/
def call1 (m : R D (D × D)) (xf : D → β) (k : D → D → R β γ) : R β γ := match m with
  | .ok (a, w) => k a w
  | .ex x w => .ex x (xf w)
  | .no => .no
/-- .. where nothing is known of it behind an error -/
def call1e (m : R Unit (D × D)) (xb : β) (k : D → D → R β γ) : R β γ := match m with
  | .ok (a, w) => k a w
  | .ex x _ => .ex x xb
  | .no => .no
/-- an object made: what __init__ leaves -/
def make (m : R Unit (D × D)) (xb : β) (k : D → R β γ) : R β γ := match m with
  | .ok (.non, o) => k o
  | .ok _ => .no
  | .ex x _ => .ex x xb
  | .no => .no
def lft (o : Option α) (k : α → R β γ) : R β γ := match o with
  | some a => k a
  | none => .no
def asB (d : D) (k : Bool → R β γ) : R β γ := match d with
  | .bl b => k b
  | _ => .no
def asI (d : D) (k : Int → R β γ) : R β γ := match d with
  | .int i => k i
  | _ => .no
def asL (d : D) (k : List D → R β γ) : R β γ := match d with
  | .lst ds => k ds
  | _ => .no
def asT (d : D) (k : List D → R β γ) : R β γ := match d with
  | .tup ds => k ds
  | _ => .no
/-- a list or a tuple -/
def asQ (d : D) (k : List D → R β γ) : R β γ := match d with
  | .tup ds => k ds
  | .lst ds => k ds
  | _ => .no
def few (ds : List D) (k : List D → R β γ) : R β γ := if DM.few ds.length then k ds else .no
end R
def XR (K : PySem.W.Frag) (F : Hp) (x : Exn) (c : Value) (dd : Option Addr) : Prop :=
  ∃ c' d fs, c = .ref c' ∧ Cl K x.C c' ∧ dd = some d ∧ F d = some (.xd fs) ∧ fs.map (·.1) = x.fs.map (·.1) ∧ DrA K F (fs.map (·.2)) (x.fs.map (·.2))
abbrev XE := L2.St → XK
abbrev TB (b : Type) := L2.St → Hp → (b → Hp → Prop) → Prop

/-! ### readings at large -/
def teC (X : Cx) (e : Expr) : TE := fun σ H Q => ∃ t, PE X e t ∧ t σ H Q
theorem pe_C {X : Cx} {e : Expr} : PE X e (teC X e) := ⟨fun pins s σ H Q I ⟨_, h, ht⟩ => h.run pins s σ H Q I ht⟩
def ttC (X : Cx) (e : Expr) : TT := fun σ H Q => ∃ t, PT X e t ∧ t σ H Q
theorem pt_C {X : Cx} {e : Expr} : PT X e (ttC X e) := ⟨fun pins s σ H Q I ⟨_, h, ht⟩ => h.run pins s σ H Q I ht⟩
def twC (X : Cx) (e : Expr) : TT := fun σ H Q => ∃ t, PW X e t ∧ t σ H Q
theorem pw_C {X : Cx} {e : Expr} : PW X e (twC X e) := ⟨fun whole pins s σ H Q I ⟨_, h, ht⟩ => h.run whole pins s σ H Q I ht⟩
def taC (X : Cx) (es : List Expr) : TA := fun σ H Q => ∃ t, PA X es t ∧ t σ H Q
theorem pa_C {X : Cx} {es : List Expr} : PA X es (taC X es) := ⟨fun pos pins s σ H Q I ⟨_, h, ht⟩ => h.run pos pins s σ H Q I ht⟩
def toC (X : Cx) (e : Option Expr) : TO := fun σ H Q => ∃ t, PO X e t ∧ t σ H Q
theorem po_C {X : Cx} {e : Option Expr} : PO X e (toC X e) := ⟨fun pins s σ H Q I ⟨_, h, ht⟩ => h.run pins s σ H Q I ht⟩

/-- what is wished of a mirror's outcome, as far as errors go -/
structure Gx (K : PySem.W.Frag) (B : Bs) (E : XE) {β γ : Type} (F : Hp) (σ : L2.St) (xF : Fm) (xb : β) (G : R β γ → Prop) : Prop where
  no : ¬ G .no
  ex : ∀ x, G (.ex x xb) → ∀ c dd F' H', Ex F F' → SR K B F' H' σ xF → XR K F' x c dd → E σ c dd H'
theorem Gx.mono {K : PySem.W.Frag} {B : Bs} {E : XE} {β γ : Type} {F F1 : Hp} {σ : L2.St} {xF : Fm} {xb : β} {G : R β γ → Prop} (e : Ex F F1) (h : Gx K B E F σ xF xb G) : Gx K B E F1 σ xF xb G :=
  ⟨h.no, fun x hx c dd F' H' e1 => h.ex x hx c dd F' H' (e.trans e1)⟩
section
variable (K : PySem.W.Frag) (E : XE) {β γ b a : Type} (xF : Fm) (xb : β) (env : Fm)
/-- a piece of code with the reading t is told by c (rel: how what it gives is read); the frame stays -/
def AJ (t : TB b) (rel : Bs → Hp → Hp → L2.St → b → a → Prop) (c : (a → R β γ) → R β γ) : Prop :=
  ∀ B F H σ Q k (G : R β γ → Prop), SR K B F H σ env → Wk env xF → Gx K B E F σ xF xb G →
    (∀ d v F' H', G (k d) → Ex F F' → Ex H H' → SR K B F' H' σ env → rel B F' H' σ v d → Q v H') → G (c k) → t σ H Q
end
section
variable (X : Cx) (K : PySem.W.Frag) (E : XE) {β γ : Type} (xF : Fm) (xb : β) (env : Fm)
/-- data that stand still -/
def AE (e : Expr) (c : (D → R β γ) → R β γ) : Prop := X.K = K ∧ AJ K E xF xb env (teC X e) (fun _ F _ _ v d => Dr K F v d) c
/-- data that are read now -/
def AL (e : Expr) (c : (D → R β γ) → R β γ) : Prop := X.K = K ∧ AJ K E xF xb env (teC X e) (fun _ F H _ v d => Dh K F H v d) c
/-- a new thing -/
def AN (fs : List Str) (e : Expr) (c : (D → R β γ) → R β γ) : Prop := X.K = K ∧ AJ K E xF xb env (teC X e) (fun B F H σ v d => rN K B F H σ env v d fs) c
def AT (e : Expr) (c : (Bool → R β γ) → R β γ) : Prop := X.K = K ∧ AJ K E xF xb env (ttC X e) (fun _ _ _ _ v d => v = d) c
def AW (e : Expr) (c : (Bool → R β γ) → R β γ) : Prop := X.K = K ∧ AJ K E xF xb env (twC X e) (fun _ _ _ _ v d => v = d) c
def AA (es : List Expr) (c : (List D → R β γ) → R β γ) : Prop := X.K = K ∧ AJ K E xF xb env (taC X es) (fun _ F _ _ vs ds => DrA K F vs ds) c
def AAL (es : List Expr) (c : (List D → R β γ) → R β γ) : Prop := X.K = K ∧ AJ K E xF xb env (taC X es) (fun _ F H _ vs ds => DhA K F H vs ds) c
def AO (e : Option Expr) (c : (Option Int → R β γ) → R β γ) : Prop := X.K = K ∧ AJ K E xF xb env (toC X e) (fun _ _ _ _ v d => v = d) c
end
section
variable {X : Cx} {K : PySem.W.Frag} {E : XE} {β γ : Type} {xF : Fm} {xb : β} {env : Fm} {e a b c : Expr} {es : List Expr} {pos : Pos} {c1 c2 c3 : (D → R β γ) → R β γ}
theorem DhA.mono {F H F' H' : Hp} (e : Ex F F') (e2 : Ex H H') : ∀ {vs : List V} {ds : List D}, DhA K F H vs ds → DhA K F' H' vs ds
  | [], [], _ => trivial
  | _ :: _, _ :: _, h => ⟨h.1.mono e e2, DhA.mono e e2 h.2⟩
  | [], _ :: _, h => h.elim
  | _ :: _, [], h => h.elim
theorem AE.al (h : AE X K E xF xb env e c1) : AL X K E xF xb env e c1 :=
  ⟨h.1, fun B F H σ Q k G s w g hk hG => h.2 B F H σ Q k G s w g (fun d v F' H' h1 e1 e2 s1 d1 => hk d v F' H' h1 e1 e2 s1 (.inl d1)) hG⟩
theorem AN.ae {fs : List Str} (h : AN X K E xF xb env fs e c1) : AE X K E xF xb env e c1 :=
  ⟨h.1, fun B F H σ Q k G s w g hk hG => h.2 B F H σ Q k G s w g (fun d v F' H' h1 e1 e2 s1 d1 => by
    obtain ⟨F2, e3, d2, s2⟩ := s1.frzN d1
    exact hk d v F2 H' h1 (e1.trans e3) e2 s2 d2) hG⟩

/-! ### names, constants -/
/-- a name whose slot's data stand still -/
theorem av (i : Nat) {x : Str} {d : D} (hi : fget env i = .fz d := by rfl) (hK : X.K = K := by rfl) (hN : X.N[i]? = some x := by rfl) (hv : Vis X.env.scope x := by first | exact Or.inl rfl | exact Or.inr (Or.inl rfl) | exact Or.inr (Or.inr rfl)) (hd : (x == ("__debug__" : Str)) = false := by decide)
    (hcd : (x == ("__classdict__" : Str)) = false := by decide) : AE X K E xF xb env (.Name x pos) (fun (k : D → R β γ) => k d) :=
  ⟨hK, fun B F H σ Q k G s w g hk hG => by
    obtain ⟨v, h1, h2⟩ := s.fz i d hi
    exact ⟨_, pe_var hN hv hd hcd, v, h1, hk d v F H hG (Ex.refl F) (Ex.refl H) s h2⟩⟩
/-- a name that is read: its slot's own list or dict -/
theorem al (i : Nat) {x : Str} {d : D} {t : Option Nat} (hi : fget env i = .ow t d [] := by rfl) (hK : X.K = K := by rfl) (hN : X.N[i]? = some x := by rfl) (hv : Vis X.env.scope x := by first | exact Or.inl rfl | exact Or.inr (Or.inl rfl) | exact Or.inr (Or.inr rfl)) (hd : (x == ("__debug__" : Str)) = false := by decide)
    (hcd : (x == ("__classdict__" : Str)) = false := by decide) : AL X K E xF xb env (.Name x pos) (fun (k : D → R β γ) => k d) :=
  ⟨hK, fun B F H σ Q k G s w g hk hG => by
    obtain ⟨ft, hf⟩ := s.own
    obtain ⟨p, h1, h2, _⟩ := hf.ow i t d [] hi
    obtain ⟨_, o, h3, h4⟩ := h2.plain
    exact ⟨_, pe_var hN hv hd hcd, _, h1, hk d _ F H hG (Ex.refl F) (Ex.refl H) s (.inr ⟨p, _, rfl, h3, h4⟩)⟩⟩
theorem a_cst {v : V} {d : D} (hp : PE X e (tC v)) (h : ∀ F, Dr K F v d) (hK : X.K = K) : AE X K E xF xb env e (fun (k : D → R β γ) => k d) :=
  ⟨hK, fun B F H σ Q k G s w g hk hG => ⟨_, hp, hk d v F H hG (Ex.refl F) (Ex.refl H) s (h F)⟩⟩
theorem a_int {i j} (hK : X.K = K := by rfl) : AE X K E xF xb env (.Constant (.int i) j pos) (fun (k : D → R β γ) => k (.int i)) := a_cst pe_int (fun _ => .int i) hK
theorem a_bl {b j} (hK : X.K = K := by rfl) : AE X K E xF xb env (.Constant (.bool b) j pos) (fun (k : D → R β γ) => k (.bl b)) := a_cst pe_bl (fun _ => .bl b) hK
theorem a_non {j} (hK : X.K = K := by rfl) : AE X K E xF xb env (.Constant .none j pos) (fun (k : D → R β γ) => k .non) := a_cst pe_non (fun _ => .non) hK
theorem a_str {x j} (hK : X.K = K := by rfl) : AE X K E xF xb env (.Constant (.str x) j pos) (fun (k : D → R β γ) => k (.str x)) := a_cst pe_str (fun _ => .str x) hK
/-- a constant of the module: how it lies -/
structure GlobD (K : PySem.W.Frag) (mg : Str → Option Value) (x : Str) (d : D) : Prop where
  ex : ∃ v u, mg x = some u ∧ RelV v u ∧ ∀ F, Dr K F v d
theorem a_glob {x : Str} {d : D} (g : GlobD K X.mg x d) (hg : Gl X x) (hK : X.K = K := by rfl) (hd : (x == ("__debug__" : Str)) = false := by decide) : AE X K E xF xb env (.Name x pos) (fun (k : D → R β γ) => k d) := by
  obtain ⟨v, u, hm, r, hdr⟩ := g.ex
  exact a_cst (pe_glob hg hm r hd) hdr hK
theorem a_bty {x : Str} {T : String} (hv : bootBuiltins x = some (.type T)) (hm : X.mg x = none) (hg : Gl X x) (hK : X.K = K := by rfl) (hn : x ≠ "__name__" := by decide) (hd : (x == ("__debug__" : Str)) = false := by decide) : AE X K E xF xb env (.Name x pos) (fun (k : D → R β γ) => k (.ty T)) :=
  a_cst (v := .ty T) (pe_bltn hg hm hv rfl hn hd) (fun _ => .ty T) hK

/-! ### operators -/
theorem aj_op {r : R2} {g : D → D → Option D} (hg : OpD K r g) (ha : AL X K E xF xb env a c1) (hb : AL X K E xF xb env b c2) :
    AJ K E xF xb env (tOp r (teC X a) (teC X b)) (fun _ F _ _ v d => Dr K F v d) (fun (k : D → R β γ) => c1 fun x => c2 fun y => R.lft (g x y) k) := fun B F H σ Q k G s w gx hk hG =>
  ha.2 B F H σ _ _ G s w gx (fun x v F1 H1 h1 e1 eh1 s1 d1 => hb.2 B F1 H1 σ _ _ G s1 w (gx.mono e1) (fun y u F2 H2 h2 e2 eh2 s2 d2 => by
    cases hc : g x y with
    | none => rw [hc] at h2; exact (gx.no h2).elim
    | some z =>
      rw [hc] at h2
      exact hg B F2 H2 σ env v u x y z Q s2 (d1.mono e2 eh2) d2 hc fun v' F' H' e' eh' s' d' => hk z v' F' H' h2 (e1.trans (e2.trans e')) (eh1.trans (eh2.trans eh')) s' d') h1) hG
theorem aj_opN {r : R2} {g : D → D → Option D} (hg : OpN K r g) (ha : AL X K E xF xb env a c1) (hb : AL X K E xF xb env b c2) :
    AJ K E xF xb env (tOp r (teC X a) (teC X b)) (fun B F H σ v d => rN K B F H σ env v d []) (fun (k : D → R β γ) => c1 fun x => c2 fun y => R.lft (g x y) k) := fun B F H σ Q k G s w gx hk hG =>
  ha.2 B F H σ _ _ G s w gx (fun x v F1 H1 h1 e1 eh1 s1 d1 => hb.2 B F1 H1 σ _ _ G s1 w (gx.mono e1) (fun y u F2 H2 h2 e2 eh2 s2 d2 => by
    cases hc : g x y with
    | none => rw [hc] at h2; exact (gx.no h2).elim
    | some z =>
      rw [hc] at h2
      exact hg B F2 H2 σ env v u x y z Q s2 (d1.mono e2 eh2) d2 hc fun v' F' H' e' eh' s' d' => hk z v' F' H' h2 (e1.trans (e2.trans e')) (eh1.trans (eh2.trans eh')) s' d') h1) hG
theorem a_op {op : Operator} {r : R2} {g : D → D → Option D} (ho : OpR X (binaryOp op) r) (hg : OpD K r g) (ha : AL X K E xF xb env a c1) (hb : AL X K E xF xb env b c2) : AE X K E xF xb env (.BinOp a op b pos) (fun (k : D → R β γ) => c1 fun x => c2 fun y => R.lft (g x y) k) :=
  ⟨ha.1, fun B F H σ Q k G s w gx hk hG => ⟨_, pe_op ho pe_C pe_C, aj_op hg ha hb B F H σ Q k G s w gx hk hG⟩⟩
theorem a_opN {op : Operator} {r : R2} {g : D → D → Option D} (ho : OpR X (binaryOp op) r) (hg : OpN K r g) (ha : AL X K E xF xb env a c1) (hb : AL X K E xF xb env b c2) : AN X K E xF xb env [] (.BinOp a op b pos) (fun (k : D → R β γ) => c1 fun x => c2 fun y => R.lft (g x y) k) :=
  ⟨ha.1, fun B F H σ Q k G s w gx hk hG => ⟨_, pe_op ho pe_C pe_C, aj_opN hg ha hb B F H σ Q k G s w gx hk hG⟩⟩
theorem a_cmp {op : CmpOp} {r : R2} {g : D → D → Option D} (ho : OpR X (compareOp op) r) (hg : OpD K r g) (ha : AL X K E xF xb env a c1) (hb : AL X K E xF xb env b c2) (hm : behindInMarks op b = false) : AE X K E xF xb env (.Compare a [op] [b] pos) (fun (k : D → R β γ) => c1 fun x => c2 fun y => R.lft (g x y) k) :=
  ⟨ha.1, fun B F H σ Q k G s w gx hk hG => ⟨_, pe_cmpR ho pe_C pe_C hm, aj_op hg ha hb B F H σ Q k G s w gx hk hG⟩⟩
theorem a_ix (ha : AL X K E xF xb env a c1) (hb : AL X K E xF xb env b c2) (hs : PlainIx b := by exact fun _ _ => rfl) : AE X K E xF xb env (.Subscript a b pos) (fun (k : D → R β γ) => c1 fun x => c2 fun y => R.lft (ixG x y) k) :=
  ⟨ha.1, fun B F H σ Q k G s w gx hk hG => ⟨_, pe_ix ix_seq pe_C pe_C hs, aj_op (ha.1 ▸ od_ix) ha hb B F H σ Q k G s w gx hk hG⟩⟩
theorem aj_test {t : TE} {c : (D → R β γ) → R β γ} (h : AJ K E xF xb env t (fun _ F _ _ v d => Dr K F v d) c) : AJ K E xF xb env (tTest t) (fun _ _ _ _ v d => v = d) (fun (k : Bool → R β γ) => c fun d => R.asB d k) := fun B F H σ Q k G s w gx hk hG =>
  h B F H σ _ _ G s w gx (fun d v F1 H1 h1 e1 eh1 s1 d1 => by
    cases d <;> first | exact (gx.no h1).elim | skip
    cases d1
    exact ⟨_, rfl, hk _ _ F1 H1 h1 e1 eh1 s1 rfl⟩) hG
theorem at_cmp {op : CmpOp} {r : R2} {g : D → D → Option D} (ho : OpR X (compareOp op) r) (hg : OpD K r g) (ha : AL X K E xF xb env a c1) (hb : AL X K E xF xb env b c2) (hm : behindInMarks op b = false) : AT X K E xF xb env (.Compare a [op] [b] pos) (fun (k : Bool → R β γ) => c1 fun x => c2 fun y => R.lft (g x y) fun z => R.asB z k) :=
  ⟨ha.1, fun B F H σ Q k G s w gx hk hG => ⟨_, pt_cmpR ho pe_C pe_C hm, aj_test (aj_op hg ha hb) B F H σ Q k G s w gx hk hG⟩⟩
theorem at_val (h : AE X K E xF xb env e c1) (he : ∀ whole, isTrue e X.env whole = (do let v ← whole; standAt e.pos; holding [v] (truthy v)) := by intro _; rfl) : AT X K E xF xb env e (fun (k : Bool → R β γ) => c1 fun d => R.asB d k) :=
  ⟨h.1, fun B F H σ Q k G s w gx hk hG => ⟨_, pt_val pe_C he, aj_test h.2 B F H σ Q k G s w gx hk hG⟩⟩
theorem at_not {ct : (Bool → R β γ) → R β γ} (h : AT X K E xF xb env e ct) : AT X K E xF xb env (.UnaryOp .Not e pos) (fun (k : Bool → R β γ) => ct fun b => k (!b)) :=
  ⟨h.1, fun B F H σ Q k G s w gx hk hG => ⟨_, pt_not pt_C, h.2 B F H σ _ _ G s w gx (fun d v F1 H1 h1 e1 eh1 s1 d1 => by subst d1; exact hk _ _ F1 H1 h1 e1 eh1 s1 rfl) hG⟩⟩
theorem a_not (h : AE X K E xF xb env e c1) : AE X K E xF xb env (.UnaryOp .Not e pos) (fun (k : D → R β γ) => c1 fun d => R.asB d fun b => k (.bl (!b))) :=
  ⟨h.1, fun B F H σ Q k G s w gx hk hG => ⟨_, pe_not pe_C, h.2 B F H σ _ _ G s w gx (fun d v F1 H1 h1 e1 eh1 s1 d1 => by
    cases d <;> first | exact (gx.no h1).elim | skip
    cases d1
    exact ⟨_, rfl, hk _ _ F1 H1 h1 e1 eh1 s1 (.bl _)⟩) hG⟩⟩
theorem a_neg (h : AL X K E xF xb env e c1) : AE X K E xF xb env (.UnaryOp .USub e pos) (fun (k : D → R β γ) => c1 fun d => R.asI d fun i => k (.int (-i))) :=
  ⟨h.1, fun B F H σ Q k G s w gx hk hG => ⟨_, pe_un un_neg pe_C, h.2 B F H σ _ _ G s w gx (fun d v F1 H1 h1 e1 eh1 s1 d1 => by
    cases d <;> first | exact (gx.no h1).elim | skip
    exact ⟨_, d1.int, hk _ _ F1 H1 h1 e1 eh1 s1 (.int _)⟩) hG⟩⟩

/-! ### and, or, if: a direct value, then on -/
/-- the direct value d of a part, then on: errors of the part are those of the whole -/
def Gd {β α γ : Type} (G : R β γ → Prop) (k : α → R β γ) : R β α → Prop := fun m => G (m.bind k)
theorem Gd.gx {B : Bs} {F : Hp} {σ : L2.St} {α : Type} {G : R β γ → Prop} {k : α → R β γ} (g : Gx K B E F σ xF xb G) : Gx K B E F σ xF xb (Gd G k) := ⟨g.no, g.ex⟩
theorem aw_and1 {ct : (Bool → R β γ) → R β γ} (h : AT X K E xF xb env a ct) : AW X K E xF xb env (.BoolOp .And [a] pos) ct :=
  ⟨h.1, fun B F H σ Q k G s w gx hk hG => ⟨_, pw_and1 pt_C, h.2 B F H σ Q k G s w gx hk hG⟩⟩
theorem aw_or1 {ct : (Bool → R β γ) → R β γ} (h : AT X K E xF xb env a ct) : AW X K E xF xb env (.BoolOp .Or [a] pos) ct :=
  ⟨h.1, fun B F H σ Q k G s w gx hk hG => ⟨_, pw_or1 pt_C, h.2 B F H σ Q k G s w gx hk hG⟩⟩
theorem aw_and {ct cu : (Bool → R β Bool) → R β Bool} {rest : List Expr} (h : AT X K E xF xb env a ct) (h' : AW X K E xF xb env (.BoolOp .And (b :: rest) pos) cu) :
    AW X K E xF xb env (.BoolOp .And (a :: b :: rest) pos) (fun (k : Bool → R β γ) => (ct fun x => if x then cu R.ok else R.ok false).bind k) :=
  ⟨h.1, fun B F H σ Q k G s w gx hk hG => ⟨_, pw_and pt_C pw_C, h.2 B F H σ _ _ (Gd G k) s w (Gd.gx gx) (fun d v F1 H1 h1 e1 eh1 s1 d1 => by
    subst d1
    cases v with
    | true => exact iteT (h'.2 B F1 H1 σ _ R.ok (Gd G k) s1 w ((Gd.gx gx).mono e1) (fun d v F2 H2 h2 e2 eh2 s2 d2 => hk d v F2 H2 h2 (e1.trans e2) (eh1.trans eh2) s2 d2) h1)
    | false => exact iteF (hk _ _ F1 H1 h1 e1 eh1 s1 rfl)) hG⟩⟩
theorem aw_or {ct cu : (Bool → R β Bool) → R β Bool} {rest : List Expr} (h : AT X K E xF xb env a ct) (h' : AW X K E xF xb env (.BoolOp .Or (b :: rest) pos) cu) :
    AW X K E xF xb env (.BoolOp .Or (a :: b :: rest) pos) (fun (k : Bool → R β γ) => (ct fun x => if x then R.ok true else cu R.ok).bind k) :=
  ⟨h.1, fun B F H σ Q k G s w gx hk hG => ⟨_, pw_or pt_C pw_C, h.2 B F H σ _ _ (Gd G k) s w (Gd.gx gx) (fun d v F1 H1 h1 e1 eh1 s1 d1 => by
    subst d1
    cases v with
    | false => exact iteF (h'.2 B F1 H1 σ _ R.ok (Gd G k) s1 w ((Gd.gx gx).mono e1) (fun d v F2 H2 h2 e2 eh2 s2 d2 => hk d v F2 H2 h2 (e1.trans e2) (eh1.trans eh2) s2 d2) h1)
    | true => exact iteT (hk _ _ F1 H1 h1 e1 eh1 s1 rfl)) hG⟩⟩
theorem AW.at {ct : (Bool → R β γ) → R β γ} (h : AW X K E xF xb env e ct) : AT X K E xF xb env e ct :=
  ⟨h.1, fun B F H σ Q k G s w gx hk hG => ⟨_, PW.pt pw_C, h.2 B F H σ Q k G s w gx hk hG⟩⟩
theorem a_one {op} (h : AE X K E xF xb env a c1) : AE X K E xF xb env (.BoolOp op [a] pos) c1 :=
  ⟨h.1, fun B F H σ Q k G s w gx hk hG => ⟨_, pe_one pe_C, h.2 B F H σ Q k G s w gx hk hG⟩⟩
theorem a_and {d1 d2 : (D → R β D) → R β D} {rest : List Expr} (h : AE X K E xF xb env a d1) (h' : AE X K E xF xb env (.BoolOp .And (b :: rest) pos) d2) :
    AE X K E xF xb env (.BoolOp .And (a :: b :: rest) pos) (fun (k : D → R β γ) => (d1 fun x => R.asB x fun x => if x then d2 R.ok else R.ok (.bl false)).bind k) :=
  ⟨h.1, fun B F H σ Q k G s w gx hk hG => ⟨_, pe_and pe_C pe_C, h.2 B F H σ _ _ (Gd G k) s w (Gd.gx gx) (fun d v F1 H1 h1 e1 eh1 s1 r1 => by
    cases d <;> first | exact (gx.no h1).elim | skip
    cases r1
    rename_i q
    refine ⟨q, rfl, ?_⟩
    cases q with
    | true => exact iteT (h'.2 B F1 H1 σ _ R.ok (Gd G k) s1 w ((Gd.gx gx).mono e1) (fun d v F2 H2 h2 e2 eh2 s2 d2 => hk d v F2 H2 h2 (e1.trans e2) (eh1.trans eh2) s2 d2) h1)
    | false => exact iteF (hk _ _ F1 H1 h1 e1 eh1 s1 (.bl _))) hG⟩⟩
theorem a_or {d1 d2 : (D → R β D) → R β D} {rest : List Expr} (h : AE X K E xF xb env a d1) (h' : AE X K E xF xb env (.BoolOp .Or (b :: rest) pos) d2) :
    AE X K E xF xb env (.BoolOp .Or (a :: b :: rest) pos) (fun (k : D → R β γ) => (d1 fun x => R.asB x fun x => if x then R.ok (.bl true) else d2 R.ok).bind k) :=
  ⟨h.1, fun B F H σ Q k G s w gx hk hG => ⟨_, pe_or pe_C pe_C, h.2 B F H σ _ _ (Gd G k) s w (Gd.gx gx) (fun d v F1 H1 h1 e1 eh1 s1 r1 => by
    cases d <;> first | exact (gx.no h1).elim | skip
    cases r1
    rename_i q
    refine ⟨q, rfl, ?_⟩
    cases q with
    | false => exact iteF (h'.2 B F1 H1 σ _ R.ok (Gd G k) s1 w ((Gd.gx gx).mono e1) (fun d v F2 H2 h2 e2 eh2 s2 d2 => hk d v F2 H2 h2 (e1.trans e2) (eh1.trans eh2) s2 d2) h1)
    | true => exact iteT (hk _ _ F1 H1 h1 e1 eh1 s1 (.bl _))) hG⟩⟩
theorem a_if {ct : (Bool → R β D) → R β D} {d1 d2 : (D → R β D) → R β D} (h : AT X K E xF xb env c ct) (ha : AE X K E xF xb env a d1) (hb : AE X K E xF xb env b d2) :
    AE X K E xF xb env (.IfExp c a b pos) (fun (k : D → R β γ) => (ct fun x => if x then d1 R.ok else d2 R.ok).bind k) :=
  ⟨h.1, fun B F H σ Q k G s w gx hk hG => ⟨_, pe_ifExp pt_C pe_C pe_C, h.2 B F H σ _ _ (Gd G k) s w (Gd.gx gx) (fun d v F1 H1 h1 e1 eh1 s1 r1 => by
    subst r1
    cases v with
    | true => exact iteT (ha.2 B F1 H1 σ _ R.ok (Gd G k) s1 w ((Gd.gx gx).mono e1) (fun d v F2 H2 h2 e2 eh2 s2 d2 => hk d v F2 H2 h2 (e1.trans e2) (eh1.trans eh2) s2 d2) h1)
    | false => exact iteF (hb.2 B F1 H1 σ _ R.ok (Gd G k) s1 w ((Gd.gx gx).mono e1) (fun d v F2 H2 h2 e2 eh2 s2 d2 => hk d v F2 H2 h2 (e1.trans e2) (eh1.trans eh2) s2 d2) h1)) hG⟩⟩
/-- a < b < c -/
theorem aj_chain {r r' : R2} {g g' : D → D → Option D} {d1 d2 d3 : (D → R β D) → R β D} (hg : OpD K r g) (hg' : OpD K r' g') (ha : AL X K E xF xb env a d1) (hb : AL X K E xF xb env b d2) (hc : AL X K E xF xb env c d3) :
    AJ K E xF xb env (tChain r r' (teC X a) (teC X b) (teC X c)) (fun _ F _ _ v d => Dr K F v d) (fun (k : D → R β γ) => (d1 fun x => d2 fun y => R.lft (g x y) fun z => R.asB z fun z => if z then d3 fun u => R.lft (g' y u) R.ok else R.ok (.bl false)).bind k) := fun B F H σ Q k G s w gx hk hG =>
  ha.2 B F H σ _ _ (Gd G k) s w (Gd.gx gx) (fun x v F1 H1 h1 e1 eh1 s1 r1 => hb.2 B F1 H1 σ _ _ (Gd G k) s1 w ((Gd.gx gx).mono e1) (fun y u F2 H2 h2 e2 eh2 s2 r2 => by
    cases hc1 : g x y with
    | none => rw [hc1] at h2; exact (gx.no h2).elim
    | some z =>
      rw [hc1] at h2
      refine hg B F2 H2 σ env v u x y z _ s2 (r1.mono e2 eh2) r2 hc1 fun v' F' H' e' eh' s' d' => ?_
      cases z <;> first | exact (gx.no h2).elim | skip
      cases d'
      rename_i q
      refine ⟨q, rfl, ?_⟩
      cases q with
      | false => exact iteF (hk _ _ F' H' h2 (e1.trans (e2.trans e')) (eh1.trans (eh2.trans eh')) s' (.bl _))
      | true =>
        refine iteT (hc.2 B F' H' σ _ _ (Gd G k) s' w ((Gd.gx gx).mono (e1.trans (e2.trans e'))) (fun u' w' F3 H3 h3 e3 eh3 s3 r3 => ?_) h2)
        cases hc2 : g' y u' with
        | none => rw [hc2] at h3; exact (gx.no h3).elim
        | some z2 =>
          rw [hc2] at h3
          exact hg' B F3 H3 σ env u w' y u' z2 Q s3 (r2.mono (e'.trans e3) (eh'.trans eh3)) r3 hc2 fun v' F4 H4 e4 eh4 s4 d4 => hk z2 v' F4 H4 h3 (e1.trans (e2.trans (e'.trans (e3.trans e4)))) (eh1.trans (eh2.trans (eh'.trans (eh3.trans eh4)))) s4 d4) h1) hG
theorem a_chain {op op' : CmpOp} {r r' : R2} {g g' : D → D → Option D} {d1 d2 d3 : (D → R β D) → R β D} (ho : OpR X (compareOp op) r) (hg : OpD K r g) (ho' : OpR X (compareOp op') r') (hg' : OpD K r' g') (ha : AL X K E xF xb env a d1) (hb : AL X K E xF xb env b d2) (hc : AL X K E xF xb env c d3)
    (hm : lastMarks [op, op'] [b, c] = false := by with_unfolding_all rfl) : AE X K E xF xb env (.Compare a [op, op'] [b, c] pos) (fun (k : D → R β γ) => (d1 fun x => d2 fun y => R.lft (g x y) fun z => R.asB z fun z => if z then d3 fun u => R.lft (g' y u) R.ok else R.ok (.bl false)).bind k) :=
  ⟨ha.1, fun B F H σ Q k G s w gx hk hG => ⟨_, pe_chain ho ho' pe_C pe_C pe_C hm, aj_chain hg hg' ha hb hc B F H σ Q k G s w gx hk hG⟩⟩
theorem at_chain {op op' : CmpOp} {r r' : R2} {g g' : D → D → Option D} {d1 d2 d3 : (D → R β D) → R β D} (ho : OpR X (compareOp op) r) (hg : OpD K r g) (ho' : OpR X (compareOp op') r') (hg' : OpD K r' g') (ha : AL X K E xF xb env a d1) (hb : AL X K E xF xb env b d2) (hc : AL X K E xF xb env c d3)
    (hm : lastMarks [op, op'] [b, c] = false := by with_unfolding_all rfl) : AT X K E xF xb env (.Compare a [op, op'] [b, c] pos) (fun (k : Bool → R β γ) => (d1 fun x => d2 fun y => R.lft (g x y) fun z => R.asB z fun z => if z then d3 fun u => R.lft (g' y u) R.ok else R.ok (.bl false)).bind fun z => R.asB z k) :=
  ⟨ha.1, fun B F H σ Q k G s w gx hk hG => ⟨_, pt_chain ho ho' pe_C pe_C pe_C hm, aj_test (aj_chain hg hg' ha hb hc) B F H σ Q k G s w gx hk hG⟩⟩

/-! ### several items; displays -/
theorem aa_nil (hK : X.K = K := by rfl) : AA X K E xF xb env [] (fun (k : List D → R β γ) => k []) := ⟨hK, fun B F H σ Q k G s w gx hk hG => ⟨_, pa_nil, hk [] [] F H hG (Ex.refl F) (Ex.refl H) s .nil⟩⟩
theorem aa_cons {cs : (List D → R β γ) → R β γ} (ha : AE X K E xF xb env e c1) (hr : AA X K E xF xb env es cs) (hs : starEach (e :: es) X.env = (false, eval e X.env) :: starEach es X.env := by rfl) : AA X K E xF xb env (e :: es) (fun (k : List D → R β γ) => c1 fun d => cs fun ds => k (d :: ds)) :=
  ⟨ha.1, fun B F H σ Q k G s w gx hk hG => ⟨_, pa_cons pe_C pa_C hs, ha.2 B F H σ _ _ G s w gx (fun d v F1 H1 h1 e1 eh1 s1 d1 => hr.2 B F1 H1 σ _ _ G s1 w (gx.mono e1) (fun ds vs F2 H2 h2 e2 eh2 s2 d2 =>
    hk (d :: ds) (v :: vs) F2 H2 h2 (e1.trans e2) (eh1.trans eh2) s2 (.cons (d1.mono e2) d2)) h1) hG⟩⟩
theorem aal_nil (hK : X.K = K := by rfl) : AAL X K E xF xb env [] (fun (k : List D → R β γ) => k []) := ⟨hK, fun B F H σ Q k G s w gx hk hG => ⟨_, pa_nil, hk [] [] F H hG (Ex.refl F) (Ex.refl H) s trivial⟩⟩
theorem aal_cons {cs : (List D → R β γ) → R β γ} (ha : AL X K E xF xb env e c1) (hr : AAL X K E xF xb env es cs) (hs : starEach (e :: es) X.env = (false, eval e X.env) :: starEach es X.env := by rfl) : AAL X K E xF xb env (e :: es) (fun (k : List D → R β γ) => c1 fun d => cs fun ds => k (d :: ds)) :=
  ⟨ha.1, fun B F H σ Q k G s w gx hk hG => ⟨_, pa_cons pe_C pa_C hs, ha.2 B F H σ _ _ G s w gx (fun d v F1 H1 h1 e1 eh1 s1 d1 => hr.2 B F1 H1 σ _ _ G s1 w (gx.mono e1) (fun ds vs F2 H2 h2 e2 eh2 s2 d2 =>
    hk (d :: ds) (v :: vs) F2 H2 h2 (e1.trans e2) (eh1.trans eh2) s2 ⟨d1.mono e2 eh2, d2⟩) h1) hG⟩⟩
theorem aa_star {cs : (List D → R β γ) → R β γ} {p : Pos} (ha : AL X K E xF xb env e c1) (hr : AA X K E xF xb env es cs) (hs : starEach (.Starred e p :: es) X.env = (true, eval e X.env) :: starEach es X.env := by rfl) :
    AA X K E xF xb env (.Starred e p :: es) (fun (k : List D → R β γ) => c1 fun d => R.asQ d fun xs => cs fun ds => k (xs ++ ds)) :=
  ⟨ha.1, fun B F H σ Q k G s w gx hk hG => ⟨_, StX.pa_star pe_C pa_C hs, ha.2 B F H σ _ _ G s w gx (fun d v F1 H1 h1 e1 eh1 s1 d1 => by
    have hK := ha.1
    subst hK
    cases d <;> first | exact (gx.no h1).elim | skip
    · obtain ⟨q, xs, rfl, h2, h3⟩ := d1.lstR s1.ex
      exact ⟨q, xs, rfl, .inr (.inl h2), hr.2 B F1 H1 σ _ _ G s1 w (gx.mono e1) (fun ds vs F2 H2 g2 e2 eh2 s2 d2 => hk _ (xs ++ vs) F2 H2 g2 (e1.trans e2) (eh1.trans eh2) s2 ((h3.mono e2).append d2)) h1⟩
    · obtain ⟨q, xs, rfl, h2, h3⟩ := d1.tup s1.ex
      exact ⟨q, xs, rfl, .inl h2, hr.2 B F1 H1 σ _ _ G s1 w (gx.mono e1) (fun ds vs F2 H2 g2 e2 eh2 s2 d2 => hk _ (xs ++ vs) F2 H2 g2 (e1.trans e2) (eh1.trans eh2) s2 ((h3.mono e2).append d2)) h1⟩) hG⟩⟩
theorem a_lst {cs : (List D → R β γ) → R β γ} (h : AA X K E xF xb env es cs) : AN X K E xF xb env [] (.List es pos) (fun (k : D → R β γ) => cs fun ds => R.few ds fun ds => k (.lst ds)) :=
  ⟨h.1, fun B F H σ Q k G s w gx hk hG => ⟨_, pe_lst pa_C, h.2 B F H σ _ _ G s w gx (fun ds vs F1 H1 h1 e1 eh1 s1 d1 => by
    unfold R.few at h1
    split at h1
    · rename_i hz
      refine ⟨by rw [d1.length]; exact of_decide_eq_true hz, fun p hp => ?_⟩
      obtain ⟨s2, n2⟩ := s1.newN hp (Do.lst d1)
      exact hk _ _ F1 _ h1 e1 (eh1.trans (Ex.new hp)) s2 n2
    · exact (gx.no h1).elim) hG⟩⟩
theorem a_tup {x1} {cs : (List D → R β γ) → R β γ} (h : AA X K E xF xb env es cs) : AE X K E xF xb env (.Tuple es x1 pos) (fun (k : D → R β γ) => cs fun ds => R.few ds fun ds => k (.tup ds)) :=
  ⟨h.1, fun B F H σ Q k G s w gx hk hG => ⟨_, pe_tupZ pa_C, h.2 B F H σ _ _ G s w gx (fun ds vs F1 H1 h1 e1 eh1 s1 d1 => by
    unfold R.few at h1
    split at h1
    · rename_i hz
      refine ⟨by rw [d1.length]; exact of_decide_eq_true hz, fun p o hp ho => ?_⟩
      obtain ⟨e2, s2, d2⟩ := s1.newT hp ho d1
      exact hk _ _ _ _ h1 (e1.trans e2) (eh1.trans (Ex.new hp)) s2 d2
    · exact (gx.no h1).elim) hG⟩⟩
theorem a_dct0 (hK : X.K = K := by rfl) : AN X K E xF xb env [] (.Dict [] [] pos) (fun (k : D → R β γ) => k (.dct [])) :=
  ⟨hK, fun B F H σ Q k G s w gx hk hG => ⟨_, pe_dnewK, fun p hp => by
    obtain ⟨s2, n2⟩ := s.newN hp (Do.dct (kvs := []) (kds := []) rfl .nil)
    exact hk _ _ F _ hG (Ex.refl F) (Ex.new hp) s2 n2⟩⟩

/-! ### slices -/
theorem ao_none (hK : X.K = K := by rfl) : AO X K E xF xb env none (fun (k : Option Int → R β γ) => k none) := ⟨hK, fun B F H σ Q k G s w gx hk hG => ⟨_, po_none, hk _ _ F H hG (Ex.refl F) (Ex.refl H) s rfl⟩⟩
theorem ao_some (h : AL X K E xF xb env e c1) : AO X K E xF xb env (some e) (fun (k : Option Int → R β γ) => c1 fun d => R.asI d fun i => k (some i)) :=
  ⟨h.1, fun B F H σ Q k G s w gx hk hG => ⟨_, po_some pe_C, h.2 B F H σ _ _ G s w gx (fun d v F1 H1 h1 e1 eh1 s1 d1 => by
    cases d <;> first | exact (gx.no h1).elim | skip
    exact ⟨_, d1.int, hk _ _ F1 H1 h1 e1 eh1 s1 rfl⟩) hG⟩⟩
theorem sl_core {B : Bs} {F H : Hp} {σ : L2.St} {v : V} {x : D} {l h : Option Int} {d : D} {Q : VK} (s : SR K B F H σ env) (hv : Dh K F H v x) (hc : slG x l h = some d)
    (hk : ∀ v F' H', Ex F F' → Ex H H' → SR K B F' H' σ env → Dr K F' v d → Q v H') : rSlAll K v l h H Q := by
  unfold slG at hc
  split at hc
  · cases hc
    obtain ⟨p, xs, rfl, h1, h2⟩ := hv.lst s.ex
    refine Or.inl (Or.inl ⟨p, xs, rfl, h1, fun q hn => ?_⟩)
    obtain ⟨s4, n4⟩ := s.newN hn (Do.lst (h2.cut l h))
    obtain ⟨F5, e5, d5, s5⟩ := s4.frzN n4
    exact hk _ F5 _ e5 (Ex.new hn) s5 d5
  · cases hc
    rcases hv with hv | ⟨_, _, _, _, hv⟩
    · cases hv with
      | tup h1 h2 =>
        refine Or.inl (Or.inr ⟨_, _, rfl, s.ex.st h1.sq, fun hw => ?_, fun hw q o hn ho => ?_⟩)
        · have h3 := h2.cut l h
          rw [cutV_whole hw] at h3
          exact hk _ F H (Ex.refl F) (Ex.refl H) s (.tup h1 h3)
        · obtain ⟨e4, s4, d4⟩ := s.newT hn ho (h2.cut l h)
          exact hk _ _ _ e4 (Ex.new hn) s4 d4
    · cases hv
  · split at hc
    · rename_i hz
      cases hc
      exact Or.inr ⟨_, hv.str, hz, hk _ F H (Ex.refl F) (Ex.refl H) s (.str _)⟩
    · cases hc
  · cases hc
theorem a_sl {lo hi : Option Expr} {p2 : Pos} {cl ch : (Option Int → R β γ) → R β γ} (ha : AL X K E xF xb env e c1) (hl : AO X K E xF xb env lo cl) (hh : AO X K E xF xb env hi ch) :
    AE X K E xF xb env (.Subscript e (.Slice lo hi none p2) pos) (fun (k : D → R β γ) => c1 fun x => cl fun l => ch fun h => R.lft (slG x l h) k) :=
  ⟨ha.1, fun B F H σ Q k G s w gx hk hG => ⟨_, pe_slice ((sl_list.or sl_tupZ).or C8.sl_txt) pe_C po_C po_C, ha.2 B F H σ _ _ G s w gx (fun x v F1 H1 h1 e1 eh1 s1 d1 =>
    hl.2 B F1 H1 σ _ _ G s1 w (gx.mono e1) (fun l l' F2 H2 h2 e2 eh2 s2 d2 => hh.2 B F2 H2 σ _ _ G s2 w (gx.mono (e1.trans e2)) (fun h h' F3 H3 h3 e3 eh3 s3 d3 => by
      subst d2
      subst d3
      cases hc : slG x l' h' with
      | none => rw [hc] at h3; exact (gx.no h3).elim
      | some d =>
        rw [hc] at h3
        have hK := ha.1
        subst hK
        exact sl_core s3 (d1.mono (e2.trans e3) (eh2.trans eh3)) hc fun v F4 H4 e4 eh4 s4 d4 => hk d v F4 H4 h3 (e1.trans (e2.trans (e3.trans e4))) (eh1.trans (eh2.trans (eh3.trans eh4))) s4 d4) h2) h1) hG⟩⟩

/-! ### calls of built-ins -/
theorem aj_call {r : List V → Hp → VK → Prop} {g : List D → Option D} {cs : (List D → R β γ) → R β γ} (hg : CallD K r g) (ha : AAL X K E xF xb env es cs) :
    AJ K E xF xb env (tCB r (taC X es)) (fun _ F _ _ v d => Dr K F v d) (fun (k : D → R β γ) => cs fun ds => R.lft (g ds) k) := fun B F H σ Q k G s w gx hk hG =>
  ha.2 B F H σ _ _ G s w gx (fun ds vs F1 H1 h1 e1 eh1 s1 d1 => by
    cases hc : g ds with
    | none => rw [hc] at h1; exact (gx.no h1).elim
    | some z =>
      rw [hc] at h1
      exact hg B F1 H1 σ env vs ds z Q s1 d1 hc fun v' F' H' e' eh' s' d' => hk z v' F' H' h1 (e1.trans e') (eh1.trans eh') s' d') hG
theorem aj_callN {r : List V → Hp → VK → Prop} {g : List D → Option D} {cs : (List D → R β γ) → R β γ} (hg : CallN K r g) (ha : AAL X K E xF xb env es cs) :
    AJ K E xF xb env (tCB r (taC X es)) (fun B F H σ v d => rN K B F H σ env v d []) (fun (k : D → R β γ) => cs fun ds => R.lft (g ds) k) := fun B F H σ Q k G s w gx hk hG =>
  ha.2 B F H σ _ _ G s w gx (fun ds vs F1 H1 h1 e1 eh1 s1 d1 => by
    cases hc : g ds with
    | none => rw [hc] at h1; exact (gx.no h1).elim
    | some z =>
      rw [hc] at h1
      exact hg B F1 H1 σ env vs ds z Q s1 d1 hc fun v' F' H' e' eh' s' d' => hk z v' F' H' h1 (e1.trans e') (eh1.trans eh') s' d') hG
section
variable {r : List V → Hp → VK → Prop} {g : List D → Option D} {cs : (List D → R β γ) → R β γ} {x : Str} {id T : String} {p : Pos}
theorem a_callB (hc : CallR X (.builtin id) r) (hd : CallD K r g) (hv : bootBuiltins x = some (.builtin id)) (hm : X.mg x = none) (hg : Gl X x) (ha : AAL X K E xF xb env (e :: es) cs) (hn : x ≠ "__name__" := by decide) (hdb : (x == ("__debug__" : Str)) = false := by decide)
    (he : starEach (e :: es) X.env = (false, eval e X.env) :: starEach es X.env := by rfl) (hpl : (backTo pos (starEach es X.env)).any (·.1) = false := by rfl) : AE X K E xF xb env (.Call (.Name x p) (e :: es) [] pos) (fun (k : D → R β γ) => cs fun ds => R.lft (g ds) k) :=
  ⟨ha.1, fun B F H σ Q k G s w gx hk hG => ⟨_, pe_callB hc hg hm hv pa_C hn hdb he hpl, aj_call hd ha B F H σ Q k G s w gx hk hG⟩⟩
theorem a_callT (hc : CallR X (.type T) r) (hd : CallD K r g) (hv : bootBuiltins x = some (.type T)) (hm : X.mg x = none) (hg : Gl X x) (ha : AAL X K E xF xb env (e :: es) cs) (hn : x ≠ "__name__" := by decide) (hdb : (x == ("__debug__" : Str)) = false := by decide)
    (he : starEach (e :: es) X.env = (false, eval e X.env) :: starEach es X.env := by rfl) (hpl : (backTo pos (starEach es X.env)).any (·.1) = false := by rfl) : AE X K E xF xb env (.Call (.Name x p) (e :: es) [] pos) (fun (k : D → R β γ) => cs fun ds => R.lft (g ds) k) :=
  ⟨ha.1, fun B F H σ Q k G s w gx hk hG => ⟨_, pe_callTy hc hg hm hv pa_C hn hdb he hpl, aj_call hd ha B F H σ Q k G s w gx hk hG⟩⟩
theorem a_callTN (hc : CallR X (.type T) r) (hd : CallN K r g) (hv : bootBuiltins x = some (.type T)) (hm : X.mg x = none) (hg : Gl X x) (ha : AAL X K E xF xb env (e :: es) cs) (hn : x ≠ "__name__" := by decide) (hdb : (x == ("__debug__" : Str)) = false := by decide)
    (he : starEach (e :: es) X.env = (false, eval e X.env) :: starEach es X.env := by rfl) (hpl : (backTo pos (starEach es X.env)).any (·.1) = false := by rfl) : AN X K E xF xb env [] (.Call (.Name x p) (e :: es) [] pos) (fun (k : D → R β γ) => cs fun ds => R.lft (g ds) k) :=
  ⟨ha.1, fun B F H σ Q k G s w gx hk hG => ⟨_, pe_callTy hc hg hm hv pa_C hn hdb he hpl, aj_callN hd ha B F H σ Q k G s w gx hk hG⟩⟩
end
end
end DM

/-! What code does, told by plain functions: statements. -/
namespace DM
open PySem PySem.Spec PyProof.Rows L2 DL

/-- how a turn of a loop ends -/
inductive Step (S : Type) where
  | nx (s : S) | bk (s : S) | rt (d : D) (s : S)
namespace R
variable {β α γ ω S : Type}
/-- the rest, said once -/
def join (r : S → R β ω) (f : (S → R β ω) → R β ω) : R β ω := f r
def tup2 (d : D) (k : D → D → R β γ) : R β γ := match d with
  | .tup [x, y] => k x y
  | .lst [x, y] => k x y
  | _ => .no
def tup3 (d : D) (k : D → D → D → R β γ) : R β γ := match d with
  | .tup [x, y, z] => k x y z
  | .lst [x, y, z] => k x y z
  | _ => .no
def tup5 (d : D) (k : D → D → D → D → D → R β γ) : R β γ := match d with
  | .tup [x, y, z, u, v] => k x y z u v
  | .lst [x, y, z, u, v] => k x y z u v
  | _ => .no
/-- a turn's end, and on -/
def turn (m : R β (Step S)) (nxt : S → R β (Step S)) : R β (Step S) := match m with
  | .ok (.nx s') => nxt s'
  | .ok (.bk s') => .ok (.nx s')
  | .ok (.rt v s') => .ok (.rt v s')
  | .ex x b => .ex x b
  | .no => .no
/-- a for: f tells of an item and the state how the turn ends; nx: no item is left, or a break -/
def for' : List D → S → (D → S → R β (Step S)) → R β (Step S)
  | [], s, _ => .ok (.nx s)
  | d :: ds, s, f => turn (f d s) fun s' => for' ds s' f
/-- behind a loop -/
def after (m : R β (Step S)) (k : S → R β ω) (kr : D → S → R β ω) : R β ω := match m with
  | .ok (.nx s) => k s
  | .ok (.bk s) => k s
  | .ok (.rt d s) => kr d s
  | .ex x b => .ex x b
  | .no => .no
/-- a while, n turns at most -/
def whlN (f : S → R β (Step S)) : Nat → S → R β (Step S)
  | 0, _ => .no
  | n + 1, s => turn (f s) fun s' => whlN f n s'
open Classical in
noncomputable def whl (f : S → R β (Step S)) (s : S) : R β (Step S) := if h : ∃ n, whlN f n s ≠ .no then whlN f h.choose s else .no
theorem whlN_up {f : S → R β (Step S)} : ∀ {n m : Nat} {s : S}, n ≤ m → whlN f n s ≠ .no → whlN f m s = whlN f n s
  | 0, _, _, _, h => absurd rfl h
  | n + 1, 0, _, hl, _ => by omega
  | n + 1, m + 1, s, hl, h => by
    unfold whlN turn at h ⊢
    split <;> try rfl
    rename_i s' e
    simp only [e] at h
    exact whlN_up (by omega) h
theorem whl_of {f : S → R β (Step S)} {n : Nat} {s : S} (h : whlN f n s ≠ .no) : whl f s = whlN f n s := by
  have hx : ∃ n, whlN f n s ≠ .no := ⟨n, h⟩
  unfold whl
  rw [dif_pos hx]
  rcases Nat.le_total n hx.choose with z | z
  · exact whlN_up z h
  · exact (whlN_up z hx.choose_spec).symm
theorem whl_some {f : S → R β (Step S)} {s : S} (h : whl f s ≠ .no) : ∃ n, whl f s = whlN f n s ∧ whlN f n s ≠ .no := by
  unfold whl at h ⊢
  split
  · rename_i hx
    exact ⟨_, rfl, hx.choose_spec⟩
  · rename_i hx
    rw [dif_neg hx] at h
    exact absurd rfl h
theorem whl_eq (f : S → R β (Step S)) (s : S) : whl f s = turn (f s) (whl f) := by
  by_cases h : ∃ n, whlN f n s ≠ .no
  · obtain ⟨n, h⟩ := h
    rw [whl_of h]
    cases n with
    | zero => exact absurd rfl h
    | succ n =>
      unfold whlN turn at h ⊢
      split <;> try rfl
      rename_i s' e
      simp only [e] at h
      exact (whl_of h).symm
  · have hn : whl f s = .no := by unfold whl; rw [dif_neg h]
    rw [hn]
    have key : ∀ n, whlN f (n + 1) s = .no := fun n => Classical.byContradiction fun z => h ⟨n + 1, z⟩
    have k0 := key 0
    cases e : f s with
    | no => rfl
    | ex x b => unfold whlN at k0; rw [e] at k0; cases k0
    | ok a =>
      cases a with
      | bk s' => unfold whlN at k0; rw [e] at k0; cases k0
      | rt v s' => unfold whlN at k0; rw [e] at k0; cases k0
      | nx s' =>
        refine (Classical.byContradiction fun z => ?_ : _ = _)
        obtain ⟨m, h1, h2⟩ := whl_some (f := f) (s := s') (Ne.symm z)
        have := key m
        unfold whlN at this
        rw [e] at this
        exact h2 this
end R

def tsC (X : Cx) (st : List Stmt) : TS := fun Dn σ H => ∃ t, PSs X st t ∧ t Dn σ H
theorem ps_C {X : Cx} {st : List Stmt} : PSs X st (tsC X st) := ⟨fun pins s σ H Q I ⟨_, h, ht⟩ => h.run pins s σ H Q I ht⟩
def tgC (X : Cx) (tg : Expr) : TG := fun v σ H P => ∃ t, PG X tg t ∧ t v σ H P
theorem pg_C {X : Cx} {tg : Expr} : PG X tg (tgC X tg) := ⟨fun pins s σ H v u Q I r ⟨_, h, ht⟩ => h.run pins s σ H v u Q I r ht⟩
def tgsC (X : Cx) (tg : List Expr) : TGs := fun v σ H P => ∃ t, PGs X tg t ∧ t v σ H P
theorem pgs_C {X : Cx} {tg : List Expr} : PGs X tg (tgsC X tg) := ⟨fun pins s σ H v u Q I r ⟨_, h, ht⟩ => h.run pins s σ H v u Q I r ht⟩
def tiC (X : Cx) (tg iter : Expr) : TI := fun σ H Q => ∃ t, PI X tg iter t ∧ t σ H Q
theorem pi_C {X : Cx} {tg iter : Expr} : PI X tg iter (tiC X tg iter) := ⟨fun pins s σ H Q I ⟨_, h, ht⟩ => h.run pins s σ H Q I ht⟩

/-- where a block may end: what the frame is then, and what comes of it -/
structure Kt (β ω : Type) where
  fx : β → Fm
  Sn : Type
  fn : Sn → Fm
  kn : Sn → R β ω
  Sb : Type
  fb : Sb → Fm
  kb : Sb → R β ω
  Sc : Type
  fc : Sc → Fm
  kc : Sc → R β ω
  Sr : Type
  fr : Sr → Fm
  kr : D → Sr → R β ω
  nw : Option (List Str)
def rR (K : PySem.W.Frag) (nw : Option (List Str)) (B : Bs) (F H : Hp) (σ : L2.St) (env : Fm) (v : V) (d : D) : Prop := match nw with
  | none => Dr K F v d
  | some fs => rN K B F H σ env v d fs
structure Gs (K : PySem.W.Frag) (B : Bs) (E : XE) {β ω : Type} (κ : Kt β ω) (F : Hp) (Dn : Ends) (G : R β ω → Prop) : Prop where
  no : ¬ G .no
  ex : ∀ x b, G (.ex x b) → ∀ c dd F' H' σ', Ex F F' → SR K B F' H' σ' (κ.fx b) → XR K F' x c dd → E σ' c dd H'
  nx : ∀ s, G (κ.kn s) → ∀ F' H' σ', Ex F F' → SR K B F' H' σ' (κ.fn s) → Dn.nx σ' H'
  bk : ∀ s, G (κ.kb s) → ∀ F' H' σ', Ex F F' → SR K B F' H' σ' (κ.fb s) → Dn.bk σ' H'
  ct : ∀ s, G (κ.kc s) → ∀ F' H' σ', Ex F F' → SR K B F' H' σ' (κ.fc s) → Dn.ct σ' H'
  rt : ∀ d s, G (κ.kr d s) → ∀ v F' H' σ', Ex F F' → SR K B F' H' σ' (κ.fr s) → rR K κ.nw B F' H' σ' (κ.fr s) v d → Dn.rt v H'
section
variable {X : Cx} {K : PySem.W.Frag} {E : XE} {β ω : Type} {κ : Kt β ω} {env : Fm} {pos : Pos} {rest : List Stmt}
theorem Gs.mono {B : Bs} {F F1 : Hp} {Dn : Ends} {G : R β ω → Prop} (e : Ex F F1) (h : Gs K B E κ F Dn G) : Gs K B E κ F1 Dn G :=
  ⟨h.no, fun x b hx c dd F' H' σ' e1 => h.ex x b hx c dd F' H' σ' (e.trans e1), fun s hs F' H' σ' e1 => h.nx s hs F' H' σ' (e.trans e1), fun s hs F' H' σ' e1 => h.bk s hs F' H' σ' (e.trans e1), fun s hs F' H' σ' e1 => h.ct s hs F' H' σ' (e.trans e1), fun d s hs v F' H' σ' e1 => h.rt d s hs v F' H' σ' (e.trans e1)⟩
theorem Gs.gx {B : Bs} {F : Hp} {Dn : Ends} {G : R β ω → Prop} {σ : L2.St} (h : Gs K B E κ F Dn G) (xb : β) : Gx K B E F σ (κ.fx xb) xb G :=
  ⟨h.no, fun x hx c dd F' H' e1 s1 x1 => h.ex x xb hx c dd F' H' σ e1 s1 x1⟩
/-- the block st at the frame env is told by m -/
def AB (X : Cx) (K : PySem.W.Frag) (E : XE) {β ω : Type} (κ : Kt β ω) (env : Fm) (st : List Stmt) (m : R β ω) : Prop :=
  X.K = K ∧ ∀ B F H σ Dn (G : R β ω → Prop), SR K B F H σ env → Gs K B E κ F Dn G → G m → tsC X st Dn σ H
theorem AB.eq {st : List Stmt} {m m' : R β ω} (h : AB X K E κ env st m) (e : m = m') : AB X K E κ env st m' := e ▸ h
/-! ### ends -/
theorem ab_nil {mE : R β ω} (s : κ.Sn) (hw : Wk env (κ.fn s)) (eE : κ.kn s = mE) (hK : X.K = K := by rfl) : AB X K E κ env [] mE := by
  subst eE
  exact ⟨hK, fun B F H σ Dn G sr gs hG => ⟨_, pss_nil, gs.nx s hG F H σ (Ex.refl F) (sr.wk hw)⟩⟩
theorem ab_break {mE : R β ω} (s : κ.Sb) (hw : Wk env (κ.fb s)) (eE : κ.kb s = mE) (hK : X.K = K := by rfl) : AB X K E κ env [.Break pos] mE := by
  subst eE
  exact ⟨hK, fun B F H σ Dn G sr gs hG => ⟨_, pss_one ps_break, gs.bk s hG F H σ (Ex.refl F) (sr.wk hw)⟩⟩
theorem ab_cont {mE : R β ω} (s : κ.Sc) (hw : Wk env (κ.fc s)) (eE : κ.kc s = mE) (hK : X.K = K := by rfl) : AB X K E κ env [.Continue pos] mE := by
  subst eE
  exact ⟨hK, fun B F H σ Dn G sr gs hG => ⟨_, pss_one ps_continue, gs.ct s hG F H σ (Ex.refl F) (sr.wk hw)⟩⟩
theorem ab_retN {mE : R β ω} (s : κ.Sr) (hw : Wk env (κ.fr s)) (eE : κ.kr .non s = mE) (hn : κ.nw = none := by rfl) (hK : X.K = K := by rfl) : AB X K E κ env [.Return none pos] mE := by
  subst eE
  exact ⟨hK, fun B F H σ Dn G sr gs hG => ⟨_, pss_one ps_retN, gs.rt .non s hG .non F H σ (Ex.refl F) (sr.wk hw) (by unfold rR; rw [hn]; exact .non)⟩⟩
theorem ab_ret {mE : R β ω} {e : Expr} {c : (D → R β ω) → R β ω} (xb : β) (s : κ.Sr) (he : AE X K E (κ.fx xb) xb env e c) (hx : Wk env (κ.fx xb)) (hw : Wk env (κ.fr s)) (eE : (c fun d => κ.kr d s) = mE) (hn : κ.nw = none := by rfl) : AB X K E κ env [.Return (some e) pos] mE := by
  subst eE
  exact ⟨he.1, fun B F H σ Dn G sr gs hG => ⟨_, pss_one (ps_ret pe_C), he.2 B F H σ _ _ G sr hx (gs.gx xb) (fun d v F1 H1 h1 e1 eh1 s1 d1 => gs.rt d s h1 v F1 H1 σ e1 (s1.wk hw) (by unfold rR; rw [hn]; exact d1)) hG⟩⟩
/-- a new thing is given back -/
theorem ab_retW {mE : R β ω} {e : Expr} {fs : List Str} {c : (D → R β ω) → R β ω} (xb : β) (s : κ.Sr) (he : AN X K E (κ.fx xb) xb env fs e c) (hx : Wk env (κ.fx xb)) (hw : Wk env (κ.fr s)) (eE : (c fun d => κ.kr d s) = mE) (hn : κ.nw = some fs := by rfl) : AB X K E κ env [.Return (some e) pos] mE := by
  subst eE
  exact ⟨he.1, fun B F H σ Dn G sr gs hG => ⟨_, pss_one (ps_ret pe_C), he.2 B F H σ _ _ G sr hx (gs.gx xb) (fun d v F1 H1 h1 e1 eh1 s1 d1 => gs.rt d s h1 v F1 H1 σ e1 (s1.wk hw) (by
    unfold rR
    rw [hn]
    obtain ⟨p, S, h2, h3, h4, h5⟩ := d1
    obtain ⟨ft, hf⟩ := s1.own
    refine ⟨p, S, h2, h3, h4, fun ft' hf' a ha z => h5 ft hf a ha ?_⟩
    obtain ⟨i, t, d2, f2, g1, g2⟩ := z
    have g3 := hw.at g1 fun z => nomatch z
    obtain ⟨q, q1, q2, _⟩ := hf.ow i t d2 f2 g3
    obtain ⟨q', r1, r2, _⟩ := hf'.ow i t d2 f2 g1
    rw [q1] at r1
    cases r1
    rw [← foot_same q2 (Ex.refl _) r2] at g2
    exact ⟨i, t, d2, f2, g3, g2⟩)) hG⟩⟩
/-- return x, x a slot's own thing -/
theorem ab_retO {mE : R β ω} (i : Nat) {x : Str} {d : D} {fs : List Str} {p : Pos} (hi : fget env i = .ow none d fs) (s : κ.Sr) (hw : Wk (fput env i .un) (κ.fr s)) (eE : κ.kr d s = mE) (hn : κ.nw = some fs := by rfl) (hK : X.K = K := by rfl) (hN : X.N[i]? = some x := by rfl) (hv : Vis X.env.scope x := by first | exact Or.inl rfl | exact Or.inr (Or.inl rfl) | exact Or.inr (Or.inr rfl)) (hd : (x == ("__debug__" : Str)) = false := by decide)
    (hcd : (x == ("__classdict__" : Str)) = false := by decide) : AB X K E κ env [.Return (some (.Name x p)) pos] mE := by
  subst eE
  exact ⟨hK, fun B F H σ Dn G sr gs hG => by
    obtain ⟨ft, hf⟩ := sr.own
    obtain ⟨p, h1, h2, h3, h4⟩ := hf.ow i none d fs hi
    refine ⟨_, pss_one (ps_ret (pe_var hN hv hd hcd)), _, h1, gs.rt d s hG _ F H σ (Ex.refl F) (sr.wk ((Wk.un env i).trans hw)) ?_⟩
    unfold rR
    rw [hn]
    refine ⟨p, ft i, rfl, h2, h3, fun ft' hf' a ha z => ?_⟩
    obtain ⟨j, t, d2, f2, g1, g2⟩ := z
    have g3 := hw.at g1 fun z => nomatch z
    have hij : i ≠ j := fun z => by
      subst z
      rcases fget_eq env (i := i) .un with z | z <;> (rw [z] at g3; cases g3)
    rw [fget_ne _ _ hij] at g3
    obtain ⟨q, q1, q2, _⟩ := hf.ow j t d2 f2 g3
    obtain ⟨q', r1, r2, _⟩ := hf'.ow j t d2 f2 g1
    rw [q1] at r1
    cases r1
    rw [← foot_same q2 (Ex.refl _) r2] at g2
    exact hf.dis i j none t d d2 fs f2 hij hi g3 a ha g2⟩
/-! ### one statement, then the rest -/
theorem ab_pass {m : R β ω} (hr : AB X K E κ env rest m) : AB X K E κ env (.Pass pos :: rest) m :=
  ⟨hr.1, fun B F H σ Dn G sr gs hG => ⟨_, pss_cons ps_pass ps_C, hr.2 B F H σ Dn G sr gs hG⟩⟩
theorem ab_doc {m : R β ω} {x j p2} (hr : AB X K E κ env rest m) : AB X K E κ env (.Expr (.Constant (.str x) j pos) p2 :: rest) m :=
  ⟨hr.1, fun B F H σ Dn G sr gs hG => ⟨_, pss_cons ps_doc ps_C, hr.2 B F H σ Dn G sr gs hG⟩⟩
theorem ab_expr {e : Expr} {c : (D → R β ω) → R β ω} {m : R β ω} (xb : β) (he : AE X K E (κ.fx xb) xb env e c) (hx : Wk env (κ.fx xb)) (hr : AB X K E κ env rest m) (hs : swapsWith e none pos.line X.env = pure false := by rfl) : AB X K E κ env (.Expr e pos :: rest) (c fun _ => m) :=
  ⟨hr.1, fun B F H σ Dn G sr gs hG => ⟨_, pss_cons (ps_expr pe_C hs) ps_C, he.2 B F H σ _ _ G sr hx (gs.gx xb) (fun d v F1 H1 h1 e1 eh1 s1 d1 => hr.2 B F1 H1 σ Dn G s1 (gs.mono e1) h1) hG⟩⟩
theorem ab_set {e : Expr} {c : (D → R β ω) → R β ω} {m : D → R β ω} (i : Nat) {x : Str} {p2 : Pos} (xb : β) (he : AE X K E (κ.fx xb) xb env e c) (hx : Wk env (κ.fx xb)) (hr : ∀ d, AB X K E κ (fput env i (.fz d)) rest (m d)) (hN : X.N.Nodup) (hl : Loc X.env.scope x) (hi : X.N[i]? = some x := by rfl)
    (hs : swapsWith e (some (.Name x p2)) pos.line X.env = pure false := by rfl) (hf : X.fn x = true ∨ X.env.scope.names.lookup x = some .local := by first | exact .inl rfl | exact .inr rfl | assumption) : AB X K E κ env (.Assign [.Name x p2] e pos :: rest) (c fun d => m d) :=
  ⟨he.1, fun B F H σ Dn G sr gs hG => ⟨_, pss_cons (ps_set hN hi hl pe_C hs hf) ps_C, he.2 B F H σ _ _ G sr hx (gs.gx xb) (fun d v F1 H1 h1 e1 eh1 s1 d1 => (hr d).2 B F1 H1 _ Dn G (s1.setF d1) (gs.mono e1) h1) hG⟩⟩
theorem ab_setO {e : Expr} {c : (D → R β ω) → R β ω} {m : D → R β ω} {fs : List Str} (i : Nat) {x : Str} {p2 : Pos} (xb : β) (he : AN X K E (κ.fx xb) xb env fs e c) (hx : Wk env (κ.fx xb)) (hr : ∀ d, AB X K E κ (fput env i (.ow none d fs)) rest (m d)) (hN : X.N.Nodup) (hl : Loc X.env.scope x) (hi : X.N[i]? = some x := by rfl)
    (hs : swapsWith e (some (.Name x p2)) pos.line X.env = pure false := by rfl) (hf : X.fn x = true ∨ X.env.scope.names.lookup x = some .local := by first | exact .inl rfl | exact .inr rfl | assumption) : AB X K E κ env (.Assign [.Name x p2] e pos :: rest) (c fun d => m d) :=
  ⟨he.1, fun B F H σ Dn G sr gs hG => ⟨_, pss_cons (ps_set hN hi hl pe_C hs hf) ps_C, he.2 B F H σ _ _ G sr hx (gs.gx xb) (fun d v F1 H1 h1 e1 eh1 s1 d1 => (hr d).2 B F1 H1 _ Dn G (s1.setO d1) (gs.mono e1) h1) hG⟩⟩
/-- a slot's own thing stands still from now on -/
theorem ab_frz (i : Nat) {t : Option Nat} {d : D} {fs : List Str} {st : List Stmt} {m : R β ω} (hi : fget env i = .ow t d fs) (hr : AB X K E κ (fput env i (.fz d)) st m) : AB X K E κ env st m :=
  ⟨hr.1, fun B F H σ Dn G sr gs hG => by
    obtain ⟨v, F1, e1, h1, h2, s1⟩ := sr.frz hi
    exact hr.2 B F1 H σ Dn G s1 (gs.mono e1) hG⟩
/-- less is known -/
theorem ab_wk {env' : Fm} {st : List Stmt} {m : R β ω} (hw : Wk env env') (hr : AB X K E κ env' st m) : AB X K E κ env st m :=
  ⟨hr.1, fun B F H σ Dn G sr gs hG => hr.2 B F H σ Dn G (sr.wk hw) gs hG⟩
/-! ### if -/
def Kt.join (κ : Kt β ω) (S : Type) (f : S → Fm) (k : S → R β ω) : Kt β ω := { κ with Sn := S, fn := f, kn := k }
def Kt.stop (κ : Kt β ω) : Kt β ω := { κ with Sn := Empty, fn := fun z => z.elim, kn := fun z => z.elim }
theorem Gs.join {B : Bs} {F : Hp} {Dn : Ends} {G : R β ω → Prop} {S : Type} {f : S → Fm} {k : S → R β ω} (gs : Gs K B E κ F Dn G) (hr : ∀ s, AB X K E κ (f s) rest (k s)) : Gs K B E (κ.join S f k) F { Dn with nx := tsC X rest Dn } G :=
  ⟨gs.no, gs.ex, fun s hs F' H' σ' e1 s1 => (hr s).2 B F' H' σ' Dn G s1 (gs.mono e1) hs, gs.bk, gs.ct, gs.rt⟩
theorem Gs.stop {B : Bs} {F : Hp} {Dn : Ends} {G : R β ω → Prop} {N : L2.St → Hp → Prop} (gs : Gs K B E κ F Dn G) : Gs K B E κ.stop F ({ Dn with nx := N } : Ends) G :=
  ⟨gs.no, gs.ex, fun s => s.elim, gs.bk, gs.ct, gs.rt⟩
theorem ab_if {c : Expr} {a b : List Stmt} {ct : (Bool → R β ω) → R β ω} {S : Type} (f : S → Fm) {ma mb : (S → R β ω) → R β ω} {k : S → R β ω} (xb : β) (hc : AT X K E (κ.fx xb) xb env c ct) (hx : Wk env (κ.fx xb))
    (ha : ∀ k, AB X K E (κ.join S f k) env a (ma k)) (hb : ∀ k, AB X K E (κ.join S f k) env b (mb k)) (hr : ∀ s, AB X K E κ (f s) rest (k s)) : AB X K E κ env (.If c a b pos :: rest) (R.join k fun k => ct fun x => if x then ma k else mb k) :=
  ⟨hc.1, fun B F H σ Dn G sr gs hG => ⟨_, pss_cons (ps_if pt_C ps_C ps_C) ps_C, hc.2 B F H σ _ _ G sr hx (gs.gx xb) (fun d v F1 H1 h1 e1 eh1 s1 d1 => by
    subst d1
    cases v with
    | true => exact iteT ((ha k).2 B F1 H1 σ _ G s1 ((gs.join hr).mono e1) h1)
    | false => exact iteF ((hb k).2 B F1 H1 σ _ G s1 ((gs.join hr).mono e1) h1)) hG⟩⟩
/-- the first branch goes away -/
theorem ab_ifT {c : Expr} {a : List Stmt} {ct : (Bool → R β ω) → R β ω} {ma mb : R β ω} (xb : β) (hc : AT X K E (κ.fx xb) xb env c ct) (hx : Wk env (κ.fx xb)) (ha : AB X K E κ.stop env a ma) (hb : AB X K E κ env rest mb) : AB X K E κ env (.If c a [] pos :: rest) (ct fun x => if x then ma else mb) :=
  ⟨hc.1, fun B F H σ Dn G sr gs hG => ⟨_, pss_cons (ps_if pt_C ps_C pss_nil) ps_C, hc.2 B F H σ _ _ G sr hx (gs.gx xb) (fun d v F1 H1 h1 e1 eh1 s1 d1 => by
    subst d1
    cases v with
    | true => exact iteT (ha.2 B F1 H1 σ _ G s1 (gs.stop.mono e1) h1)
    | false => exact iteF (hb.2 B F1 H1 σ Dn G s1 (gs.mono e1) h1)) hG⟩⟩
/-- an if that ends the block -/
theorem ab_ifL {c : Expr} {a b : List Stmt} {ct : (Bool → R β ω) → R β ω} {ma mb : R β ω} (xb : β) (hc : AT X K E (κ.fx xb) xb env c ct) (hx : Wk env (κ.fx xb)) (ha : AB X K E κ env a ma) (hb : AB X K E κ env b mb) : AB X K E κ env [.If c a b pos] (ct fun x => if x then ma else mb) :=
  ⟨hc.1, fun B F H σ Dn G sr gs hG => ⟨_, pss_one (ps_if pt_C ps_C ps_C), hc.2 B F H σ _ _ G sr hx (gs.gx xb) (fun d v F1 H1 h1 e1 eh1 s1 d1 => by
    subst d1
    cases v with
    | true => exact iteT (ha.2 B F1 H1 σ _ G s1 (gs.mono e1) h1)
    | false => exact iteF (hb.2 B F1 H1 σ Dn G s1 (gs.mono e1) h1)) hG⟩⟩

/-! ### targets -/
def AG (X : Cx) (K : PySem.W.Frag) {β ω : Type} (own : List Nat) (env : Fm) (tg : Expr) (d : D) (Y : Fm → R β ω → Prop) (m : R β ω) : Prop := X.K = K ∧ ∀ B F H σ v P (G : R β ω → Prop), SR K B F H σ env → Dr K F v d → ¬ G R.no → G m →
  (∀ env' m' σ', Y env' m' → SR K B F H σ' env' → σ'.length = σ.length → (∀ i : Nat, i ∉ own → σ'[i]? = σ[i]?) → G m' → P σ' H) → tgC X tg v σ H P
def AGs (X : Cx) (K : PySem.W.Frag) {β ω : Type} (own : List Nat) (env : Fm) (tg : List Expr) (ds : List D) (Y : Fm → R β ω → Prop) (m : R β ω) : Prop := X.K = K ∧ ∀ B F H σ vs P (G : R β ω → Prop), SR K B F H σ env → DrA K F vs ds → ¬ G R.no → G m →
  (∀ env' m' σ', Y env' m' → SR K B F H σ' env' → σ'.length = σ.length → (∀ i : Nat, i ∉ own → σ'[i]? = σ[i]?) → G m' → P σ' H) → tgsC X tg vs σ H P
section
variable {own : List Nat} {d : D} {Y : Fm → R β ω → Prop} {m : R β ω}
theorem ag_name (i : Nat) {x : Str} (hr : Y (fput env i (.fz d)) m) (hN : X.N.Nodup) (hx : Loc X.env.scope x) (hi : X.N[i]? = some x := by rfl) (ho : i ∈ own := by decide) (hK : X.K = K := by rfl) (hf : X.fn x = true ∨ X.env.scope.names.lookup x = some .local := by first | exact .inl rfl | exact .inr rfl | assumption) :
    AG X K own env (.Name x pos) d Y m :=
  ⟨hK, fun B F H σ v P G s hd hn hG hP => ⟨_, pg_name hN hi hx hf, hP _ m _ hr (s.setF hd) List.length_set (fun j hj => List.getElem?_set_ne (fun (z : i = j) => hj (z ▸ ho))) hG⟩⟩
theorem ags_nil (hr : Y env m) (hK : X.K = K := by rfl) : AGs X K own env [] [] Y m :=
  ⟨hK, fun B F H σ vs P G s hd hn hG hP => by
    cases hd
    exact ⟨_, pgs_nil, rfl, hP env m σ hr s rfl (fun _ _ => rfl) hG⟩⟩
theorem ags_cons {e : Expr} {es : List Expr} {ds : List D} (h : AG X K own env e d (fun env' m' => AGs X K own env' es ds Y m') m) (hs : (assignEach (e :: es) X.env).map (·.2) = assign e X.env :: (assignEach es X.env).map (·.2) := by rfl) : AGs X K own env (e :: es) (d :: ds) Y m :=
  ⟨h.1, fun B F H σ vs P G s hd hn hG hP => by
    cases hd with
    | cons h1 h2 =>
      refine ⟨_, pgs_cons pg_C pgs_C hs, _, _, rfl, h.2 B F H σ _ _ G s h1 hn hG fun env' m' σ' hy s' hl hk hG' => ?_⟩
      exact hy.2 B F H σ' _ P G s' h2 hn hG' fun env2 m2 σ2 hy2 s2 hl2 hk2 hG2 => hP env2 m2 σ2 hy2 s2 (hl2.trans hl) (fun i hi => (hk2 i hi).trans (hk i hi)) hG2⟩
theorem ag_tupN {es : List Expr} {k : Nat} {xs : List D} (hc : X.calm = true) (h : AGs X K own env es xs Y m) (hn : (assignEach es X.env).length = xs.length) (hst : (assignEach es X.env).findIdx? (·.1) = none) : AG X K own env (.Tuple es k pos) (.tup xs) Y m :=
  ⟨h.1, fun B F H σ v P G s hd hno hG hP => by
    have hK := h.1
    subst hK
    cases hd with
    | tup h3 h4 => exact ⟨_, pg_tup hc pgs_C hn hst, _, _, rfl, s.ex.st h3.sq, h4.length, h.2 B F H σ _ P G s h4 hno hG hP⟩⟩
theorem ag_lstN {es : List Expr} {k : Nat} {xs : List D} (hc : X.calm = true) (h : AGs X K own env es xs Y m) (hn : (assignEach es X.env).length = xs.length) (hst : (assignEach es X.env).findIdx? (·.1) = none) : AG X K own env (.Tuple es k pos) (.lst xs) Y m :=
  ⟨h.1, fun B F H σ v P G s hd hno hG hP => by
    have hK := h.1
    subst hK
    cases hd with
    | lst h3 h4 => exact ⟨_, pg_lst hc pgs_C hn hst, _, _, rfl, .inl (s.ex.rd h3), h4.length, h.2 B F H σ _ P G s h4 hno hG hP⟩⟩
theorem ag_no {tg : Expr} (hK : X.K = K := by rfl) : AG X K own env tg d Y R.no := ⟨hK, fun B F H σ v P G s hd hno hG hP => (hno hG).elim⟩
theorem ag_tup2 {a b : Expr} {k : Nat} {m : D → D → R β ω} (hc : X.calm = true) (h : ∀ x y, AGs X K own env [a, b] [x, y] Y (m x y)) (hn : (assignEach [a, b] X.env).length = 2 := by rfl) (hst : (assignEach [a, b] X.env).findIdx? (·.1) = none := by rfl) : AG X K own env (.Tuple [a, b] k pos) d Y (R.tup2 d m) := by
  unfold R.tup2
  split
  · exact ag_tupN hc (h _ _) hn hst
  · exact ag_lstN hc (h _ _) hn hst
  · exact ag_no (h .non .non).1
theorem ag_tup3 {a b c : Expr} {k : Nat} {m : D → D → D → R β ω} (hc : X.calm = true) (h : ∀ x y z, AGs X K own env [a, b, c] [x, y, z] Y (m x y z)) (hn : (assignEach [a, b, c] X.env).length = 3 := by rfl) (hst : (assignEach [a, b, c] X.env).findIdx? (·.1) = none := by rfl) : AG X K own env (.Tuple [a, b, c] k pos) d Y (R.tup3 d m) := by
  unfold R.tup3
  split
  · exact ag_tupN hc (h _ _ _) hn hst
  · exact ag_lstN hc (h _ _ _) hn hst
  · exact ag_no (h .non .non .non).1
theorem ag_tup5 {a b c e f : Expr} {k : Nat} {m : D → D → D → D → D → R β ω} (hc : X.calm = true) (h : ∀ x y z u v, AGs X K own env [a, b, c, e, f] [x, y, z, u, v] Y (m x y z u v)) (hn : (assignEach [a, b, c, e, f] X.env).length = 5 := by rfl) (hst : (assignEach [a, b, c, e, f] X.env).findIdx? (·.1) = none := by rfl) : AG X K own env (.Tuple [a, b, c, e, f] k pos) d Y (R.tup5 d m) := by
  unfold R.tup5
  split
  · exact ag_tupN hc (h _ _ _ _ _) hn hst
  · exact ag_lstN hc (h _ _ _ _ _) hn hst
  · exact ag_no (h .non .non .non .non .non).1
end
/-- a target, then the rest -/
theorem ab_asg {tg e : Expr} {own : List Nat} {c : (D → R β ω) → R β ω} {m : D → R β ω} (xb : β) (he : AE X K E (κ.fx xb) xb env e c) (hx : Wk env (κ.fx xb)) (hg : ∀ d, AG X K own env tg d (fun env' m' => AB X K E κ env' rest m') (m d))
    (hs : swapsWithSole [tg] e pos.line X.env = pure false := by rfl) (hw : swappedStores [tg] e X.env = pure none := by rfl) (h1 : (assignEach [tg] X.env).map (·.2) = [assign tg X.env] := by rfl) : AB X K E κ env (.Assign [tg] e pos :: rest) (c fun d => m d) :=
  ⟨he.1, fun B F H σ Dn G sr gs hG => ⟨_, pss_cons (ps_asg pe_C pg_C hs hw h1) ps_C, he.2 B F H σ _ _ G sr hx (gs.gx xb) (fun d v F1 H1 h1 e1 eh1 s1 d1 => (hg d).2 B F1 H1 σ v _ G s1 d1 gs.no h1 fun env' m' σ' hy s' _ _ hG' => hy.2 B F1 H1 σ' Dn G s' (gs.mono e1) hG') hG⟩⟩
/-- x, y = a, b -/
theorem ab_par {x y : Str} {a b : Expr} {cs : (List D → R β ω) → R β ω} {px py pt pt2 : Pos} {kt k2 : Nat} {m : D → D → R β ω} (i j : Nat) (xb : β) (ha : AA X K E (κ.fx xb) xb env [a, b] cs) (hx : Wk env (κ.fx xb)) (hr : ∀ u v, AB X K E κ (fput (fput env i (.fz u)) j (.fz v)) rest (m u v)) (hc : X.calm = true) (hN : X.N.Nodup)
    (hlx : X.env.scope.names.lookup x = some .local := by rfl) (hly : X.env.scope.names.lookup y = some .local := by rfl) (hij : i ≠ j := by decide) (hi : X.N[i]? = some x := by rfl) (hj : X.N[j]? = some y := by rfl)
    (hw : swappedStores [.Tuple [.Name x px, .Name y py] kt pt] (.Tuple [a, b] k2 pt2) X.env = pure (some [x, y]) := by rfl) (hs : swapsWithSole [.Tuple [.Name x px, .Name y py] kt pt] (.Tuple [a, b] k2 pt2) pos.line X.env = pure false := by rfl) :
    AB X K E κ env (.Assign [.Tuple [.Name x px, .Name y py] kt pt] (.Tuple [a, b] k2 pt2) pos :: rest) (cs fun ds => match ds with | [u, v] => m u v | _ => R.no) :=
  ⟨ha.1, fun B F H σ Dn G sr gs hG => ⟨_, pss_cons (ps_par hc hN hi hj hij hlx hly pa_C hw hs) ps_C, ha.2 B F H σ _ _ G sr hx (gs.gx xb) (fun ds vs F1 H1 h1 e1 eh1 s1 d1 => by
    match ds, d1, h1 with
    | [u, v], .cons g1 (.cons g2 .nil), h1 => exact ⟨_, _, rfl, (hr u v).2 B F1 H1 _ Dn G ((s1.setF g1).setF g2) (gs.mono e1) h1⟩
    | [], _, h1 => exact (gs.no h1).elim
    | [_], _, h1 => exact (gs.no h1).elim
    | _ :: _ :: _ :: _, _, h1 => exact (gs.no h1).elim) hG⟩⟩

/-! ### what is walked -/
def rI (K : PySem.W.Frag) (F : Hp) (J : It) (ds : List D) : Prop := ∀ F1 H1, Ex F F1 → Ex F1 H1 → (∀ i, i < ds.length → J.go i H1) ∧ (∀ i, ds.length ≤ i → J.stop i H1) ∧
  ∀ i x H2 d, ds[i]? = some d → J.yld i H1 x H2 → (Dr K F1 x d ∧ H2 = H1) ∨ ∃ p o, H1 p = none ∧ H2 = upd H1 p o ∧ Dr K (upd F1 p o) x d
def AI (X : Cx) (K : PySem.W.Frag) (E : XE) {β γ : Type} (xF : Fm) (xb : β) (env : Fm) (tg iter : Expr) (c : (List D → R β γ) → R β γ) : Prop := X.K = K ∧ AJ K E xF xb env (tiC X tg iter) (fun _ F _ _ J ds => rI K F J ds) c
def Kt.loop (κ : Kt β ω) (S : Type) (f : S → Fm) : Kt β (Step S) where
  fx := κ.fx
  Sn := S
  fn := f
  kn := fun s => .ok (.nx s)
  Sb := S
  fb := f
  kb := fun s => .ok (.bk s)
  Sc := S
  fc := f
  kc := fun s => .ok (.nx s)
  Sr := S
  fr := f
  kr := fun d s => .ok (.rt d s)
  nw := κ.nw
theorem ab_for {mE : R β ω} {tg iter : Expr} {body : List Stmt} {own : List Nat} {S : Type} (f : S → Fm) (s0 : S) (r : S → κ.Sr) {ci : (List D → R β ω) → R β ω} {mb : D → S → R β (Step S)} {k : S → R β ω} (xb : β) (hi : AI X K E (κ.fx xb) xb env tg iter ci) (hx : Wk env (κ.fx xb)) (h0 : Wk env (f s0)) (hrr : ∀ s, Wk (f s) (κ.fr (r s)))
    (hb : ∀ s d, AG X K own (f s) tg d (fun env' m' => AB X K E (κ.loop S f) env' body m') (mb d s)) (hr : ∀ s, AB X K E κ (f s) rest (k s)) (hnw : κ.nw = none) (hp : PassesOwn (model X.prog X.w) X.A X.env X.xe) (hc : X.calm = true) (eE : (ci fun ds => R.after (R.for' ds s0 mb) k fun d s => κ.kr d (r s)) = mE) (hs : ∀ x, foldedSetIterable iter X.env x = pure x := by intro _; rfl) :
    AB X K E κ env (.For tg iter body [] pos :: rest) mE := by
  subst eE
  refine ⟨hi.1, fun B F H σ Dn G sr gs hG => ⟨_, pss_cons (ps_for hp hc pi_C pg_C ps_C hs) ps_C, hi.2 B F H σ _ _ G sr hx (gs.gx xb) (fun ds J F1 H1 h1 e1 eh1 s1 r1 => ?_) hG⟩⟩
  refine ⟨fun i m σ' H' => ∃ F' s, m = ds.length - i ∧ i ≤ ds.length ∧ Ex F1 F' ∧ SR K B F' H' σ' (f s) ∧ G (R.after (R.for' (ds.drop i) s mb) k fun d s => κ.kr d (r s)),
    ⟨ds.length, F1, s0, by simp, Nat.zero_le _, Ex.refl F1, s1.wk h0, by simpa using h1⟩, ?_⟩
  rintro i m σ' H' ⟨F', s, rfl, hi', e', s', hp'⟩
  by_cases hlt : i < ds.length
  · right
    have hd : ds[i]? = some ds[i] := List.getElem?_eq_getElem hlt
    have hdrop : ds.drop i = ds[i] :: ds.drop (i + 1) := List.drop_eq_getElem_cons hlt
    rw [hdrop] at hp'
    obtain ⟨jgo, _, jy⟩ := r1 F' H' e' s'.ex
    refine ⟨jgo i hlt, fun σ'' H'' => ∃ F'' s'', Ex F1 F'' ∧ SR K B F'' H'' σ'' (f s'') ∧ G (R.after (R.for' (ds.drop (i + 1)) s'' mb) k fun d s => κ.kr d (r s)), ?_, ?_⟩
    · rintro σ'' H'' ⟨F'', s'', a1, a2, a3⟩
      exact ⟨ds.length - (i + 1), by omega, F'', s'', rfl, hlt, a1, a2, a3⟩
    · intro x H2 hy
      have key : ∃ F2, Ex F' F2 ∧ SR K B F2 H2 σ' (f s) ∧ Dr K F2 x ds[i] := by
        rcases jy i x H2 ds[i] hd hy with ⟨hx, rfl⟩ | ⟨p, o, hp0, rfl, hx⟩
        · exact ⟨F', Ex.refl F', s', hx⟩
        · exact ⟨upd F' p o, Ex.new (s'.ex.none hp0), s'.grow hp0, hx⟩
      obtain ⟨F2, e2, s2, hx2⟩ := key
      refine (hb s ds[i]).2 B F2 H2 σ' x _ (fun m => G (R.after (R.turn m fun s' => R.for' (ds.drop (i + 1)) s' mb) k fun d s => κ.kr d (r s))) s2 hx2 gs.no hp' fun env' m' σ2 hy2 s3 _ _ hG3 => ?_
      have e12 := e1.trans (e'.trans e2)
      refine hy2.2 B F2 H2 σ2 _ (fun m => G (R.after (R.turn m fun s' => R.for' (ds.drop (i + 1)) s' mb) k fun d s => κ.kr d (r s))) s3 ⟨gs.no, fun x b hx c dd F3 H3 σ3 e3 s4 x4 => gs.ex x b hx c dd F3 H3 σ3 (e12.trans e3) s4 x4, fun s4 hs4 F3 H3 σ3 e3 s5 => ⟨F3, s4, e'.trans (e2.trans e3), s5, hs4⟩, fun s4 hs4 F3 H3 σ3 e3 s5 => ?_, fun s4 hs4 F3 H3 σ3 e3 s5 => ⟨F3, s4, e'.trans (e2.trans e3), s5, hs4⟩, fun d s4 hs4 v F3 H3 σ3 e3 s5 d5 => ?_⟩ hG3
      · exact (hr s4).2 B F3 H3 σ3 Dn G s5 (gs.mono (e12.trans e3)) hs4
      · refine gs.rt d (r s4) hs4 v F3 H3 σ3 (e12.trans e3) (s5.wk (hrr s4)) ?_
        unfold rR at d5 ⊢
        rw [show (κ.loop S f).nw = none from hnw] at d5
        rw [hnw]
        exact d5
  · left
    have hie : i = ds.length := by omega
    subst hie
    rw [List.drop_length] at hp'
    obtain ⟨_, jstop, _⟩ := r1 F' H' e' s'.ex
    exact ⟨jstop _ (Nat.le_refl _), (hr s).2 B F' H' σ' Dn G s' (gs.mono (e1.trans e')) hp'⟩
/-- while -/
theorem ab_while {mE : R β ω} {c : Expr} {body : List Stmt} {S : Type} (f : S → Fm) (s0 : S) (r : S → κ.Sr) {ct : S → (Bool → R β (Step S)) → R β (Step S)} {mb : S → R β (Step S)} {k : S → R β ω} (xb : S → β) (h0 : Wk env (f s0)) (hx : ∀ s, Wk (f s) (κ.fx (xb s))) (hrr : ∀ s, Wk (f s) (κ.fr (r s)))
    (hc : ∀ s, AT X K E (κ.fx (xb s)) (xb s) (f s) c (ct s)) (hb : ∀ s, AB X K E (κ.loop S f) (f s) body (mb s)) (hr : ∀ s, AB X K E κ (f s) rest (k s)) (hnw : κ.nw = none) (hp : PassesOwn (model X.prog X.w) X.A X.env X.xe) (eE : (R.after (R.whl (fun s => ct s fun b => if b then mb s else R.ok (.bk s)) s0) k fun d s => κ.kr d (r s)) = mE) :
    AB X K E κ env (.While c body [] pos :: rest) mE := by
  subst eE
  refine ⟨(hr s0).1, fun B F H σ Dn G sr gs hG => ⟨_, pss_cons (ps_while hp pt_C ps_C) ps_C, ?_⟩⟩
  have hne : R.whl (fun s => ct s fun b => if b then mb s else R.ok (.bk s)) s0 ≠ .no := fun z => by rw [z] at hG; exact gs.no hG
  obtain ⟨n, hn1, hn2⟩ := R.whl_some hne
  rw [hn1] at hG
  refine ⟨fun m σ' H' => ∃ F' s, Ex F F' ∧ SR K B F' H' σ' (f s) ∧ G (R.after (R.whlN (fun s => ct s fun b => if b then mb s else R.ok (.bk s)) m s) k fun d s => κ.kr d (r s)), ⟨n, F, s0, Ex.refl F, sr.wk h0, hG⟩, ?_⟩
  rintro m σ' H' ⟨F', s, e', s', hp'⟩
  cases m with
  | zero => exact (gs.no hp').elim
  | succ m =>
    refine (hc s).2 B F' H' σ' _ _ (fun q => G (R.after (R.turn q fun s' => R.whlN (fun s => ct s fun b => if b then mb s else R.ok (.bk s)) m s') k fun d s => κ.kr d (r s))) s' (hx s) ⟨gs.no, fun x hx c dd F3 H3 e3 s4 x4 => gs.ex x (xb s) hx c dd F3 H3 σ' (e'.trans e3) s4 x4⟩ (fun d v F1 H1 h1 e1 eh1 s1 d1 => ?_) hp'
    subst d1
    have e12 := e'.trans e1
    cases v with
    | false => exact iteF ((hr s).2 B F1 H1 σ' Dn G s1 (gs.mono e12) h1)
    | true =>
      refine iteT ⟨fun σ'' H'' => ∃ F'' s'', Ex F F'' ∧ SR K B F'' H'' σ'' (f s'') ∧ G (R.after (R.whlN (fun s => ct s fun b => if b then mb s else R.ok (.bk s)) m s'') k fun d s => κ.kr d (r s)), fun σ'' H'' ⟨F'', s'', a1, a2, a3⟩ => ⟨m, by omega, F'', s'', a1, a2, a3⟩, ?_⟩
      refine (hb s).2 B F1 H1 σ' _ (fun q => G (R.after (R.turn q fun s' => R.whlN (fun s => ct s fun b => if b then mb s else R.ok (.bk s)) m s') k fun d s => κ.kr d (r s))) s1 ⟨gs.no, fun x b hx c dd F3 H3 σ3 e3 s4 x4 => gs.ex x b hx c dd F3 H3 σ3 (e12.trans e3) s4 x4, fun s4 hs4 F3 H3 σ3 e3 s5 => ⟨F3, s4, e12.trans e3, s5, hs4⟩, fun s4 hs4 F3 H3 σ3 e3 s5 => ?_, fun s4 hs4 F3 H3 σ3 e3 s5 => ⟨F3, s4, e12.trans e3, s5, hs4⟩, fun d s4 hs4 v F3 H3 σ3 e3 s5 d5 => ?_⟩ h1
      · exact (hr s4).2 B F3 H3 σ3 Dn G s5 (gs.mono (e12.trans e3)) hs4
      · refine gs.rt d (r s4) hs4 v F3 H3 σ3 (e12.trans e3) (s5.wk (hrr s4)) ?_
        unfold rR at d5 ⊢
        rw [show (κ.loop S f).nw = none from hnw] at d5
        rw [hnw]
        exact d5
end
end DM

/-! What is walked; comprehensions. -/
namespace DM
open PySem PySem.Spec PyProof.Rows L2 DL
def chars (z : Str) : List D := z.cps.toList.map fun c => .str ⟨#[c]⟩
def rngD (lo : Int) (n : Nat) : List D := (List.range n).map fun i => .int (lo + (i : Nat))
def enumD (ds : List D) : List D := (List.range ds.length).zipWith (fun i d => .tup [.int (i : Nat), d]) ds
namespace R
variable {β γ : Type}
/-- the items of a list, a tuple, a text -/
def items (d : D) (k : List D → R β γ) : R β γ := match d with
  | .tup ds => k ds
  | .lst ds => k ds
  | .str z => k (chars z)
  | _ => .no
def rng1 (d : D) (k : List D → R β γ) : R β γ := match d with
  | .int j => if -(2 ^ 62) ≤ j ∧ j < 2 ^ 62 then k (rngD 0 j.toNat) else .no
  | _ => .no
def rng2 (d e : D) (k : List D → R β γ) : R β γ := match d, e with
  | .int i, .int j => if -(2 ^ 62) ≤ i ∧ i < 2 ^ 62 ∧ -(2 ^ 62) ≤ j ∧ j < 2 ^ 62 then k (rngD i (j - i).toNat) else .no
  | _, _ => .no
def enum (d : D) (k : List D → R β γ) : R β γ := match d with
  | .lst ds => k (enumD ds)
  | _ => .no
/-- [f d for d in ds] -/
def map (f : D → R Unit D) : List D → R Unit (List D)
  | [] => .ok []
  | d :: ds => match f d with
    | .ok y => match map f ds with
      | .ok ys => .ok (y :: ys)
      | _ => .no
    | _ => .no
/-- [.. for d in ds if ..]: none: left out -/
def fmap (f : D → R Unit (Option D)) : List D → R Unit (List D)
  | [] => .ok []
  | d :: ds => match f d with
    | .ok y => match fmap f ds with
      | .ok ys => .ok (match y with
        | some y => y :: ys
        | none => ys)
      | _ => .no
    | _ => .no
/-- .. where the items change a thing -/
def fmapS {S : Type} (f : D → S → R Unit (Option D × S)) : List D → S → R Unit (List D × S)
  | [], s => .ok ([], s)
  | d :: ds, s => match f d s with
    | .ok (y, s1) => match fmapS f ds s1 with
      | .ok (ys, s2) => .ok (match y with
        | some y => y :: ys
        | none => ys, s2)
      | _ => .no
    | _ => .no
end R
section
variable {X : Cx} {K : PySem.W.Frag} {E : XE} {β γ : Type} {xF : Fm} {xb : β} {env : Fm} {tg e a b : Expr} {pos p : Pos} {c1 c2 : (D → R β γ) → R β γ}
theorem rI_lst {F : Hp} {q : Addr} {xs : List V} {ds : List D} (h1 : Rd F q (.lst xs)) (h2 : DrA K F xs ds) : rI K F (Itl K q) ds := by
  intro F2 H2 e2 e3
  have hqq : SqL K _ _ _ := .inl ((e2.trans e3).rd h1)
  refine ⟨fun i hi => ?_, fun i hi => ⟨_, hqq, by rw [h2.length]; exact hi⟩, fun i x H2 d hd hy => Or.inl ?_⟩
  · obtain ⟨v, e, _⟩ := h2.get (List.getElem?_eq_getElem hi)
    exact ⟨_, v, hqq, e⟩
  · obtain ⟨v, e, hv⟩ := h2.get hd
    have ex := hy.2 _ hqq
    rw [e] at ex
    cases ex
    exact ⟨hv.mono e2, hy.1⟩
/-- what is walked, by its value -/
def IterR (X : Cx) (tg : Expr) (r : V → Hp → (It → Hp → Prop) → Prop) : Prop := ∀ (pins : List (Addr × Obj)) (s : Shared) (σ : L2.St) (H : Hp) (v : V) (u : Value) (R : It → Hp → Prop), Inv X pins σ H s → RelV v u → r v H R → wpAny (model X.prog X.w) X.A (pyIter u) (PIE X pins σ tg R) X.xe s
theorem pi_by {te : TE} {r : V → Hp → (It → Hp → Prop) → Prop} (he : PE X e te) (hr : IterR X tg r) : PI X tg e (fun σ H R => te σ H fun v H1 => r v H1 R) :=
  ⟨fun pins s σ H R I h => thn (he.run pins s σ H _ I h) fun v s1 ⟨x, H1, I1, r1, q1⟩ => hr pins s1 σ H1 x v R I1 r1 q1⟩
theorem itR_list : IterR X tg (fun x H1 R => ∃ a, x = .ref a ∧ (∃ xs, SqL X.K H1 a xs) ∧ R (Itl X.K a) H1) := by
  intro pins s1 σ H1 v u R I1 r1 q1
  obtain ⟨a, e, ⟨xs, hq⟩, q⟩ := q1
  subst e
  cases r1
  obtain ⟨its, rv, p, hz⟩ := I1.list hq
  refine wpAny_pyIter_list p.isList ?_
  refine ⟨s1.heap.objs.size, [s1.heap.objs.size], _, _, H1, rfl, I1.kept (t' := s1.toks) fun b o e => Heap.get?_push_of_some _ e, turn_list a _, ⟨_, Heap.get?_push_size _ rfl, rfl, rfl⟩, fun b hb => ?_, q⟩
  have e : b = s1.heap.objs.size := by simpa using hb
  subst e
  exact I1.fpOk (Nat.le_refl _) (I1.hok.fresh (Nat.le_refl _))
theorem itR_tup : IterR X tg (fun x H1 R => ∃ a, x = .ref a ∧ (∃ xs, SqT X.K H1 a xs) ∧ R (Itt X.K a) H1) := by
  intro pins s1 σ H1 v u R I1 r1 q1
  obtain ⟨a, e, ⟨xs, hq⟩, q⟩ := q1
  subst e
  cases r1
  obtain ⟨its, rv, p, hz⟩ := I1.tuple hq
  refine wpAny_pyIter_tuple (show s1.heap.IsTuple a its.toArray from p) ?_
  refine ⟨s1.heap.objs.size, [s1.heap.objs.size], _, _, H1, rfl, I1.kept (t' := s1.toks) fun b o e => Heap.get?_push_of_some _ e, turn_tuple a _, ⟨_, Heap.get?_push_size _ rfl, rfl, rfl⟩, fun b hb => ?_, q⟩
  have e : b = s1.heap.objs.size := by simpa using hb
  subst e
  exact I1.fpOk (Nat.le_refl _) (I1.hok.fresh (Nat.le_refl _))
theorem itR_str : IterR X tg (fun v H1 R => ∃ x, v = .str x ∧ R (Its x) H1) := by
  intro pins s1 σ H1 v u R I1 r1 q1
  obtain ⟨x, ex, q⟩ := q1
  subst ex
  obtain ⟨t, rfl⟩ := r1
  cases ha : x.cps.all (· < 128)
  · exact wpAny_pyIter_wide ha (pi_one (tk := s1.toks) I1 _ (turn_str _ x t "str_iterator" (.inr rfl)) ⟨_, Heap.get?_push_size _ rfl, rfl, rfl⟩ q)
  · exact wpAny_pyIter_ascii ha (pi_one (tk := s1.toks) I1 _ (turn_str _ x t "str_ascii_iterator" (.inl rfl)) ⟨_, Heap.get?_push_size _ rfl, rfl, rfl⟩ q)
theorem IterR.or {r r' : V → Hp → (It → Hp → Prop) → Prop} (h : IterR X tg r) (h' : IterR X tg r') : IterR X tg (fun v H R => r v H R ∨ r' v H R) := fun pins s σ H v u R I rv q => q.elim (h pins s σ H v u R I rv) (h' pins s σ H v u R I rv)
theorem rI_tup {F : Hp} {q : Addr} {xs : List V} {ds : List D} (h2 : SqT K F q xs) (h3 : DrA K F xs ds) : rI K F (Itt K q) ds := by
  intro F2 H2 e2 e3
  have hqq := (e2.trans e3).st h2
  refine ⟨fun i hi => ?_, fun i hi => ⟨_, hqq, by rw [h3.length]; exact hi⟩, fun i x H2 d hd hy => Or.inl ?_⟩
  · obtain ⟨v, e, _⟩ := h3.get (List.getElem?_eq_getElem hi)
    exact ⟨_, v, hqq, e⟩
  · obtain ⟨v, e, hv⟩ := h3.get hd
    have ex := hy.2 _ hqq
    rw [e] at ex
    cases ex
    exact ⟨hv.mono e2, hy.1⟩
theorem rI_str {F : Hp} (z : Str) : rI K F (Its z) (chars z) := by
  intro F2 H2 e2 e3
  have hl : (chars z).length = z.cps.size := by unfold chars; rw [List.length_map, Array.length_toList]
  refine ⟨fun i hi => ?_, fun i hi => ?_, fun i x H2 d hd hy => Or.inl ?_⟩
  · rw [hl] at hi; exact hi
  · rw [hl] at hi; exact hi
  · obtain ⟨e4, c, hc, rfl⟩ := hy
    refine ⟨?_, e4⟩
    unfold chars at hd
    rw [List.getElem?_map, Array.getElem?_toList, hc] at hd
    cases hd
    exact .str _
theorem ai_items (h : AE X K E xF xb env e c1) : AI X K E xF xb env tg e (fun (k : List D → R β γ) => c1 fun d => R.items d k) := by
  have hK := h.1
  subst hK
  refine ⟨rfl, fun B F H σ Q k G s w gx hk hG => ⟨_, pi_by pe_C (itR_list.or (itR_tup.or itR_str)), ?_⟩⟩
  refine h.2 B F H σ _ _ G s w gx (fun d v F1 H1 h1 e1 eh1 s1 d1 => ?_) hG
  cases d <;> first | exact (gx.no h1).elim | skip
  · cases d1
    exact .inr (.inr ⟨_, rfl, hk _ _ F1 H1 h1 e1 eh1 s1 (rI_str _)⟩)
  · cases d1 with
    | lst h2 h3 => exact .inl ⟨_, rfl, ⟨_, .inl (s1.ex.rd h2)⟩, hk _ _ F1 H1 h1 e1 eh1 s1 (rI_lst h2 h3)⟩
  · cases d1 with
    | tup h2 h3 => exact .inr (.inl ⟨_, rfl, ⟨_, s1.ex.st h2.sq⟩, hk _ _ F1 H1 h1 e1 eh1 s1 (rI_tup h2.sq h3)⟩)
theorem rI_rng {F : Hp} (lo : Int) (n : Nat) : rI K F (Itr lo n) (rngD lo n) := by
  intro F2 H2 e2 e3
  have hl : (rngD lo n).length = n := by unfold rngD; rw [List.length_map, List.length_range]
  refine ⟨fun i hi => ?_, fun i hi => ?_, fun i x H2 d hd hy => Or.inl ?_⟩
  · rw [hl] at hi; exact hi
  · rw [hl] at hi; exact hi
  · obtain ⟨e4, rfl⟩ := hy
    refine ⟨?_, e4⟩
    unfold rngD at hd
    rw [List.getElem?_map] at hd
    cases q : (List.range n)[i]? with
    | none => rw [q] at hd; cases hd
    | some k =>
      rw [q] at hd
      cases hd
      obtain ⟨h1, h2⟩ := List.getElem?_eq_some_iff.mp q
      rw [List.getElem_range] at h2
      subst h2
      exact .int _
theorem ai_rng1 (hm : X.mg "range" = none) (hg : Gl X "range") (ha : AL X K E xF xb env a c1) (hs : starEach [a] X.env = [(false, eval a X.env)] := by rfl) : AI X K E xF xb env tg (.Call (.Name "range" p) [a] [] pos) (fun (k : List D → R β γ) => c1 fun d => R.rng1 d k) :=
  ⟨ha.1, fun B F H σ Q k G s w gx hk hG => ⟨_, pi_range1 hg hm (pa_cons pe_C pa_nil hs) hs, ha.2 B F H σ _ _ G s w gx (fun d v F1 H1 h1 e1 eh1 s1 d1 => by
    cases d <;> first | exact (gx.no h1).elim | skip
    rename_i j
    have h1 : G (if -(2 ^ 62) ≤ j ∧ j < 2 ^ 62 then k (rngD 0 j.toNat) else .no) := h1
    split at h1
    · rename_i hj
      exact ⟨j, by rw [d1.int], hj.1, hj.2, hk _ _ F1 H1 h1 e1 eh1 s1 (rI_rng 0 j.toNat)⟩
    · exact (gx.no h1).elim) hG⟩⟩
theorem ai_rng2 (hm : X.mg "range" = none) (hg : Gl X "range") (ha : AL X K E xF xb env a c1) (hb : AL X K E xF xb env b c2) (hs : starEach [a, b] X.env = [(false, eval a X.env), (false, eval b X.env)] := by rfl) (hs2 : starEach [b] X.env = [(false, eval b X.env)] := by rfl) : AI X K E xF xb env tg (.Call (.Name "range" p) [a, b] [] pos) (fun (k : List D → R β γ) => c1 fun d => c2 fun e => R.rng2 d e k) :=
  ⟨ha.1, fun B F H σ Q k G s w gx hk hG => ⟨_, pi_range2 hg hm (pa_cons pe_C (pa_cons pe_C pa_nil hs2) (by rw [hs, hs2])) hs hs2, ha.2 B F H σ _ _ G s w gx (fun d v F1 H1 h1 e1 eh1 s1 d1 => hb.2 B F1 H1 σ _ _ G s1 w (gx.mono e1) (fun d' v' F2 H2 h2 e2 eh2 s2 d2 => by
    cases d <;> first | exact (gx.no h2).elim | skip
    cases d' <;> first | exact (gx.no h2).elim | skip
    rename_i i j
    have h2 : G (if -(2 ^ 62) ≤ i ∧ i < 2 ^ 62 ∧ -(2 ^ 62) ≤ j ∧ j < 2 ^ 62 then k (rngD i (j - i).toNat) else .no) := h2
    split at h2
    · rename_i hj
      exact ⟨i, j, by rw [d1.int, d2.int], hj, hk _ _ F2 H2 h2 (e1.trans e2) (eh1.trans eh2) s2 (rI_rng i (j - i).toNat)⟩
    · exact (gx.no h2).elim) h1) hG⟩⟩
theorem enumD_get {ds : List D} {i : Nat} {d : D} (h : (enumD ds)[i]? = some d) : ∃ e, ds[i]? = some e ∧ d = .tup [.int (i : Nat), e] := by
  unfold enumD at h
  rw [List.getElem?_zipWith] at h
  cases q1 : (List.range ds.length)[i]? with
  | none => rw [q1] at h; cases h
  | some k =>
    cases q2 : ds[i]? with
    | none => rw [q1, q2] at h; cases h
    | some e =>
      rw [q1, q2] at h
      cases h
      obtain ⟨_, h2⟩ := List.getElem?_eq_some_iff.mp q1
      rw [List.getElem_range] at h2
      subst h2
      exact ⟨e, rfl, rfl⟩
theorem enumD_length (ds : List D) : (enumD ds).length = ds.length := by
  unfold enumD
  rw [List.length_zipWith, List.length_range, Nat.min_self]
/-- the list at a as it stands at each turn, the items in new pairs that are kept as they are -/
def ItE (K : PySem.W.Frag) (a : Addr) : It where
  go := fun i H => ∃ (xs : List V) (x : V), SqL K H a xs ∧ xs[i]? = some x
  yld := fun i H v H' => ∃ T o x, v = .ref T ∧ H T = none ∧ o.dict = none ∧ H' = upd H T (.frz o (.tup [.int (i : Nat), x])) ∧ ∀ xs, SqL K H a xs → xs[i]? = some x
  stop := fun i H => ∃ xs : List V, SqL K H a xs ∧ xs.length ≤ i
theorem turn_enumZ {P : Program} {w : World} {K : PySem.W.Frag} {elts : List Expr} {kk : Nat} {tpos : Pos} (a e it : Addr) :
    Turn P w K (.Tuple elts kk tpos) (ItE K a) [e, it] e (fun i h => (∃ old, IsEnum h e it ((i : Nat) : Int) old) ∧ h.IsListIter it a i ∧ e ≠ it) := by
  have T0 := turn_enum (P := P) (w := w) (K := K) (elts := elts) (kk := kk) (tpos := tpos) a e it
  refine ⟨T0.mem, T0.obj, T0.keep, ?_, fun X hP hw hK hc i pins s σ H E I hf st hg => T0.done X hP hw hK hc i pins s σ H E I hf st hg, T0.self⟩
  intro X hP hw hK hc i pins s σ H E I hf st hg
  subst hP hw hK
  obtain ⟨⟨old, he⟩, hit, hne⟩ := st
  obtain ⟨xs, x, hq, hx⟩ := hg
  obtain ⟨its, rv, pl, hz⟩ := I.list hq
  obtain ⟨u, hu, ru⟩ := rv.get hx
  have big : ∀ b ∈ [e, it], b < s.heap.objs.size := fun b hb => by
    rcases List.mem_cons.mp hb with z | z
    · rw [z]; exact Heap.lt_size he
    · obtain ⟨_, q, _⟩ := hit
      rw [List.mem_singleton.mp z]; exact Heap.lt_size q
  have hfr : H s.heap.objs.size = none := I.hok.fresh (Nat.le_refl _)
  refine wpAny_pyNext_enum_item he hit pl.isList (x := u) (by simpa using hu) hne fun h1 ho hit' hT hsz hk => ⟨_, rfl, wpAny_letOwnedTupleGo_enum (s := { s with heap := h1, toks := s.toks + 1 }) ho fun h2 he' sb => ?_⟩
  have hT2 := (sb.2 _ (Nat.ne_of_gt (big e List.mem_cons_self))).trans hT
  refine ⟨.ref s.heap.objs.size, upd H s.heap.objs.size (.frz _ (.tup [.int (i : Nat), x])), I.turnedNew (ch := [e, it]) (fun b ob hb q => (sb.2 b (fun z => hb (by simp [z]))).trans (hk b ob (fun z => hb (by simp [z])) (fun z => hb (by simp [z])) q)) hf (Nat.le_refl _)
    (show _ = _ ∧ _ from ⟨hT2, (by decide : 2 ≤ sizeLine), [.int i s.toks, u], .cons ⟨_, rfl⟩ (.cons ru .nil), _, hT2, rfl, _, rfl⟩), rfl, ⟨_, _, x, rfl, hfr, rfl, rfl, fun ys hy => by rw [I.list_inj hy hq]; exact hx⟩, ⟨⟨u, by push_cast; exact he'⟩, hit'.at fun o q => (sb.2 it (Ne.symm hne)).trans q, hne⟩, fun b hb => ?_⟩
  rw [upd_ne (Nat.ne_of_lt (big b hb))]
  exact (hf b hb).1
theorem pi_enumZ {ta : TA} {elts : List Expr} {kk : Nat} {tpos : Pos} (hg : Gl X "enumerate") (hm : X.mg "enumerate" = none) (ha : PA X [e] ta) (hs : starEach [e] X.env = [(false, eval e X.env)] := by rfl) :
    PI X (.Tuple elts kk tpos) (.Call (.Name "enumerate" p) [e] [] pos) (fun σ H R => ta σ H fun vs H1 => ∃ a xs, vs = [.ref a] ∧ SqL X.K H1 a xs ∧ R (ItE X.K a) H1) := by
  refine ⟨fun pins s σ H R I h => Call_ (ld_blt I hg hm boot_enumerate (PyProof.Rows.callWith_type1 (thn (ha.run pos pins s σ H _ I h) fun us s1 ⟨vs, H1, I1, r1, q1⟩ => ?_) hs rfl))⟩
  obtain ⟨a, xs, rfl, hq, q⟩ := q1
  obtain ⟨u, rfl, ru⟩ := vals1 r1
  cases ru
  obtain ⟨its, rv, pl, hz⟩ := I1.list hq
  refine call_enumerate_list pl.isList fun h' he hit hsz hk => wpAny_pyIter_enum he ?_
  refine ⟨s1.heap.objs.size + 1, [s1.heap.objs.size + 1, s1.heap.objs.size], _, _, H1, rfl, I1.kept (t' := s1.toks) hk, turn_enumZ a (s1.heap.objs.size + 1) s1.heap.objs.size, ⟨⟨.none, he⟩, hit, Nat.succ_ne_self _⟩, fun b hb => ?_, q⟩
  have hle : s1.heap.objs.size ≤ b := by
    rcases List.mem_cons.mp hb with z | z
    · rw [z]; exact Nat.le_succ _
    · rw [List.mem_singleton.mp z]; exact Nat.le_refl _
  exact I1.fpOk hle (I1.hok.fresh hle)
theorem rI_enum {F : Hp} {q : Addr} {xs : List V} {ds : List D} (h1 : Rd F q (.lst xs)) (h2 : DrA K F xs ds) : rI K F (ItE K q) (enumD ds) := by
  intro F2 H2 e2 e3
  have hqq : SqL K _ _ _ := .inl ((e2.trans e3).rd h1)
  refine ⟨fun i hi => ?_, fun i hi => ⟨_, hqq, by rw [h2.length]; rw [enumD_length] at hi; exact hi⟩, fun i x H3 d hd hy => Or.inr ?_⟩
  · rw [enumD_length] at hi
    obtain ⟨v, e, _⟩ := h2.get (List.getElem?_eq_getElem hi)
    exact ⟨_, v, hqq, e⟩
  · obtain ⟨T, o, x', rfl, hT, ho, rfl, hx⟩ := hy
    obtain ⟨e, he, rfl⟩ := enumD_get hd
    obtain ⟨v, ev, hv⟩ := h2.get he
    have ex := hx _ hqq
    rw [ev] at ex
    cases ex
    have hF : F2 T = none := e3.none hT
    refine ⟨T, _, hT, rfl, .tup (Or.inl ⟨o, upd_same, ho⟩) (.cons (.int _) (.cons ((hv.mono e2).mono (Ex.new hF)) .nil))⟩
theorem ai_enum {elts : List Expr} {kk : Nat} {tpos : Pos} (hm : X.mg "enumerate" = none) (hg : Gl X "enumerate") (ha : AE X K E xF xb env a c1) (hs : starEach [a] X.env = [(false, eval a X.env)] := by rfl) : AI X K E xF xb env (.Tuple elts kk tpos) (.Call (.Name "enumerate" p) [a] [] pos) (fun (k : List D → R β γ) => c1 fun d => R.enum d k) := by
  have hK := ha.1
  subst hK
  exact ⟨rfl, fun B F H σ Q k G s w gx hk hG => ⟨_, pi_enumZ hg hm (pa_cons pe_C pa_nil hs) hs, ha.2 B F H σ _ _ G s w gx (fun d v F1 H1 h1 e1 eh1 s1 d1 => by
    cases d <;> first | exact (gx.no h1).elim | skip
    cases d1 with
    | lst h2 h3 => exact ⟨_, _, rfl, .inl (s1.ex.rd h2), hk _ _ F1 H1 h1 e1 eh1 s1 (rI_enum h2 h3)⟩) hG⟩⟩
end
end DM

/-! List comprehensions. -/
namespace DM
open PySem PySem.Spec PyProof.Rows L2 DL
def ttsC (X : Cx) (ifs : List Expr) : TT := fun σ H Q => ∃ t, PTs X ifs t ∧ t σ H Q
theorem pts_C {X : Cx} {ifs : List Expr} : PTs X ifs (ttsC X ifs) := ⟨fun pins s σ H Q I ⟨_, h, ht⟩ => h.run pins s σ H Q I ht⟩
/-- the block of a comprehension, wherever it runs -/
abbrev BI := Shared × Hp × Addr × List (Str × Addr) × List Addr
abbrev Xb (X : Cx) (scope : Scope) (i : BI) : Cx := X.blk i.1 i.2.1 scope (compEnvC scope i.2.2.2.1 i.2.2.1 X.env) i.2.2.2.2
/-- an item of a comprehension: its tests, what it gives; f: the frames between items -/
def AEl (Xs : BI → Cx) (K : PySem.W.Frag) {S : Type} (f : S → Fm) (pu : Bool) (env : Fm) (ifs : List Expr) (elt : Expr) (m : R Unit (Option D × S)) : Prop := ∀ B F H σ (P0 : Hp → Prop) (P1 : VK) (G : R Unit (Option D × S) → Prop), SR K B F H σ env → ¬ G .no → (∀ x b, ¬ G (.ex x b)) →
  (∀ s F' H', G (.ok (none, s)) → Ex F F' → (pu = true → Ex H H') → SR K B F' H' σ (f s) → P0 H') → (∀ y s v F' H', G (.ok (some y, s)) → Ex F F' → (pu = true → Ex H H') → SR K B F' H' σ (f s) → Dr K F' v y → P1 v H') → G m →
  ∀ i, ttsC (Xs i) ifs σ H fun b H1 => if b = true then ∀ j, teC (Xs j) elt σ H1 P1 else P0 H1
abbrev E0x : XE := fun _ _ _ _ => False
section
variable {Xs : BI → Cx} {K : PySem.W.Frag} {S : Type} {f : S → Fm} {env : Fm} {elt t : Expr}
theorem ael_1 {mE : R Unit (Option D × S)} {c : (D → R Unit (Option D × S)) → R Unit (Option D × S)} (s0 : S) (h : ∀ i, AE (Xs i) K E0x env () env elt c) (hw : Wk env (f s0)) (eE : (c fun y => .ok (some y, s0)) = mE) : AEl Xs K f true env [] elt mE := by
  subst eE
  exact fun B F H σ P0 P1 G s hno hex h0 h1 hG i => ⟨_, pts_nil, by
    show if true = true then ∀ j, teC (Xs j) elt σ H P1 else P0 H
    rw [if_pos rfl]
    exact fun j => (h j).2 B F H σ P1 _ G s (Wk.refl env) ⟨hno, fun x z => (hex x _ z).elim⟩ (fun d v F' H' g e eh s' d' => h1 d s0 v F' H' g e (fun _ => eh) (s'.wk hw) d') hG⟩
theorem ael_if {mE : R Unit (Option D × S)} {ct : (Bool → R Unit (Option D × S)) → R Unit (Option D × S)} {c : (D → R Unit (Option D × S)) → R Unit (Option D × S)} (s0 : S) (ht : ∀ i, AT (Xs i) K E0x env () env t ct) (h : ∀ i, AE (Xs i) K E0x env () env elt c) (hw : Wk env (f s0)) (eE : (ct fun b => if b then c fun y => .ok (some y, s0) else .ok (none, s0)) = mE) : AEl Xs K f true env [t] elt mE := by
  subst eE
  exact fun B F H σ P0 P1 G s hno hex h0 h1 hG i => ⟨_, pts_one pt_C, (ht i).2 B F H σ _ _ G s (Wk.refl env) ⟨hno, fun x z => (hex x _ z).elim⟩ (fun b v F1 H1 g1 e1 eh1 s1 d1 => by
    subst d1
    cases v with
    | true =>
      rw [if_pos rfl]
      exact fun j => (h j).2 B F1 H1 σ P1 _ G s1 (Wk.refl env) ⟨hno, fun x z => (hex x _ z).elim⟩ (fun d v F' H' g e eh s' d' => h1 d s0 v F' H' g (e1.trans e) (fun _ => eh1.trans eh) (s'.wk hw) d') g1
    | false =>
      rw [if_neg (by decide)]
      exact h0 s0 F1 H1 g1 e1 (fun _ => eh1) (s1.wk hw)) hG⟩
end
theorem wipe_in {σ : L2.St} {i : Nat} : ∀ {vs : List Nat}, i ∈ vs → (wipe σ vs)[i]? = if i < σ.length then some none else none
  | v :: vs, hi => by
    unfold wipe
    by_cases e : v = i
    · subst e
      by_cases hl : v < σ.length
      · rw [if_pos hl, List.getElem?_set_self (by rw [wipe_length]; exact hl)]
      · rw [if_neg hl, List.getElem?_eq_none (by rw [List.length_set, wipe_length]; omega)]
    · rw [List.getElem?_set_ne e]
      exact wipe_in (by rcases List.mem_cons.mp hi with z | z; exact absurd z.symm e; exact z)
theorem wipe_ext {σ σ2 : L2.St} {vs : List Nat} (hl : σ2.length = σ.length) (h : ∀ i : Nat, i ∉ vs → σ2[i]? = σ[i]?) : wipe σ2 vs = wipe σ vs := by
  apply List.ext_getElem?
  intro i
  by_cases hi : i ∈ vs
  · rw [wipe_in hi, wipe_in hi, hl]
  · rw [wipe_out hi, wipe_out hi]
    exact h i hi
theorem hu_nil {env : Fm} : ∀ j ∈ ([] : List Nat), fget env j = .un := fun j h => nomatch h
theorem hu_cons {env : Fm} {i : Nat} {is : List Nat} (h : fget env i = .un) (t : ∀ j ∈ is, fget env j = .un) : ∀ j ∈ i :: is, fget env j = .un := fun j hj => by
  rcases List.mem_cons.mp hj with z | z
  · rw [z]; exact h
  · exact t j z
theorem tk0 {X : Cx} : ∀ σ, PassesAt (L2.CX X.prog X.w) X σ (E0x σ) := fun σ => passAt takes0 σ
/-- none of the frame's own things holds a -/
def Nob (K : PySem.W.Frag) (F H : Hp) (σ : L2.St) (env : Fm) (a : Addr) : Prop := ∀ i t d fs p S, fget env i = .ow t d fs → σ[i]? = some (some (.ref p)) → Own K F H p d fs S → a ∉ S
section
variable {K : PySem.W.Frag} {B : Bs} {F H : Hp} {σ : L2.St} {env : Fm} {a : Addr}
theorem Nob.of (s : SR K B F H σ env) (h : ∀ ft, Hs K B F H σ env ft → ¬ owned env ft a) : Nob K F H σ env a := fun i t d fs p S e1 e2 o ha => by
  obtain ⟨ft, hf⟩ := s.own
  obtain ⟨q, h1, h2, _⟩ := hf.ow i t d fs e1
  rw [e2] at h1
  cases h1
  rw [← foot_same h2 (Ex.refl _) o] at ha
  exact h ft hf ⟨i, t, d, fs, e1, ha⟩
theorem Nob.to (h : Nob K F H σ env a) : ∀ ft, Hs K B F H σ env ft → ¬ owned env ft a := fun ft hf ⟨i, t, d, fs, e1, ha⟩ => by
  obtain ⟨q, h1, h2, _⟩ := hf.ow i t d fs e1
  exact h i t d fs q (ft i) e1 h1 h2 ha
theorem Nob.upd {o : HO} (s : SR K B F H σ env) (h : Nob K F H σ env a) : Nob K F (upd H a o) σ env a := fun i t d fs p S e1 e2 ow ha => by
  obtain ⟨ft, hf⟩ := s.own
  obtain ⟨q, h1, h2, _⟩ := hf.ow i t d fs e1
  rw [e2] at h1
  cases h1
  have hn := h i t d fs p (ft i) e1 e2 h2
  have h3 : Own K F (L2.upd H a o) p d fs (ft i) := h2.congr (Ex.refl F) fun b hb => upd_ne fun z => hn (z ▸ hb)
  rw [← foot_same h3 (Ex.refl _) ow] at ha
  exact hn ha
theorem Nob.sig {σ' : L2.St} (h : Nob K F H σ env a) (hu : ∀ (i : Nat), fget env i ≠ .un → σ'[i]? = σ[i]?) : Nob K F H σ' env a := fun i t d fs p S e1 e2 => h i t d fs p S e1 (by rw [← hu i (by rw [e1]; exact fun z => nomatch z)]; exact e2)
end
def optL (y : Option D) (ys : List D) : List D := match y with
  | some y => y :: ys
  | none => ys
theorem fmapS_cons {S : Type} {f : D → S → R Unit (Option D × S)} {d : D} {ds ys : List D} {s sE : S} (h : R.fmapS f (d :: ds) s = .ok (ys, sE)) : ∃ y s1 ys1, f d s = .ok (y, s1) ∧ R.fmapS f ds s1 = .ok (ys1, sE) ∧ ys = optL y ys1 := by
  unfold R.fmapS at h
  cases e : f d s with
  | no => rw [e] at h; cases h
  | ex x b => rw [e] at h; cases h
  | ok p =>
    obtain ⟨y, s1⟩ := p
    rw [e] at h
    simp only [] at h
    cases e2 : R.fmapS f ds s1 with
    | no => rw [e2] at h; cases h
    | ex x b => rw [e2] at h; cases h
    | ok p =>
      obtain ⟨ys1, s2⟩ := p
      rw [e2] at h
      cases h
      exact ⟨y, s1, ys1, rfl, e2, rfl⟩
section
variable {X : Cx} {K : PySem.W.Frag} {S : Type}
abbrev tgB (X : Cx) (scope : Scope) (tg : Expr) : TG := fun v σ H P => ∀ i, tgC (Xb X scope i) tg v σ H P
abbrev ttB (X : Cx) (scope : Scope) (ifs : List Expr) : TT := fun σ H Q => ∀ i, ttsC (Xb X scope i) ifs σ H Q
abbrev teB (X : Cx) (scope : Scope) (elt : Expr) : TE := fun σ H Q => ∀ i, teC (Xb X scope i) elt σ H Q
theorem lc_all {elt tg : Expr} {ifs : List Expr} {scope : Scope} {own : List Nat} {f : S → Fm} {pu : Bool} {s0 : S} {mb : D → S → R Unit (Option D × S)} {B : Bs} {F1 H1 : Hp} {σ : L2.St} {ds : List D} {J : It} {Q : VK} {ys : List D} {sE : S}
    (hb : ∀ (i : BI) (z : S) (d : D), AG (Xb X scope i) K own (f z) tg d (fun env' m' => AEl (Xb X scope) K f pu env' ifs elt m') (mb d z))
    (hu : ∀ z, ∀ j ∈ own, fget (f z) j = .un) (s1 : SR K B F1 H1 σ (f s0)) (r1 : rI K F1 J ds) (hm : R.fmapS mb ds s0 = .ok (ys, sE)) (hz : ds.length ≤ sizeLine)
    (hk : ∀ v F' H', Ex F1 F' → (pu = true → Ex H1 H') → SR K B F' H' σ (f sE) → rN K B F' H' σ (f sE) v (.lst ys) [] → Q v H') :
    ∀ Dn, H1 Dn = none → ∃ W : Nat → Nat → Hp → Prop, (∃ m, W 0 m (upd H1 Dn (.lst []))) ∧ ∀ i m H, W i m H →
      (J.stop i H ∧ Q (.ref Dn) H) ∨ (J.go i H ∧ ∃ Nx : Hp → Prop, (∀ H', Nx H' → ∃ m', m' < m ∧ W (i + 1) m' H') ∧ ∀ x H', J.yld i H x H' → tgB X scope tg x (wipe σ own) H' fun σ2 H2 => wipe σ2 own = wipe σ own ∧
        ttB X scope ifs σ2 H2 fun b H3 => if b = true then teB X scope elt σ2 H3 fun y H4 => ∃ acc, H4 Dn = some (.lst acc) ∧ acc.length < sizeLine ∧ Nx (upd H4 Dn (.lst (acc ++ [y]))) else Nx H3) := by
  intro Dn hD
  have hbD := s1.new_b hD
  have hnu : ∀ z (i : Nat), fget (f z) i ≠ .un → i ∉ own := fun z i h hi => h (hu z i hi)
  have toW : ∀ {F' H' : Hp} {σ2 : L2.St} {z : S}, SR K B F' H' σ2 (f z) → SR K B F' H' (wipe σ2 own) (f z) := fun {F' H' σ2 z} s => s.unσ (wipe_length σ2 own) fun i hi => wipe_out (hnu z i hi)
  have ofW : ∀ {F' H' : Hp} {z : S}, SR K B F' H' (wipe σ own) (f z) → SR K B F' H' σ (f z) := fun {F' H' z} s => s.unσ (wipe_length σ own).symm fun i hi => (wipe_out (hnu z i hi)).symm
  have hFD : F1 Dn = none := s1.ex.none hD
  have n0 : Nob K F1 H1 (wipe σ own) (f s0) Dn := fun i t d fs p S e1 e2 o ha => by
    obtain ⟨u, hu⟩ := o.some Dn ha
    rw [hD] at hu; cases hu
  refine ⟨fun i m H' => ∃ F' z accV acc ys', m = ds.length - i ∧ i ≤ ds.length ∧ Ex F1 F' ∧ (pu = true → Ex H1 H') ∧ SR K B F' H' (wipe σ own) (f z) ∧ H' Dn = some (.lst accV) ∧ DrA K F' accV acc ∧ acc.length ≤ i ∧ F' Dn = none ∧ Nob K F' H' (wipe σ own) (f z) Dn ∧ R.fmapS mb (ds.drop i) z = .ok (ys', sE) ∧ acc ++ ys' = ys,
    ⟨ds.length, F1, s0, [], [], ys, by simp, Nat.zero_le _, Ex.refl F1, fun _ => Ex.new hD, (toW s1).growH hD, upd_same, .nil, Nat.le_refl _, hFD, n0.upd (toW s1), by simpa using hm, rfl⟩, ?_⟩
  rintro i m H' ⟨F', z, accV, acc, ys', rfl, hi', e', eh', s', hDn, hacc, hal, hFn, hnb, hp, hy⟩
  by_cases hlt : i < ds.length
  · right
    have hd : ds[i]? = some ds[i] := List.getElem?_eq_getElem hlt
    have hdrop : ds.drop i = ds[i] :: ds.drop (i + 1) := List.drop_eq_getElem_cons hlt
    rw [hdrop] at hp
    obtain ⟨y, z1, ys1, hm1, hm2, rfl⟩ := fmapS_cons hp
    obtain ⟨jgo, _, jy⟩ := r1 F' H' e' s'.ex
    refine ⟨jgo i hlt, fun H'' => ∃ F'' z'' accV' acc' ys'', Ex F1 F'' ∧ (pu = true → Ex H1 H'') ∧ SR K B F'' H'' (wipe σ own) (f z'') ∧ H'' Dn = some (.lst accV') ∧ DrA K F'' accV' acc' ∧ acc'.length ≤ i + 1 ∧ F'' Dn = none ∧ Nob K F'' H'' (wipe σ own) (f z'') Dn ∧ R.fmapS mb (ds.drop (i + 1)) z'' = .ok (ys'', sE) ∧ acc' ++ ys'' = ys, ?_, ?_⟩
    · rintro H'' ⟨F'', z'', aV, ac, y2, a1, a2, a3, a4, a5, a6, a7, a8, a9, a10⟩
      exact ⟨ds.length - (i + 1), by omega, F'', z'', aV, ac, y2, rfl, hlt, a1, a2, a3, a4, a5, a6, a7, a8, a9, a10⟩
    · intro x H2 hyl
      have key : ∃ F2, Ex F' F2 ∧ Ex H' H2 ∧ SR K B F2 H2 (wipe σ own) (f z) ∧ Dr K F2 x ds[i] ∧ H2 Dn = some (.lst accV) ∧ F2 Dn = none ∧ Nob K F2 H2 (wipe σ own) (f z) Dn := by
        rcases jy i x H2 ds[i] hd hyl with ⟨hx, rfl⟩ | ⟨p, o, hp0, rfl, hx⟩
        · exact ⟨F', Ex.refl F', Ex.refl _, s', hx, hDn, hFn, hnb⟩
        · have hne : Dn ≠ p := ne_of_none hDn hp0
          refine ⟨L2.upd F' p o, Ex.new (s'.ex.none hp0), Ex.new hp0, s'.grow hp0, hx, by rw [upd_ne hne]; exact hDn, by rw [upd_ne hne]; exact hFn, fun i t d fs q S e1 e2 ow ha => ?_⟩
          obtain ⟨ft, hf⟩ := s'.own
          obtain ⟨q', h1, h2, _⟩ := hf.ow i t d fs e1
          rw [e2] at h1
          cases h1
          rw [← foot_same h2 (Ex.new hp0) ow] at ha
          exact hnb i t d fs q (ft i) e1 e2 h2 ha
      obtain ⟨F2, e2, eh2, s2, hx, hD2, hF2, hnb2⟩ := key
      obtain ⟨ft, hf⟩ := s2.own
      have sB := s2.rebase hf
      have off : ∀ {F4 H4 : Hp} {σ4 : L2.St} {env4 : Fm}, SR K (B.at F2 H2 (f z) ft) F4 H4 σ4 env4 → H4 Dn = some (.lst accV) ∧ F4 Dn = none ∧ Nob K F4 H4 σ4 env4 Dn := fun {F4 H4 σ4 env4} r => by
        obtain ⟨q1, q2, q3⟩ := r.off (p := Dn) (o := .lst accV) hD2 hF2 (hnb2.to ft hf)
        exact ⟨q1, q2, Nob.of r q3⟩
      intro bi
      refine (hb bi z ds[i]).2 (B.at F2 H2 (f z) ft) F2 H2 (wipe σ own) x _ (fun q => q = .ok (y, z1)) sB hx (fun h => nomatch h) hm1 fun env' m' σ2 hY s3 hl3 hk3 hm' => ?_
      subst hm'
      have hw2 : wipe σ2 own = wipe σ own := wipe_ext (hl3.trans (wipe_length σ own)) fun j hj => (hk3 j hj).trans (wipe_out hj)
      refine ⟨hw2, fun bj => ?_⟩
      have go : ∀ {F4 H4 : Hp} {z4 : S}, Ex F2 F4 → (pu = true → Ex H2 H4) → SR K (B.at F2 H2 (f z) ft) F4 H4 σ2 (f z4) → SR K B F4 H4 (wipe σ own) (f z4) ∧ Ex F1 F4 ∧ (pu = true → Ex H1 H4) ∧ H4 Dn = some (.lst accV) ∧ DrA K F4 accV acc ∧ F4 Dn = none ∧ Nob K F4 H4 (wipe σ own) (f z4) Dn := fun {F4 H4 z4} e4 eh4 s4 => by
        obtain ⟨o1, o2, o3⟩ := off s4
        have s5 := toW (s2.unbase hf (fun _ _ z => z) s4)
        rw [hw2] at s5
        refine ⟨s5, e'.trans (e2.trans e4), fun hp => (eh' hp).trans (eh2.trans (eh4 hp)), o1, hacc.mono (e2.trans e4), o2, o3.sig fun j hj => ?_⟩
        rw [← hw2]
        exact wipe_out (hnu z4 j hj)
      refine hY (B.at F2 H2 (f z) ft) F2 H2 σ2 _ _ (fun q => q = .ok (y, z1)) s3 (fun h => nomatch h) (fun _ _ h => nomatch h) (fun z4 F4 H4 h4 e4 eh4 s4 => ?_) (fun y4 z4 v4 F4 H4 h4 e4 eh4 s4 d4 => ?_) rfl bj
      · cases h4
        obtain ⟨g1, g2, g3, g4, g5, g6, g7⟩ := go e4 eh4 s4
        exact ⟨F4, z1, accV, acc, ys1, g2, g3, g1, g4, g5, by omega, g6, g7, hm2, hy⟩
      · cases h4
        obtain ⟨g1, g2, g3, g4, g5, g6, g7⟩ := go e4 eh4 s4
        refine ⟨accV, g4, by rw [g5.length]; omega, F4, z1, accV ++ [v4], acc ++ [y4], ys1, g2, fun hp => ?_, g1.updOff g6 hbD (g7.to), upd_same, g5.append (.one d4), by simp; omega, g6, g7.upd g1, hm2, by rw [List.append_assoc]; exact hy⟩
        intro a o ha
        have hne : a ≠ Dn := ne_of_none ha hD
        rw [upd_ne hne]
        exact g3 hp a o ha
  · left
    have hie : i = ds.length := by omega
    subst hie
    rw [List.drop_length] at hp
    cases hp
    obtain ⟨_, jstop, _⟩ := r1 F' H' e' s'.ex
    have s8 := ofW s'
    refine ⟨jstop _ (Nat.le_refl _), hk _ F' H' e' eh' s8 ⟨Dn, [Dn], rfl, .ce hDn (.lst ?_), fun a ha => ?_, fun ft hf a ha => ?_⟩⟩
    · rw [← hy, List.append_nil]; exact hacc
    · rw [List.mem_singleton.mp ha]; exact ⟨hFn, hbD⟩
    · rw [List.mem_singleton.mp ha]
      exact (hnb.sig fun j hj => (wipe_out (hnu _ j hj)).symm).to ft hf
variable {E : XE} {β γ : Type} {xF : Fm} {xb : β} {env : Fm} {elt tg iter : Expr} {ifs : List Expr} {scope : Scope} {own : List (Str × Nat)} {pos : Pos}
/-- then on with what a comprehension gives -/
def R.lst {S : Type} (m : R Unit (List D × S)) (k : D → S → R β γ) : R β γ := match m with
  | .ok (ys, s) => k (.lst ys) s
  | _ => .no
theorem aj_lc {ci : (List D → R β γ) → R β γ} {mb : D → Unit → R Unit (Option D × Unit)} (hi : AI X K E xF xb env tg iter ci) (hu : ∀ j ∈ own.map (·.2), fget env j = .un)
    (hb : ∀ (i : BI) (z : Unit) (d : D), AG (Xb X scope i) K (own.map (·.2)) env tg d (fun env' m' => AEl (Xb X scope) K (fun _ => env) true env' ifs elt m') (mb d z)) :
    AJ K E xF xb env (tLc (tiC X tg iter) (tgB X scope tg) (ttB X scope ifs) (teB X scope elt) (own.map (·.2))) (fun B F H σ v d => rN K B F H σ env v d []) (fun (k : D → R β γ) => ci fun ds => R.few ds fun ds => R.lst (R.fmapS mb ds ()) fun d _ => k d) := fun B F H σ Q k G s w gx hk hG =>
  hi.2 B F H σ _ _ G s w gx (fun ds J F1 H1 h1 e1 eh1 s1 r1 => by
    unfold R.few at h1
    split at h1
    · rename_i hz
      have h1 : G (R.lst (R.fmapS mb ds ()) fun d _ => k d) := h1
      cases hm : R.fmapS mb ds () with
      | no => rw [hm] at h1; exact (gx.no h1).elim
      | ex x b => rw [hm] at h1; exact (gx.no h1).elim
      | ok p =>
        obtain ⟨ys, u⟩ := p
        rw [hm] at h1
        exact lc_all (f := fun _ => env) (s0 := ()) hb (fun _ => hu) s1 r1 hm (of_decide_eq_true hz) fun v F' H' e2 eh2 s2 r2 => hk _ v F' H' h1 (e1.trans e2) (eh1.trans (eh2 rfl)) s2 r2
    · exact (gx.no h1).elim) hG
theorem pe_lcB {own : List (Str × Nat)} (hc : X.calm = true) (hN : X.N.Nodup) (ok : BlkOk X.N X.env.scope scope own) (hs : ∀ x, foldedSetIterable iter X.env x = pure x) :
    PE X (.ListComp elt [⟨tg, iter, ifs, 0⟩] scope pos) (tLc (tiC X tg iter) (tgB X scope tg) (ttB X scope ifs) (teB X scope elt) (own.map (·.2))) :=
  pe_lc hc hN pi_C ok (fun s H C cl fp => ⟨fun pins s' σ H' v u Q I r h => (pg_C (X := X.blk s H scope (compEnvC scope cl C X.env) fp)).run pins s' σ H' v u Q I r (h (s, H, C, cl, fp))⟩)
    (fun s H C cl fp => ⟨fun pins s' σ H' Q I h => (pts_C (X := X.blk s H scope (compEnvC scope cl C X.env) fp)).run pins s' σ H' Q I (h (s, H, C, cl, fp))⟩)
    (fun s H C cl fp => ⟨fun pins s' σ H' Q I h => (pe_C (X := X.blk s H scope (compEnvC scope cl C X.env) fp)).run pins s' σ H' Q I (h (s, H, C, cl, fp))⟩) hs
/-- [elt for tg in iter if ..] -/
theorem a_lc {ci : (List D → R β γ) → R β γ} {mb : D → Unit → R Unit (Option D × Unit)} (own : List (Str × Nat)) (hi : AI X K E xF xb env tg iter ci)
    (hb : ∀ (i : BI) (z : Unit) (d : D), AG (Xb X scope i) K (own.map (·.2)) env tg d (fun env' m' => AEl (Xb X scope) K (fun _ => env) true env' ifs elt m') (mb d z)) (hc : X.calm = true) (hN : X.N.Nodup) (ok : BlkOk X.N X.env.scope scope own)
    (hu : ∀ j ∈ own.map (·.2), fget env j = .un) (hs : ∀ x, foldedSetIterable iter X.env x = pure x := by intro _; rfl) :
    AN X K E xF xb env [] (.ListComp elt [⟨tg, iter, ifs, 0⟩] scope pos) (fun (k : D → R β γ) => ci fun ds => R.few ds fun ds => R.lst (R.fmapS mb ds ()) fun d _ => k d) :=
  ⟨hi.1, fun B F H σ Q k G s w gx hk hG => ⟨_, pe_lcB hc hN ok hs, aj_lc hi hu hb B F H σ Q k G s w gx hk hG⟩⟩
/-- y = [..] on one line -/
theorem ab_setLc {ω : Type} {κ : Kt β ω} {rest : List Stmt} {ci : (List D → R β ω) → R β ω} {mb : D → Unit → R Unit (Option D × Unit)} {m : D → R β ω} {y : Str} {py spos : Pos} (i : Nat) (own : List (Str × Nat)) (xb : β) (hi : AI X K E (κ.fx xb) xb env tg iter ci) (hx : Wk env (κ.fx xb))
    (hb : ∀ (i : BI) (z : Unit) (d : D), AG (Xb X scope i) K (own.map (·.2)) env tg d (fun env' m' => AEl (Xb X scope) K (fun _ => env) true env' ifs elt m') (mb d z)) (hr : ∀ d, AB X K E κ (fput env i (.ow none d [])) rest (m d)) (hc : X.calm = true) (hN : X.N.Nodup) (ok : BlkOk X.N X.env.scope scope own)
    (hu : ∀ j ∈ own.map (·.2), fget env j = .un) (hyl : X.env.scope.names.lookup y = some .local) (hsw : swapsWith (.ListComp elt [⟨tg, iter, ifs, 0⟩] scope pos) (some (.Name y py)) spos.line X.env = pure true) (hy : X.N[i]? = some y := by rfl) (hs : ∀ x, foldedSetIterable iter X.env x = pure x := by intro _; rfl) :
    AB X K E κ env (.Assign [.Name y py] (.ListComp elt [⟨tg, iter, ifs, 0⟩] scope pos) spos :: rest) (ci fun ds => R.few ds fun ds => R.lst (R.fmapS mb ds ()) fun d _ => m d) :=
  ⟨hi.1, fun B F H σ Dn G sr gs hG => ⟨_, pss_cons (ps_setLc hc hN hy hyl hsw pi_C ok (fun s H C cl fp => ⟨fun pins s' σ H' v u Q I r h => (pg_C (X := X.blk s H scope (compEnvC scope cl C X.env) fp)).run pins s' σ H' v u Q I r (h (s, H, C, cl, fp))⟩)
    (fun s H C cl fp => ⟨fun pins s' σ H' Q I h => (pts_C (X := X.blk s H scope (compEnvC scope cl C X.env) fp)).run pins s' σ H' Q I (h (s, H, C, cl, fp))⟩)
    (fun s H C cl fp => ⟨fun pins s' σ H' Q I h => (pe_C (X := X.blk s H scope (compEnvC scope cl C X.env) fp)).run pins s' σ H' Q I (h (s, H, C, cl, fp))⟩) hs) ps_C,
    aj_lc hi hu hb B F H σ _ _ G sr hx (gs.gx xb) (fun d v F1 H1 h1 e1 eh1 s1 d1 => (hr d).2 B F1 H1 _ Dn G (s1.setO d1) (gs.mono e1) h1) hG⟩⟩
end
end DM

/-! Own defs: what they promise, how they are called, the rule for a body. -/
namespace DM
open PySem PySem.Spec PyProof.Rows L2 DL

def parOf (vs : List V) (k : Nat) : Option Addr := match vs[k]? with
  | some (.ref p) => some p
  | _ => none
/-- the parameters at the entry; mask: none: stands still; some fs: the caller's own thing (own fields fs) -/
abbrev Mask := List (Option (List Str))
def mkArgs : List D → Mask → Nat → Fm
  | d :: ds, none :: ms, i => .fz d :: mkArgs ds ms (i + 1)
  | d :: ds, some fs :: ms, i => .ow (some i) d fs :: mkArgs ds ms (i + 1)
  | _, _, _ => []
/-- the parameters at the end: the caller's things -/
def mkOuts : List D → Mask → Nat → Fm
  | os, none :: ms, i => .un :: mkOuts os ms (i + 1)
  | o :: os, some fs :: ms, i => .ow (some i) o fs :: mkOuts os ms (i + 1)
  | [], some _ :: ms, i => .un :: mkOuts [] ms (i + 1)
  | _, [], _ => []
def PostM (K : PySem.W.Frag) (B : Bs) (F : Hp) (σ : L2.St) (E : XK) (nw : Option (List Str)) (mask : Mask) (Q : VK) : R (List D) (D × List D) → Prop
  | .ok (d, os) => ∀ v F' H', Ex F F' → SR K B F' H' σ (mkOuts os mask 0) → rR K nw B F' H' σ (mkOuts os mask 0) v d → Q v H'
  | .ex x os => ∀ c dd F' H', Ex F F' → SR K B F' H' σ (mkOuts os mask 0) → XR K F' x c dd → E c dd H'
  | .no => False
def spM (K : PySem.W.Frag) (mask : Mask) (nw : Option (List Str)) (mL : List D → R (List D) (D × List D)) : Sp := fun vs H Q E => vs.length = mask.length ∧ ∃ F ds ps, ds.length = mask.length ∧ SR K ⟨F, H, ps, parOf vs⟩ F H (vs.map some) (mkArgs ds mask 0) ∧ PostM K ⟨F, H, ps, parOf vs⟩ F (vs.map some) E nw mask Q (mL ds)
/-- nothing of the caller's own is handed in -/
def Lp (m : List D → R Unit D) : List D → R (List D) (D × List D) := fun ds => match m ds with
  | .ok d => .ok (d, [])
  | .ex x _ => .ex x []
  | .no => .no
def L1 (m : List D → R D (D × D)) : List D → R (List D) (D × List D) := fun ds => match m ds with
  | .ok (d, o) => .ok (d, [o])
  | .ex x o => .ex x [o]
  | .no => .no
/-- .. where nothing is known of the thing behind an error -/
def L1e (m : List D → R Unit (D × D)) : List D → R (List D) (D × List D) := fun ds => match m ds with
  | .ok (d, o) => .ok (d, [o])
  | .ex x _ => .ex x []
  | .no => .no
abbrev mk0 (n : Nat) : Mask := List.replicate n none

section
variable {X : Cx} {CX : CXT} {k : Nat} {f : Addr} {fd : FuncData} {ps : List Str} {sp : Sp} {ds : List Value} {dvs : List V} {E : L2.St → XK}
theorem runGS {pins : List (Addr × Obj)} {σ : L2.St} {H : Hp} {s : Shared} {Q : VK} {us : List Value} {vs : List V} (F : FnG X.prog X.w X.K X.mg X.base CX k f fd ps sp) (hr : Room k X.A) (hG : Quiet X.A) (hb : Binds X.K fd ps ds) (hd : Vals dvs ds) (hx : PassesAt CX X σ (E σ)) (I : Inv X pins σ H s) (r : Vals vs us)
    (h : sp (vs ++ dvs) H Q (E σ)) : wpAny (model X.prog X.w) X.A (call (.ref f) us) (EP X pins σ Q) X.xe s := by
  have rr := r.append hd
  have hl : (us ++ ds).length = ps.length := rr.length.symm.trans (F.ln _ _ _ _ h)
  refine wpAny_call (codeAny_mono (F.go X.A X.stack s H ⟨us, []⟩ (us ++ ds) (vs ++ dvs) Q (E σ) hr hG I.env0 (hb s us I.kIn hl) rr h) fun z s' hq => ?_)
  match z, hq with
  | .error e, hq => exact hx pins H s e s' I hq
  | .ok (.ret u), hq => exact I.after hq
  | .ok .next, hq | .ok .brk, hq | .ok .cont, hq => exact False.elim hq
theorem pe_callGS {x : Str} {e : Expr} {es : List Expr} {t : TA} {p pos : Pos} (F : FnG X.prog X.w X.K X.mg X.base CX k f fd ps sp) (hr : Room k X.A) (hG : Quiet X.A) (hg : Gl X x) (hm : X.mg x = some (.ref f)) (hk : PySem.W.keepIn X.K (.ref f) = true) (hb : Binds X.K fd ps ds) (hd : Vals dvs ds) (hx : ∀ σ, PassesAt CX X σ (E σ)) (ha : PA X (e :: es) t)
    (hdb : (x == ("__debug__" : Str)) = false) (he : starEach (e :: es) X.env = (false, eval e X.env) :: starEach es X.env) (hpl : (backTo pos (starEach es X.env)).any (·.1) = false) : PE X (.Call (.Name x p) (e :: es) [] pos) (tCallSD sp dvs E t) :=
  ⟨fun pins s σ H Q I h => wpAny_Call_Name_kw (ld_glob I hg hm (PySem.W.callWith_K (h₀ := X.base) I.ok.mod.kin hk (thn (ha.run pos pins s σ H _ I h) fun us s1 ⟨vs, H1, I1, r, q⟩ => ⟨I1.kIn, runGS F hr hG hb hd (hx σ) I1 r q⟩) he hpl) hdb)⟩
theorem pe_call0GS {x : Str} {p pos : Pos} (F : FnG X.prog X.w X.K X.mg X.base CX k f fd ps sp) (hr : Room k X.A) (hG : Quiet X.A) (hg : Gl X x) (hm : X.mg x = some (.ref f)) (hk : PySem.W.keepIn X.K (.ref f) = true)
    (hb : Binds X.K fd ps ds) (hd : Vals dvs ds) (hx : ∀ σ, PassesAt CX X σ (E σ)) (hdb : (x == ("__debug__" : Str)) = false) : PE X (.Call (.Name x p) [] [] pos) (tCallSD sp dvs E tNil) :=
  ⟨fun pins s σ H Q I h => wpAny_Call_Name_kw (ld_glob I hg hm (PySem.W.callWith_K0 I.kIn hk (runGS (us := []) F hr hG hb hd (hx σ) I .nil h)) hdb)⟩
end
section
variable {K : PySem.W.Frag} {B B' : Bs} {F H F' H' : Hp} {σ σ' : L2.St} {env as : Fm}
theorem mk0_fz : ∀ {n : Nat} {ds : List D} {j : Nat}, ds.length = n → mkArgs ds (mk0 n) j = ds.map .fz
  | 0, [], _, _ => rfl
  | n + 1, d :: ds, j, h => by
    show .fz d :: mkArgs ds (mk0 n) (j + 1) = .fz d :: ds.map .fz
    rw [mk0_fz (by simpa using h)]
theorem fz_get {ds : List D} {i : Nat} {x : Sl} (h : fget (ds.map Sl.fz) i = x) (n : x ≠ .un) : ∃ d, ds[i]? = some d ∧ x = .fz d := by
  induction ds generalizing i with
  | nil => exact absurd h.symm n
  | cons d ds ih =>
    cases i with
    | zero => exact ⟨d, rfl, h.symm⟩
    | succ i =>
      obtain ⟨d', h1, h2⟩ := ih (i := i) h
      exact ⟨d', by simpa using h1, h2⟩
/-- arguments that stand still -/
theorem SR.args (e : Ex F H) {vs : List V} {ds : List D} (h : DrA K F vs ds) (hB : B'.F0 = F) (hH : B'.H0 = H) : SR K B' F H (vs.map some) (ds.map .fz) where
  ex := e
  ex0 := by rw [hB]; exact Ex.refl F
  keep := fun a o h _ => by rw [hH] at h; exact h
  newF := fun a o h => Or.inl (by rw [hB, h]; exact fun z => nomatch z)
  len := by rw [List.length_map, List.length_map]; exact h.length
  fz := fun i d h1 => by
    obtain ⟨d', h2, h3⟩ := fz_get h1 (fun z => nomatch z)
    cases h3
    obtain ⟨v, h4, h5⟩ := h.get h2
    exact ⟨v, by rw [List.getElem?_map, h4]; rfl, h5⟩
  xc := fun i a d gs h1 => by
    obtain ⟨d', h2, h3⟩ := fz_get h1 (fun z => nomatch z)
    cases h3
  own := ⟨fun _ => [], ⟨fun i t d fs h1 => (by
    obtain ⟨d', h2, h3⟩ := fz_get h1 (fun z => nomatch z)
    cases h3), fun i j t u d e fs gs _ _ _ a ha => nomatch ha⟩⟩
/-- behind a call that was handed nothing of the frame's own -/
theorem SR.after (s : SR K B F H σ env) (r : SR K B' F' H' σ' as) (hF : B'.F0 = F) (hH : B'.H0 = H) (hps : ∀ p, ¬ B'.ps p) : SR K B F' H' σ env ∧ Ex H H' := by
  have e0 : Ex F F' := by have := r.ex0; rw [hF] at this; exact this
  have eh : Ex H H' := fun a o h => r.keep a o (by rw [hH]; exact h) (hps a)
  have hn : ∀ a o, F' a = some o → F a = some o ∨ H a = none := fun a o h => by
    rcases r.newF a o h with z | z | z
    · rw [hF] at z
      cases q : F a with
      | none => exact absurd q z
      | some u =>
        have := e0 a u q
        rw [h] at this
        cases this
        exact .inl rfl
    · rw [hH] at z; exact .inr z
    · exact absurd z (hps a)
  refine ⟨⟨r.ex, s.ex0.trans e0, fun a o h n => eh a o (s.keep a o h n), fun a o h => ?_, s.len, fun i d h1 => ?_, fun i a d gs h1 => ?_, ?_⟩, eh⟩
  · rcases hn a o h with z | z
    · exact s.newF a o z
    · exact Or.inr (s.new_b z)
  · obtain ⟨v, h2, h3⟩ := s.fz i d h1
    exact ⟨v, h2, h3.mono e0⟩
  · obtain ⟨h2, fs, h3, h4, h5⟩ := s.xc i a d gs h1
    exact ⟨h2, fs, e0 _ _ h3, h4, h5.mono e0⟩
  · obtain ⟨ft, hf⟩ := s.own
    refine ⟨ft, hf.congr e0 fun a ha => ?_⟩
    obtain ⟨h1, ⟨u, h2⟩, _⟩ := hf.owned_b ha
    refine ⟨by rw [eh a u h2, h2], ?_⟩
    cases q : F' a with
    | none => rfl
    | some o =>
      rcases hn a o q with z | z
      · rw [h1] at z; cases z
      · rw [h2] at z; cases z
/-- behind a call that was handed the thing at S -/
theorem SR.afterS {S : List Addr} (s : SR K B F H σ env) (hS : ∀ a ∈ S, F a = none ∧ (B.H0 a = none ∨ B.ps a)) (hn : ∀ ft, Hs K B F H σ env ft → ∀ a ∈ S, ¬ owned env ft a) (r : SR K B' F' H' σ' as) (hF : B'.F0 = F) (hH : B'.H0 = H) (hps : ∀ p, B'.ps p → p ∈ S) : SR K B F' H' σ env := by
  have e0 : Ex F F' := by have := r.ex0; rw [hF] at this; exact this
  have eh : ∀ a o, a ∉ S → H a = some o → H' a = some o := fun a o hna h => r.keep a o (by rw [hH]; exact h) fun z => hna (hps a z)
  have hnew : ∀ a o, F' a = some o → F a = some o ∨ H a = none ∨ a ∈ S := fun a o h => by
    rcases r.newF a o h with z | z | z
    · rw [hF] at z
      cases q : F a with
      | none => exact absurd q z
      | some u =>
        have := e0 a u q
        rw [h] at this
        cases this
        exact .inl rfl
    · rw [hH] at z; exact .inr (.inl z)
    · exact .inr (.inr (hps a z))
  refine ⟨r.ex, s.ex0.trans e0, fun a o h n => eh a o (fun z => ?_) (s.keep a o h n), fun a o h => ?_, s.len, fun i d h1 => ?_, fun i a d gs h1 => ?_, ?_⟩
  · rcases (hS a z).2 with q | q
    · rw [h] at q; cases q
    · exact n q
  · rcases hnew a o h with z | z | z
    · exact s.newF a o z
    · exact Or.inr (s.new_b z)
    · exact Or.inr (hS a z).2
  · obtain ⟨v, h2, h3⟩ := s.fz i d h1
    exact ⟨v, h2, h3.mono e0⟩
  · obtain ⟨h2, fs, h3, h4, h5⟩ := s.xc i a d gs h1
    exact ⟨h2, fs, e0 _ _ h3, h4, h5.mono e0⟩
  · obtain ⟨ft, hf⟩ := s.own
    refine ⟨ft, hf.congr e0 fun a ha => ?_⟩
    obtain ⟨h1, ⟨u, h2⟩, _⟩ := hf.owned_b ha
    have hna : a ∉ S := fun z => hn ft hf a z ha
    refine ⟨by rw [eh a u hna h2, h2], ?_⟩
    cases q : F' a with
    | none => rfl
    | some o =>
      rcases hnew a o q with z | z | z
      · rw [h1] at z; cases z
      · rw [h2] at z; cases z
      · exact absurd z hna
theorem outs_un : ∀ (n j : Nat) (i : Nat), fget (mkOuts [] (mk0 n) j) i = .un
  | 0, _, _ => rfl
  | n + 1, j, 0 => rfl
  | n + 1, j, i + 1 => outs_un n (j + 1) i
end
/-- a def of the module, with what it keeps -/
structure Dfn (P : Program) (w : World) (K : PySem.W.Frag) (mg : Str → Option Value) (base : Heap) (k : Nat) (x : Str) (mask : Mask) (nw : Option (List Str)) (mL : List D → R (List D) (D × List D)) : Prop where
  ex : ∃ (f : Addr) (fd : FuncData) (ps : List Str), FnG P w K mg base (L2.CX P w) k f fd ps (spM K mask nw mL) ∧ mg x = some (.ref f) ∧ PySem.W.keepIn K (.ref f) = true ∧ Binds K fd ps []
section
variable {X : Cx} {K : PySem.W.Frag} {E : XE} {β γ : Type} {xF : Fm} {xb : β} {env : Fm} {e : Expr} {es : List Expr} {pos p : Pos} {k n : Nat} {x : Str} {cs : (List D → R β γ) → R β γ}
/-- the promise is asked, all that is handed stands still -/
theorem sp_pure {B : Bs} {F H : Hp} {σ : L2.St} {vs : List V} {ds : List D} {Q : VK} {Ek : XK} {mL : List D → R (List D) (D × List D)} {nw : Option (List Str)} (s : SR K B F H σ env) (hA : DrA K F vs ds) (hn : ds.length = n)
    (hok : ∀ d os, mL ds = .ok (d, os) → ∀ v F' H', Ex F F' → Ex H H' → SR K B F' H' σ env → rR K nw B F' H' σ env v d → Q v H')
    (hex : ∀ x os, mL ds = .ex x os → ∀ c dd F' H', Ex F F' → SR K B F' H' σ env → XR K F' x c dd → Ek c dd H') (hno : mL ds ≠ .no) : spM K (mk0 n) nw mL vs H Q Ek := by
  refine ⟨by rw [hA.length, hn, List.length_replicate], F, ds, fun _ => False, by rw [hn, List.length_replicate], ?_, ?_⟩
  · rw [mk0_fz hn]
    exact SR.args s.ex hA rfl rfl
  · cases hm : mL ds with
    | no => exact hno hm
    | ex y os =>
      intro c dd F' H' e1 s1 x1
      exact hex y os hm c dd F' H' e1 (s.after s1 rfl rfl fun _ h => h).1 x1
    | ok q =>
      obtain ⟨d, os⟩ := q
      intro v F' H' e1 s1 r1
      obtain ⟨s2, eh⟩ := s.after s1 rfl rfl fun _ h => h
      refine hok d os hm v F' H' e1 eh s2 ?_
      cases nw with
      | none => exact r1
      | some fs =>
        obtain ⟨q, S, h1, h2, h3, h4⟩ := r1
        have h5 : ∀ a ∈ S, H a = none := fun a ha => (h3 a ha).2.elim id False.elim
        refine ⟨q, S, h1, h2, fun a ha => ⟨(h3 a ha).1, s.new_b (h5 a ha)⟩, fun ft hf a ha z => ?_⟩
        obtain ⟨i, t, d2, f2, g1, g2⟩ := z
        obtain ⟨ft0, hf0⟩ := s.own
        obtain ⟨q0, q1, q2, _⟩ := hf0.ow i t d2 f2 g1
        obtain ⟨q', r1, r2, _⟩ := hf.ow i t d2 f2 g1
        rw [q1] at r1
        cases r1
        exact foot_eq q2 eh r2 a g2 (h5 a ha)
theorem callP_core {B : Bs} {F H : Hp} {σ : L2.St} {vs : List V} {ds : List D} {Q : VK} {mf : List D → R Unit D} {nw : Option (List Str)} {k : D → R β γ} {G : R β γ → Prop} (s : SR K B F H σ env) (w : Wk env xF) (gx : Gx K B E F σ xF xb G) (d1 : DrA K F vs ds) (hl : mf ds ≠ .no → ds.length = n)
    (hk : ∀ d v F' H', G (k d) → Ex F F' → Ex H H' → SR K B F' H' σ env → rR K nw B F' H' σ env v d → Q v H') (h1 : G (R.call (mf ds) xb k)) : spM K (mk0 n) nw (Lp mf) vs H Q (E σ) := by
  have hno : mf ds ≠ .no := fun z => by rw [z] at h1; exact gx.no h1
  refine sp_pure s d1 (hl hno) (fun d os hm v F' H' e2 eh2 s2 r2 => ?_) (fun y os hm c dd F' H' e2 s2 x2 => ?_) (fun z => ?_)
  · unfold Lp at hm
    cases hq : mf ds with
    | no => exact absurd hq hno
    | ex _ _ => rw [hq] at hm; cases hm
    | ok d' =>
      rw [hq] at hm h1
      cases hm
      exact hk d v F' H' h1 e2 eh2 s2 r2
  · unfold Lp at hm
    cases hq : mf ds with
    | no => exact absurd hq hno
    | ok _ => rw [hq] at hm; cases hm
    | ex y' u =>
      rw [hq] at hm h1
      cases hm
      exact gx.ex y h1 c dd F' H' e2 (s2.wk w) x2
  · unfold Lp at z
    cases hq : mf ds with
    | no => exact hno hq
    | ok _ => rw [hq] at z; cases z
    | ex _ _ => rw [hq] at z; cases z
theorem aj_callP {mf : List D → R Unit D} (ha : AA X K E xF xb env es cs) (hl : ∀ ds, mf ds ≠ .no → ds.length = n) :
    AJ K E xF xb env (tCallSD (spM K (mk0 n) none (Lp mf)) [] E (taC X es)) (fun _ F _ _ v d => Dr K F v d) (fun (k : D → R β γ) => cs fun ds => R.call (mf ds) xb k) := fun B F H σ Q k G s w gx hk hG =>
  ha.2 B F H σ _ _ G s w gx (fun ds vs F1 H1 h1 e1 eh1 s1 d1 => by
    show spM K (mk0 n) none (Lp mf) (vs ++ []) H1 Q (E σ)
    rw [List.append_nil]
    exact callP_core s1 w (gx.mono e1) d1 (hl ds) (fun d v F' H' g e2 eh2 s2 r2 => hk d v F' H' g (e1.trans e2) (eh1.trans eh2) s2 r2) h1) hG
theorem aj_callW {mf : List D → R Unit D} {fs : List Str} (ha : AA X K E xF xb env es cs) (hl : ∀ ds, mf ds ≠ .no → ds.length = n) :
    AJ K E xF xb env (tCallSD (spM K (mk0 n) (some fs) (Lp mf)) [] E (taC X es)) (fun B F H σ v d => rN K B F H σ env v d fs) (fun (k : D → R β γ) => cs fun ds => R.call (mf ds) xb k) := fun B F H σ Q k G s w gx hk hG =>
  ha.2 B F H σ _ _ G s w gx (fun ds vs F1 H1 h1 e1 eh1 s1 d1 => by
    show spM K (mk0 n) (some fs) (Lp mf) (vs ++ []) H1 Q (E σ)
    rw [List.append_nil]
    exact callP_core s1 w (gx.mono e1) d1 (hl ds) (fun d v F' H' g e2 eh2 s2 r2 => hk d v F' H' g (e1.trans e2) (eh1.trans eh2) s2 r2) h1) hG
/-- f(a, b, ..) -/
theorem a_call {mf : List D → R Unit D} (F : Dfn X.prog X.w K X.mg X.base k x (mk0 n) none (Lp mf)) (hl : ∀ ds, mf ds ≠ .no → ds.length = n) (ha : AA X K E xF xb env (e :: es) cs) (hr : Room k X.A) (hG : Quiet X.A) (hx : ∀ σ, PassesAt (L2.CX X.prog X.w) X σ (E σ)) (hg : Gl X x)
    (hdb : (x == ("__debug__" : Str)) = false := by decide) (he : starEach (e :: es) X.env = (false, eval e X.env) :: starEach es X.env := by rfl) (hpl : (backTo pos (starEach es X.env)).any (·.1) = false := by rfl) :
    AE X K E xF xb env (.Call (.Name x p) (e :: es) [] pos) (fun (k : D → R β γ) => cs fun ds => R.call (mf ds) xb k) := by
  have hK := ha.1
  subst hK
  obtain ⟨f, fd, ps, h1, h2, h3, h4⟩ := F.ex
  exact ⟨rfl, fun B F H σ Q k G s w gx hk hG' => ⟨_, pe_callGS h1 hr hG hg h2 h3 h4 .nil hx pa_C hdb he hpl, aj_callP ha hl B F H σ Q k G s w gx hk hG'⟩⟩
theorem a_call0 {mf : List D → R Unit D} (F : Dfn X.prog X.w K X.mg X.base k x (mk0 0) none (Lp mf)) (hl : ∀ ds, mf ds ≠ .no → ds.length = 0) (hr : Room k X.A) (hG : Quiet X.A) (hx : ∀ σ, PassesAt (L2.CX X.prog X.w) X σ (E σ)) (hg : Gl X x) (hK : X.K = K := by rfl)
    (hdb : (x == ("__debug__" : Str)) = false := by decide) : AE X K E xF xb env (.Call (.Name x p) [] [] pos) (fun (k : D → R β γ) => R.call (mf []) xb k) := by
  subst hK
  obtain ⟨f, fd, ps, h1, h2, h3, h4⟩ := F.ex
  exact ⟨rfl, fun B F H σ Q k G s w gx hk hG' => ⟨_, pe_call0GS h1 hr hG hg h2 h3 h4 .nil hx hdb, callP_core (nw := none) s w gx .nil (hl []) hk hG'⟩⟩
/-- .. that gives a new thing -/
theorem a_callW {mf : List D → R Unit D} {fs : List Str} (F : Dfn X.prog X.w K X.mg X.base k x (mk0 n) (some fs) (Lp mf)) (hl : ∀ ds, mf ds ≠ .no → ds.length = n) (ha : AA X K E xF xb env (e :: es) cs) (hr : Room k X.A) (hG : Quiet X.A) (hx : ∀ σ, PassesAt (L2.CX X.prog X.w) X σ (E σ)) (hg : Gl X x)
    (hdb : (x == ("__debug__" : Str)) = false := by decide) (he : starEach (e :: es) X.env = (false, eval e X.env) :: starEach es X.env := by rfl) (hpl : (backTo pos (starEach es X.env)).any (·.1) = false := by rfl) :
    AN X K E xF xb env fs (.Call (.Name x p) (e :: es) [] pos) (fun (k : D → R β γ) => cs fun ds => R.call (mf ds) xb k) := by
  have hK := ha.1
  subst hK
  obtain ⟨f, fd, ps, h1, h2, h3, h4⟩ := F.ex
  exact ⟨rfl, fun B F H σ Q k G s w gx hk hG' => ⟨_, pe_callGS h1 hr hG hg h2 h3 h4 .nil hx pa_C hdb he hpl, aj_callW ha hl B F H σ Q k G s w gx hk hG'⟩⟩
/-- the promise is asked, the first thing that is handed is a slot's own -/
theorem sp_ref {B : Bs} {F H : Hp} {σ : L2.St} {vs : List V} {ds : List D} {Q : VK} {Ek : XK} {mL : List D → R (List D) (D × List D)} {i : Nat} {t : Option Nat} {o : D} {fs : List Str} {q : Addr} (s : SR K B F H σ env) (hi : fget env i = .ow t o fs) (hp : σ[i]? = some (some (.ref q))) (hA : DrA K F vs ds) (hn : ds.length = n)
    (hok : ∀ d os, mL (o :: ds) = .ok (d, os) → ∃ o', os = [o'] ∧ ∀ v F' H', Ex F F' → SR K B F' H' σ (fput env i (.ow t o' fs)) → Dr K F' v d → Q v H')
    (hex : ∀ x os, mL (o :: ds) = .ex x os → (∃ o', os = [o'] ∧ ∀ c dd F' H', Ex F F' → SR K B F' H' σ (fput env i (.ow t o' fs)) → XR K F' x c dd → Ek c dd H') ∨ (os = [] ∧ ∀ c dd F' H', Ex F F' → SR K B F' H' σ (fput env i .un) → XR K F' x c dd → Ek c dd H')) (hno : mL (o :: ds) ≠ .no) : spM K (some fs :: mk0 n) none mL (.ref q :: vs) H Q Ek := by
  obtain ⟨ft, hf⟩ := s.own
  obtain ⟨q', h1, h2, h3, h4⟩ := hf.ow i t o fs hi
  rw [hp] at h1
  cases h1
  have sa := SR.args (B' := ⟨F, H, fun a => a ∈ ft i, parOf (.ref q :: vs)⟩) s.ex hA rfl rfl
  have hargs : mkArgs (o :: ds) (some fs :: mk0 n) 0 = .ow (some 0) o fs :: ds.map .fz := by
    show .ow (some 0) o fs :: mkArgs ds (mk0 n) 1 = _
    rw [mk0_fz hn]
  have s0 : SR K ⟨F, H, fun a => a ∈ ft i, parOf (.ref q :: vs)⟩ F H ((V.ref q :: vs).map some) (.ow (some 0) o fs :: ds.map .fz) := by
    refine ⟨s.ex, Ex.refl F, fun _ _ h _ => h, fun a o h => Or.inl fun z => ?_, by simp [hA.length], fun j d h => ?_, fun j a d gs h => ?_, fun j => if j = 0 then ft i else [], fun j t' d f' h => ?_, fun j k t1 t2 d1 d2 f1 f2 hjk g1 g2 a a1 a2 => ?_⟩
    · have z' : F a = none := z
      rw [h] at z'; cases z'
    · cases j with
      | zero => cases h
      | succ j => exact sa.fz j d h
    · cases j with
      | zero => cases h
      | succ j => exact sa.xc j a d gs h
    · cases j with
      | zero =>
        cases h
        exact ⟨q, rfl, h2, fun a ha => ⟨(h3 a ha).1, Or.inr ha⟩, fun k hk => by cases hk; rfl⟩
      | succ j =>
        obtain ⟨d', _, z⟩ := fz_get (show fget (ds.map Sl.fz) j = _ from h) fun z => nomatch z
        cases z
    · cases j with
      | zero =>
        cases k with
        | zero => exact hjk rfl
        | succ k => simp at a2
      | succ j => simp at a1
  have back : ∀ {F' H' : Hp} {o' : D} {os : Fm}, SR K ⟨F, H, fun a => a ∈ ft i, parOf (.ref q :: vs)⟩ F' H' ((V.ref q :: vs).map some) (.ow (some 0) o' fs :: os) → SR K B F' H' σ (fput env i (.ow t o' fs)) := fun {F' H' o' os} r => by
    obtain ⟨ft', hf'⟩ := r.own
    obtain ⟨q2, g1, g2, g3, g4⟩ := hf'.ow 0 (some 0) o' fs rfl
    have : some (some (V.ref q)) = some (some (V.ref q2)) := g1
    cases this
    obtain ⟨p3, S3, k1, k2, k3, k4⟩ := s.chg hi
    rw [hp] at k1
    cases k1
    have hS : S3 = ft i := foot_same k2 (Ex.refl _) h2
    subst hS
    refine k4 F' H' o' fs (ft' 0) r.ex0 (fun a o h => ?_) r.ex (fun a o hna h => r.keep a o h hna) g2 fun a ha => ⟨?_, (g3 a ha).1⟩
    · rcases r.newF a o h with z | z | z
      · cases w : F a with
        | none => exact absurd w z
        | some u =>
          have := r.ex0 a u w
          rw [h] at this
          cases this
          exact .inl rfl
      · exact .inr (.inl z)
      · exact .inr (.inr z)
    · rcases (g3 a ha).2 with z | z
      · exact .inr z
      · exact .inl z
  refine ⟨by simp [hA.length, hn], F, o :: ds, fun a => a ∈ ft i, by simp [hn], ?_, ?_⟩
  · rw [hargs]
    exact s0
  · cases hm : mL (o :: ds) with
    | no => exact hno hm
    | ex y os =>
      rcases hex y os hm with ⟨o', rfl, hq⟩ | ⟨rfl, hq⟩
      · exact fun c dd F' H' e1 s1 x1 => hq c dd F' H' e1 (back s1) x1
      · refine fun c dd F' H' e1 s1 x1 => hq c dd F' H' e1 ((s.wk (Wk.un env i)).afterS (S := ft i) h3 (fun ft' hf' a ha z => ?_) s1 rfl rfl fun _ z => z) x1
        obtain ⟨j, t2, d2, f2, g1, g2⟩ := z
        have hij : i ≠ j := fun z => by
          subst z
          rcases fget_eq env (i := i) .un with z | z <;> (rw [z] at g1; cases g1)
        have g3 := g1
        rw [fget_ne _ _ hij] at g3
        obtain ⟨q2, q3, q4, _⟩ := hf.ow j t2 d2 f2 g3
        obtain ⟨q5, q6, q7, _⟩ := hf'.ow j t2 d2 f2 g1
        rw [q3] at q6
        cases q6
        rw [← foot_same q4 (Ex.refl _) q7] at g2
        exact hf.dis i j t t2 o d2 fs f2 hij hi g3 a ha g2
    | ok r =>
      obtain ⟨d, os⟩ := r
      obtain ⟨o', rfl, hq⟩ := hok d os hm
      exact fun v F' H' e1 s1 r1 => hq v F' H' e1 (back s1) r1
end

/-! ### the rule for a body -/
/-- the ends of a def that is handed nothing of the caller's own; n slots -/
def kP (n : Nat) (nw : Option (List Str)) : Kt Unit D where
  fx := fun _ => List.replicate n .un
  Sn := Unit
  fn := fun _ => List.replicate n .un
  kn := fun _ => match nw with
    | none => .ok .non
    | some _ => .no
  Sb := Empty
  fb := fun z => z.elim
  kb := fun z => z.elim
  Sc := Empty
  fc := fun z => z.elim
  kc := fun z => z.elim
  Sr := Unit
  fr := fun _ => List.replicate n .un
  kr := fun d _ => .ok d
  nw := nw
/-- .. of a def whose first parameter is the caller's own -/
def kR (n : Nat) (fs : List Str) : Kt D (D × D) where
  fx := fun o => .ow (some 0) o fs :: List.replicate n .un
  Sn := D
  fn := fun o => .ow (some 0) o fs :: List.replicate n .un
  kn := fun o => .ok (.non, o)
  Sb := Empty
  fb := fun z => z.elim
  kb := fun z => z.elim
  Sc := Empty
  fc := fun z => z.elim
  kc := fun z => z.elim
  Sr := D
  fr := fun o => .ow (some 0) o fs :: List.replicate n .un
  kr := fun d o => .ok (d, o)
  nw := none
/-- .. and that raises nothing -/
def kR0 (n : Nat) (fs : List Str) : Kt Unit (D × D) where
  fx := fun _ => List.replicate (n + 1) .un
  Sn := D
  fn := fun o => .ow (some 0) o fs :: List.replicate n .un
  kn := fun o => .ok (.non, o)
  Sb := Empty
  fb := fun z => z.elim
  kb := fun z => z.elim
  Sc := Empty
  fc := fun z => z.elim
  kc := fun z => z.elim
  Sr := D
  fr := fun o => .ow (some 0) o fs :: List.replicate n .un
  kr := fun d o => .ok (d, o)
  nw := none
section
variable {P : Program} {w : World} {K : PySem.W.Frag} {mg : Str → Option Value} {base : Heap}
theorem fget_app : ∀ (as bs : Fm) (i : Nat), i < as.length → fget (as ++ bs) i = fget as i
  | [], _, _, h => by simp at h
  | _ :: _, _, 0, _ => rfl
  | _ :: as, bs, i + 1, h => fget_app as bs i (by simpa using h)
theorem fget_rep : ∀ (n i : Nat), fget (List.replicate n .un) i = .un
  | 0, _ => rfl
  | n + 1, 0 => rfl
  | n + 1, i + 1 => fget_rep n i
theorem fget_apu : ∀ (as : Fm) (n i : Nat) {x : Sl}, fget (as ++ List.replicate n .un) i = x → x ≠ .un → fget as i = x
  | [], n, i, x, h, hn => absurd (h.symm.trans (fget_rep n i)) hn
  | _ :: _, _, 0, _, h, _ => h
  | _ :: as, n, i + 1, x, h, hn => fget_apu as n i h hn
/-- the frame at the start: more slots of which nothing is known -/
theorem SR.start {B : Bs} {F H : Hp} {vs : List V} {as : Fm} (s : SR K B F H (vs.map some) as) (n : Nat) : SR K B F H (vs.map some ++ List.replicate n none) (as ++ List.replicate n .un) where
  ex := s.ex
  ex0 := s.ex0
  keep := s.keep
  newF := s.newF
  len := by rw [List.length_append, List.length_append, List.length_replicate, List.length_replicate, s.len]
  fz := fun i d e => by
    have e := fget_apu as n i e fun z => nomatch z
    obtain ⟨v, h1, h2⟩ := s.fz i d e
    exact ⟨v, by rw [List.getElem?_append_left (by rw [s.len]; exact fget_lt e fun z => nomatch z)]; exact h1, h2⟩
  xc := fun i a d gs e => by
    have e := fget_apu as n i e fun z => nomatch z
    obtain ⟨h1, h2⟩ := s.xc i a d gs e
    exact ⟨by rw [List.getElem?_append_left (by rw [s.len]; exact fget_lt e fun z => nomatch z)]; exact h1, h2⟩
  own := by
    obtain ⟨ft, hf⟩ := s.own
    refine ⟨ft, fun i t d fs e => ?_, fun i j t u d e fs gs hij e1 e2 => hf.dis i j t u d e fs gs hij (fget_apu as n i e1 fun z => nomatch z) (fget_apu as n j e2 fun z => nomatch z)⟩
    have e := fget_apu as n i e fun z => nomatch z
    obtain ⟨q, h1, h2⟩ := hf.ow i t d fs e
    exact ⟨q, by rw [List.getElem?_append_left (by rw [s.len]; exact fget_lt e fun z => nomatch z)]; exact h1, h2⟩
/-- at the end nothing is known of the slots -/
theorem SR.unAll {B : Bs} {F H : Hp} {σ σ' : L2.St} {env env' : Fm} (s : SR K B F H σ env) (hu : ∀ i, fget env' i = .un) (hl : σ'.length = env'.length) : SR K B F H σ' env' where
  ex := s.ex
  ex0 := s.ex0
  keep := s.keep
  newF := s.newF
  len := hl
  fz := fun i d e => by rw [hu i] at e; cases e
  xc := fun i a d gs e => by rw [hu i] at e; cases e
  own := ⟨fun _ => [], ⟨fun i t d fs e => (by rw [hu i] at e; cases e), fun i j t u d e fs gs _ e1 => (by rw [hu i] at e1; cases e1)⟩⟩
theorem outs_len : ∀ (n j : Nat), (mkOuts [] (mk0 n) j).length = n
  | 0, _ => rfl
  | n + 1, j => by show (Sl.un :: mkOuts [] (mk0 n) (j + 1)).length = n + 1; rw [List.length_cons, outs_len n]
abbrev TakesE (X : Cx) (E : XE) : Prop := Takes X (fun c d σ H => E σ c d H)
/-- a body that keeps a promise -/
def Bod (P : Program) (w : World) (K : PySem.W.Frag) (mg : Str → Option Value) (base : Heap) (N : List Str) (qual : Str) (st : Stmt) (f : Addr) (k : Nat) (sp : Sp) : Prop :=
  ∀ (cdv : Value) (A : Around) (os : List Env) (s : Shared) (H : Hp) (vs : List V) (Q : VK) (E : XK), Room k (A.deeper (envOfC qual (defScope st) s.heap.objs.size f cdv)) → Quiet (A.deeper (envOfC qual (defScope st) s.heap.objs.size f cdv)) → sp vs H Q E →
    ∃ t, PSs (cxOf (L2.CX P w) P w K mg base N qual (defScope st) f cdv A os s H E) (defBody st) t ∧ t { nx := fun _ H' => Q .non H', rt := Q } (L2.start N vs) H
/-- a def that is handed nothing of the caller's own -/
theorem okP_b {qual : Str} {st : Stmt} {f : Addr} {N ps : List Str} {k n : Nat} {nw : Option (List Str)} {mf : List D → R Unit D} (S : FnScope N ps (defScope st)) (hn : ps.length = n)
    (hbody : ∀ (cdv : Value) (A : Around) (outer : List Env) (s : Shared) (H : Hp) (E : XK), Room k (A.deeper (envOfC qual (defScope st) s.heap.objs.size f cdv)) → Quiet (A.deeper (envOfC qual (defScope st) s.heap.objs.size f cdv)) →
      TakesE (cxOf (L2.CX P w) P w K mg base N qual (defScope st) f cdv A outer s H E) (fun _ => E) → (∀ σ, PassesAt (L2.CX P w) (cxOf (L2.CX P w) P w K mg base N qual (defScope st) f cdv A outer s H E) σ E) → PassesOwn (model P w) (A.deeper (envOfC qual (defScope st) s.heap.objs.size f cdv)) (cxOf (L2.CX P w) P w K mg base N qual (defScope st) f cdv A outer s H E).env (cxOf (L2.CX P w) P w K mg base N qual (defScope st) f cdv A outer s H E).xe →
      ∀ ds, ds.length = n → AB (cxOf (L2.CX P w) P w K mg base N qual (defScope st) f cdv A outer s H E) K (fun _ => E) (kP N.length nw) (ds.map .fz ++ List.replicate (N.length - n) .un) (defBody st) (mf ds)) :
    Bod P w K mg base N qual st f k (spM K (mk0 n) nw (Lp mf)) := by
  intro cdv A outer s H vs Q E hr hG0 h
  obtain ⟨hl, F, ds, q, hdl, sr, hq⟩ := h
  rw [List.length_replicate] at hl hdl
  rw [mk0_fz hdl] at sr
  have tk : Takes (cxOf (L2.CX P w) P w K mg base N qual (defScope st) f cdv A outer s H E) (fun cls d _ H => E cls d H) := takes_of rfl rfl rfl rfl
  have key : tsC (cxOf (L2.CX P w) P w K mg base N qual (defScope st) f cdv A outer s H E) (defBody st) { nx := fun _ H' => Q .non H', rt := Q } (vs.map some ++ List.replicate (N.length - n) none) H := by
    refine (hbody cdv A outer s H E hr hG0 tk (fun σ => passAt tk σ) (passes_of rfl) ds hdl).2 ⟨F, H, q, parOf vs⟩ F H (vs.map some ++ List.replicate (N.length - n) none) { nx := fun _ H' => Q .non H', rt := Q }
      (fun m => PostM K ⟨F, H, q, parOf vs⟩ F (vs.map some) E nw (mk0 n) Q (match m with
        | .ok d => .ok (d, [])
        | .ex x _ => .ex x []
        | .no => .no)) (sr.start _) ⟨fun z => z, fun y b hy c dd F' H' σ' e1 s1 x1 => hy c dd F' H' e1 (s1.unAll (outs_un n 0) (by rw [outs_len, List.length_map]; exact hl)) x1, fun z hz F' H' σ' e1 s1 => ?_, fun z => z.elim, fun z => z.elim, fun d z hz v F' H' σ' e1 s1 r1 => ?_⟩ hq
    · cases nw with
      | none => exact hz .non F' H' e1 (s1.unAll (outs_un n 0) (by rw [outs_len, List.length_map]; exact hl)) .non
      | some fs => exact hz.elim
    · refine hz v F' H' e1 (s1.unAll (outs_un n 0) (by rw [outs_len, List.length_map]; exact hl)) ?_
      cases nw with
      | none => exact r1
      | some fs =>
        obtain ⟨p, S, h1, h2, h3, h4⟩ := r1
        exact ⟨p, S, h1, h2, h3, fun ft hf a ha z => by obtain ⟨i, t, d, fs, e, _⟩ := z; rw [outs_un n 0 i] at e; cases e⟩
  obtain ⟨t, h1, h2⟩ := key
  refine ⟨t, h1, ?_⟩
  have hst : L2.start N vs = vs.map some ++ List.replicate (N.length - n) none := by unfold L2.start; rw [hl]
  rw [hst]
  exact h2
/-- a def that is handed nothing of the caller's own -/
theorem okP {x qual : Str} {st : Stmt} {f : Addr} {fd : FuncData} {N ps : List Str} {k n : Nat} {nw : Option (List Str)} {mf : List D → R Unit D} (Fn : Fun K x qual st f fd) (S : FnScope N ps (defScope st)) (hn : ps.length = n)
    (hbody : ∀ (cdv : Value) (A : Around) (outer : List Env) (s : Shared) (H : Hp) (E : XK), Room k (A.deeper (envOfC qual (defScope st) s.heap.objs.size f cdv)) → Quiet (A.deeper (envOfC qual (defScope st) s.heap.objs.size f cdv)) →
      TakesE (cxOf (L2.CX P w) P w K mg base N qual (defScope st) f cdv A outer s H E) (fun _ => E) → (∀ σ, PassesAt (L2.CX P w) (cxOf (L2.CX P w) P w K mg base N qual (defScope st) f cdv A outer s H E) σ E) → PassesOwn (model P w) (A.deeper (envOfC qual (defScope st) s.heap.objs.size f cdv)) (cxOf (L2.CX P w) P w K mg base N qual (defScope st) f cdv A outer s H E).env (cxOf (L2.CX P w) P w K mg base N qual (defScope st) f cdv A outer s H E).xe →
      ∀ ds, ds.length = n → AB (cxOf (L2.CX P w) P w K mg base N qual (defScope st) f cdv A outer s H E) K (fun _ => E) (kP N.length nw) (ds.map .fz ++ List.replicate (N.length - n) .un) (defBody st) (mf ds)) :
    FnG P w K mg base (L2.CX P w) (k + 1) f fd ps (spM K (mk0 n) nw (Lp mf)) := by
  exact okGX Fn S (fun vs H Q E h => h.1.trans (by rw [List.length_replicate]; exact hn.symm)) (okP_b (ps := ps) S hn hbody)
/-- a def whose first parameter is the caller's own thing -/
theorem okR {x qual : Str} {st : Stmt} {f : Addr} {fd : FuncData} {N ps : List Str} {k n m : Nat} {fs : List Str} {mf : List D → R D (D × D)} (Fn : Fun K x qual st f fd) (S : FnScope N ps (defScope st)) (hn : ps.length = n + 1) (hm : N.length = m + 1)
    (hbody : ∀ (cdv : Value) (A : Around) (outer : List Env) (s : Shared) (H : Hp) (E : XK), Room k (A.deeper (envOfC qual (defScope st) s.heap.objs.size f cdv)) → Quiet (A.deeper (envOfC qual (defScope st) s.heap.objs.size f cdv)) →
      TakesE (cxOf (L2.CX P w) P w K mg base N qual (defScope st) f cdv A outer s H E) (fun _ => E) → (∀ σ, PassesAt (L2.CX P w) (cxOf (L2.CX P w) P w K mg base N qual (defScope st) f cdv A outer s H E) σ E) → PassesOwn (model P w) (A.deeper (envOfC qual (defScope st) s.heap.objs.size f cdv)) (cxOf (L2.CX P w) P w K mg base N qual (defScope st) f cdv A outer s H E).env (cxOf (L2.CX P w) P w K mg base N qual (defScope st) f cdv A outer s H E).xe →
      ∀ o ds, ds.length = n → AB (cxOf (L2.CX P w) P w K mg base N qual (defScope st) f cdv A outer s H E) K (fun _ => E) (kR m fs) (.ow (some 0) o fs :: (ds.map .fz ++ List.replicate (N.length - (n + 1)) .un)) (defBody st) (mf (o :: ds))) :
    FnG P w K mg base (L2.CX P w) (k + 1) f fd ps (spM K (some fs :: mk0 n) none (L1 mf)) := by
  refine okGX Fn S (fun vs H Q E h => h.1.trans (by rw [List.length_cons, List.length_replicate]; exact hn.symm)) (fun cdv A outer s H vs Q E hr hG0 h => ?_)
  obtain ⟨hl, F, ds0, q, hdl, sr, hq⟩ := h
  cases ds0 with
  | nil => cases hdl
  | cons o ds =>
    rw [List.length_cons, List.length_replicate] at hl
    have hdl : ds.length = n := by simpa using hdl
    have hargs : mkArgs (o :: ds) (some fs :: mk0 n) 0 = .ow (some 0) o fs :: ds.map .fz := by
      show .ow (some 0) o fs :: mkArgs ds (mk0 n) 1 = _
      rw [mk0_fz hdl]
    rw [hargs] at sr
    have tk : Takes (cxOf (L2.CX P w) P w K mg base N qual (defScope st) f cdv A outer s H E) (fun cls d _ H => E cls d H) := takes_of rfl rfl rfl rfl
    have fin : ∀ {F' H' : Hp} {σ' : L2.St} {o' : D}, SR K ⟨F, H, q, parOf vs⟩ F' H' σ' (.ow (some 0) o' fs :: List.replicate m .un) → SR K ⟨F, H, q, parOf vs⟩ F' H' (vs.map some) (mkOuts [o'] (some fs :: mk0 n) 0) := fun {F' H' σ' o'} r => by
      obtain ⟨ft', hf'⟩ := r.own
      obtain ⟨p, g1, g2, g3, g4⟩ := hf'.ow 0 (some 0) o' fs rfl
      have g5 : parOf vs 0 = some p := g4 0 rfl
      have hv0 : (vs.map some)[0]? = some (some (V.ref p)) := by
        unfold parOf at g5
        split at g5
        · rename_i e
          cases g5
          rw [List.getElem?_map, e]
          rfl
        · cases g5
      have hu : ∀ j, j ≠ 0 → fget (mkOuts [o'] (some fs :: mk0 n) 0) j = .un := fun j hj => by
        cases j with
        | zero => exact absurd rfl hj
        | succ j => exact outs_un n 1 j
      refine ⟨r.ex, r.ex0, r.keep, r.newF, ?_, fun j d h => ?_, fun j a d gs h => ?_, ft', fun j t' d f' h => ?_, fun j k t1 t2 d1 d2 f1 f2 hjk e1 e2 => ?_⟩
      · show _ = (Sl.ow (some 0) o' fs :: mkOuts [] (mk0 n) 1).length
        rw [List.length_map, List.length_cons, outs_len]; exact hl
      · cases j with
        | zero => cases h
        | succ j => rw [hu _ (Nat.succ_ne_zero j)] at h; cases h
      · cases j with
        | zero => cases h
        | succ j => rw [hu _ (Nat.succ_ne_zero j)] at h; cases h
      · cases j with
        | zero => cases h; exact ⟨p, hv0, g2, g3, g4⟩
        | succ j => rw [hu _ (Nat.succ_ne_zero j)] at h; cases h
      · cases j with
        | succ j => rw [hu _ (Nat.succ_ne_zero j)] at e1; cases e1
        | zero =>
          cases k with
          | zero => exact absurd rfl hjk
          | succ k => rw [hu _ (Nat.succ_ne_zero k)] at e2; cases e2
    have key : tsC (cxOf (L2.CX P w) P w K mg base N qual (defScope st) f cdv A outer s H E) (defBody st) { nx := fun _ H' => Q .non H', rt := Q } (vs.map some ++ List.replicate (N.length - (n + 1)) none) H := by
      refine (hbody cdv A outer s H E hr hG0 tk (fun σ => passAt tk σ) (passes_of rfl) o ds hdl).2 ⟨F, H, q, parOf vs⟩ F H (vs.map some ++ List.replicate (N.length - (n + 1)) none) { nx := fun _ H' => Q .non H', rt := Q }
        (fun m => PostM K ⟨F, H, q, parOf vs⟩ F (vs.map some) E none (some fs :: mk0 n) Q (match m with
          | .ok (d, o) => .ok (d, [o])
          | .ex x o => .ex x [o]
          | .no => .no)) (sr.start _) ⟨fun z => z, fun y b hy c dd F' H' σ' e1 s1 x1 => hy c dd F' H' e1 (fin s1) x1, fun z hz F' H' σ' e1 s1 => hz .non F' H' e1 (fin s1) .non, fun z => z.elim, fun z => z.elim, fun d z hz v F' H' σ' e1 s1 r1 => hz v F' H' e1 (fin s1) r1⟩ hq
    obtain ⟨t, h1, h2⟩ := key
    refine ⟨t, h1, ?_⟩
    have hst : L2.start N vs = vs.map some ++ List.replicate (N.length - (n + 1)) none := by unfold L2.start; rw [hl]
    rw [hst]
    exact h2
/-- .. that raises nothing -/
theorem okR0_b {qual : Str} {st : Stmt} {f : Addr} {N ps : List Str} {k n m : Nat} {fs : List Str} {mf : List D → R Unit (D × D)} (S : FnScope N ps (defScope st)) (hn : ps.length = n + 1) (hm : N.length = m + 1)
    (hbody : ∀ (cdv : Value) (A : Around) (outer : List Env) (s : Shared) (H : Hp) (E : XK), Room k (A.deeper (envOfC qual (defScope st) s.heap.objs.size f cdv)) → Quiet (A.deeper (envOfC qual (defScope st) s.heap.objs.size f cdv)) →
      TakesE (cxOf (L2.CX P w) P w K mg base N qual (defScope st) f cdv A outer s H E) (fun _ => E) → (∀ σ, PassesAt (L2.CX P w) (cxOf (L2.CX P w) P w K mg base N qual (defScope st) f cdv A outer s H E) σ E) → PassesOwn (model P w) (A.deeper (envOfC qual (defScope st) s.heap.objs.size f cdv)) (cxOf (L2.CX P w) P w K mg base N qual (defScope st) f cdv A outer s H E).env (cxOf (L2.CX P w) P w K mg base N qual (defScope st) f cdv A outer s H E).xe →
      ∀ o ds, ds.length = n → AB (cxOf (L2.CX P w) P w K mg base N qual (defScope st) f cdv A outer s H E) K (fun _ => E) (kR0 m fs) (.ow (some 0) o fs :: (ds.map .fz ++ List.replicate (N.length - (n + 1)) .un)) (defBody st) (mf (o :: ds))) :
    Bod P w K mg base N qual st f k (spM K (some fs :: mk0 n) none (L1e mf)) := by
  intro cdv A outer s H vs Q E hr hG0 h
  obtain ⟨hl, F, ds0, q, hdl, sr, hq⟩ := h
  cases ds0 with
  | nil => cases hdl
  | cons o ds =>
    rw [List.length_cons, List.length_replicate] at hl
    have hdl : ds.length = n := by simpa using hdl
    have hargs : mkArgs (o :: ds) (some fs :: mk0 n) 0 = .ow (some 0) o fs :: ds.map .fz := by
      show .ow (some 0) o fs :: mkArgs ds (mk0 n) 1 = _
      rw [mk0_fz hdl]
    rw [hargs] at sr
    have tk : Takes (cxOf (L2.CX P w) P w K mg base N qual (defScope st) f cdv A outer s H E) (fun cls d _ H => E cls d H) := takes_of rfl rfl rfl rfl
    have fin : ∀ {F' H' : Hp} {σ' : L2.St} {o' : D}, SR K ⟨F, H, q, parOf vs⟩ F' H' σ' (.ow (some 0) o' fs :: List.replicate m .un) → SR K ⟨F, H, q, parOf vs⟩ F' H' (vs.map some) (mkOuts [o'] (some fs :: mk0 n) 0) := fun {F' H' σ' o'} r => by
      obtain ⟨ft', hf'⟩ := r.own
      obtain ⟨p, g1, g2, g3, g4⟩ := hf'.ow 0 (some 0) o' fs rfl
      have g5 : parOf vs 0 = some p := g4 0 rfl
      have hv0 : (vs.map some)[0]? = some (some (V.ref p)) := by
        unfold parOf at g5
        split at g5
        · rename_i e
          cases g5
          rw [List.getElem?_map, e]
          rfl
        · cases g5
      have hu : ∀ j, j ≠ 0 → fget (mkOuts [o'] (some fs :: mk0 n) 0) j = .un := fun j hj => by
        cases j with
        | zero => exact absurd rfl hj
        | succ j => exact outs_un n 1 j
      refine ⟨r.ex, r.ex0, r.keep, r.newF, ?_, fun j d h => ?_, fun j a d gs h => ?_, ft', fun j t' d f' h => ?_, fun j k t1 t2 d1 d2 f1 f2 hjk e1 e2 => ?_⟩
      · show _ = (Sl.ow (some 0) o' fs :: mkOuts [] (mk0 n) 1).length
        rw [List.length_map, List.length_cons, outs_len]; exact hl
      · cases j with
        | zero => cases h
        | succ j => rw [hu _ (Nat.succ_ne_zero j)] at h; cases h
      · cases j with
        | zero => cases h
        | succ j => rw [hu _ (Nat.succ_ne_zero j)] at h; cases h
      · cases j with
        | zero => cases h; exact ⟨p, hv0, g2, g3, g4⟩
        | succ j => rw [hu _ (Nat.succ_ne_zero j)] at h; cases h
      · cases j with
        | succ j => rw [hu _ (Nat.succ_ne_zero j)] at e1; cases e1
        | zero =>
          cases k with
          | zero => exact absurd rfl hjk
          | succ k => rw [hu _ (Nat.succ_ne_zero k)] at e2; cases e2
    have key : tsC (cxOf (L2.CX P w) P w K mg base N qual (defScope st) f cdv A outer s H E) (defBody st) { nx := fun _ H' => Q .non H', rt := Q } (vs.map some ++ List.replicate (N.length - (n + 1)) none) H := by
      refine (hbody cdv A outer s H E hr hG0 tk (fun σ => passAt tk σ) (passes_of rfl) o ds hdl).2 ⟨F, H, q, parOf vs⟩ F H (vs.map some ++ List.replicate (N.length - (n + 1)) none) { nx := fun _ H' => Q .non H', rt := Q }
        (fun m => PostM K ⟨F, H, q, parOf vs⟩ F (vs.map some) E none (some fs :: mk0 n) Q (match m with
          | .ok (d, o) => .ok (d, [o])
          | .ex x _ => .ex x []
          | .no => .no)) (sr.start _) ⟨fun z => z, fun y b hy c dd F' H' σ' e1 s1 x1 => hy c dd F' H' e1 (s1.unAll (fun j => by cases j with | zero => rfl | succ j => exact outs_un n 1 j) (by show _ = (Sl.un :: mkOuts [] (mk0 n) 1).length; rw [List.length_map, List.length_cons, outs_len]; exact hl)) x1, fun z hz F' H' σ' e1 s1 => hz .non F' H' e1 (fin s1) .non, fun z => z.elim, fun z => z.elim, fun d z hz v F' H' σ' e1 s1 r1 => hz v F' H' e1 (fin s1) r1⟩ hq
    obtain ⟨t, h1, h2⟩ := key
    refine ⟨t, h1, ?_⟩
    have hst : L2.start N vs = vs.map some ++ List.replicate (N.length - (n + 1)) none := by unfold L2.start; rw [hl]
    rw [hst]
    exact h2
/-- .. that raises nothing -/
theorem okR0 {x qual : Str} {st : Stmt} {f : Addr} {fd : FuncData} {N ps : List Str} {k n m : Nat} {fs : List Str} {mf : List D → R Unit (D × D)} (Fn : Fun K x qual st f fd) (S : FnScope N ps (defScope st)) (hn : ps.length = n + 1) (hm : N.length = m + 1)
    (hbody : ∀ (cdv : Value) (A : Around) (outer : List Env) (s : Shared) (H : Hp) (E : XK), Room k (A.deeper (envOfC qual (defScope st) s.heap.objs.size f cdv)) → Quiet (A.deeper (envOfC qual (defScope st) s.heap.objs.size f cdv)) →
      TakesE (cxOf (L2.CX P w) P w K mg base N qual (defScope st) f cdv A outer s H E) (fun _ => E) → (∀ σ, PassesAt (L2.CX P w) (cxOf (L2.CX P w) P w K mg base N qual (defScope st) f cdv A outer s H E) σ E) → PassesOwn (model P w) (A.deeper (envOfC qual (defScope st) s.heap.objs.size f cdv)) (cxOf (L2.CX P w) P w K mg base N qual (defScope st) f cdv A outer s H E).env (cxOf (L2.CX P w) P w K mg base N qual (defScope st) f cdv A outer s H E).xe →
      ∀ o ds, ds.length = n → AB (cxOf (L2.CX P w) P w K mg base N qual (defScope st) f cdv A outer s H E) K (fun _ => E) (kR0 m fs) (.ow (some 0) o fs :: (ds.map .fz ++ List.replicate (N.length - (n + 1)) .un)) (defBody st) (mf (o :: ds))) :
    FnG P w K mg base (L2.CX P w) (k + 1) f fd ps (spM K (some fs :: mk0 n) none (L1e mf)) := by
  exact okGX Fn S (fun vs H Q E h => h.1.trans (by rw [List.length_cons, List.length_replicate]; exact hn.symm)) (okR0_b (ps := ps) S hn hm hbody)
end
end DM

/-! The end: the script that the law is handed is no object of the module's own. -/
namespace DM
open PySem PySem.Spec PyProof.Rows L2 DL
def intV : Value → Bool
  | .int _ _ => true
  | _ => false
/-- a list of whole numbers -/
def intL (o : Obj) : Bool := match o.data with
  | .seq its _ => match its.toList.all intV with
    | true => match o.cls with
      | .type t => t == "list"
      | _ => false
    | false => false
  | _ => false
def noL : PySem.W.Frag → Bool
  | [] => true
  | p :: r => match intL p.2 with
    | true => false
    | false => noL r
theorem noL_look {K : PySem.W.Frag} {a : Addr} {o : Obj} (h : noL K = true) (l : K.lookup a = some o) : intL o = false := by
  induction K with
  | nil => cases l
  | cons p r ih =>
    unfold noL at h
    split at h
    · cases h
    · rename_i hp
      obtain ⟨b, x⟩ := p
      simp only [List.lookup] at l
      split at l
      · cases l; exact hp
      · exact ih h l
theorem vals_int : ∀ {ns : List Int} {us : List Value}, Vals (ns.map V.int) us → us.all intV = true
  | [], _, .nil => rfl
  | n :: ns, _, .cons ⟨t, e⟩ h => by
    subst e
    rw [List.all_cons, vals_int h]; rfl
theorem sql_rd {K : PySem.W.Frag} {H : Hp} {a : Addr} {ns : List Int} (h : noL K = true) (s : SqL K H a (ns.map V.int)) : Rd H a (.lst (ns.map V.int)) := by
  rcases s with s | ⟨o, its, n, l, c, _, d, _, v⟩
  · exact s
  · have := noL_look h l
    unfold intL at this
    rw [d, c] at this
    simp only [vals_int v] at this
    cases this
theorem dra_ints (K : PySem.W.Frag) (F : Hp) : ∀ ns : List Int, DrA K F (ns.map V.int) (ns.map D.int)
  | [] => .nil
  | n :: ns => .cons (.int n) (dra_ints K F ns)
theorem law_sp {K : PySem.W.Frag} {H : Hp} {a : Addr} {ns : List Int} {mf : List D → R Unit D} (s : SqL K H a (ns.map V.int)) (h : noL K = true) (hm : mf [.lst (ns.map .int)] = .ok (.bl true)) : spM K (mk0 1) none (Lp mf) [.ref a] H (fun v _ => v = .bl true) fun _ _ _ => False := by
  refine ⟨rfl, H, [.lst (ns.map .int)], fun _ => False, rfl, ?_, ?_⟩
  · exact SR.args (ds := [.lst (ns.map .int)]) (Ex.refl H) (.cons (.lst (sql_rd h s) (dra_ints K H ns)) .nil) rfl rfl
  · unfold Lp
    rw [hm]
    intro v F' H' _ _ r
    have r : Dr K F' v (.bl true) := r
    cases r
    rfl
/-- the goal that k_head leaves, from the law's promise -/
theorem noL_none {K : PySem.W.Frag} {a : Addr} {vs : List Value} {ns : List Int} (h : noL K = true) (hi : IntsAre vs ns) {hp : Heap} (X : K.In hp) (ha : hp.get? a = some { cls := .type "list", data := .seq vs.toArray }) : K.lookup a = none := by
  cases e : K.lookup a with
  | none => rfl
  | some o =>
    have q := noL_look h e
    have q2 := X a o e
    rw [ha] at q2
    cases q2
    unfold intL at q
    have v := vals_int (vals_ints hi)
    simp only [List.toList_toArray, v] at q
    cases q
theorem walkM {l : PySem.W.OpenLaw} {n k : Nat} {q : Program} {loose : List Str} {XP : (Str → Option Value) → Heap → Prop} {YP : World → Heap → Prop} {d : DefRec} {K : Params → PySem.W.Frag} {mf : List D → R Unit D} {x : Str}
    (hn : l.most = some n) (hn2 : n ≤ sizeLine) (hdf : d.params.defaults = []) (hr : Room k callerA)
    (hY : ∀ (w : World) (h : Heap), YP w h → (K w.params).In h)
    (hL : ∀ w : World, noL (K w.params) = true)
    (hG : ∀ ns : List Int, ns.length ≤ n → mf [.lst (ns.map .int)] = .ok (.bl true))
    (F : ∀ (w : World) (mg : Str → Option Value) (fa : Addr) (h : Heap), (K w.params).In h → h.Ns mainGlobals mg → mg d.name = some (.ref fa) →
      ∃ fd : FuncData, (∀ (s : Shared) (u : Value), BindsTo s fd ⟨[u], []⟩ [(x, u)]) ∧
        ∀ base : Heap, (K w.params).In base → base.Ns mainGlobals mg → FnG l.prog w (K w.params) mg base (L2.CX l.prog w) k fa fd [x] (spM (K w.params) (mk0 1) none (Lp mf))) :
    PySem.W.WalkO q loose XP YP l.row.toRowW d [] (fun f vs => PySem.call f vs) := by
  refine Att.attach_call hn hdf fun w s₀ s₁ mg mb fa o pm cd doc a vs ns T Y ho hd hcd hmg hobj hints hlen hg => ?_
  have KX := hY w _ Y
  obtain ⟨fd, hb, hF⟩ := F w mg fa _ KX T.T.g hmg
  refine headG KX T.T.g T.T.b T.T.builtins T.T.nolimit hg hobj hints (Nat.le_trans hlen hn2) hr (noL_none (hL w) hints KX hobj) hF hb (fun ob => ?_) fun H e s' hc => ?_
  · exact law_sp (Or.inl (Or.inr ⟨ob, scrH_at a ob ns⟩)) (hL w) (hG ns hlen)
  · obtain ⟨_, _, _, _, _, _, _, _, _, _, _, _, z⟩ := hc
    exact z
end DM

/-! Expressions that change one slot's own thing. -/
namespace DM
open PySem PySem.Spec PyProof.Rows L2 DL
theorem fput_same : ∀ {env : Fm} {i : Nat} {x : Sl}, fget env i = x → x ≠ .un → fput env i x = env
  | [], _, _, h, n => absurd h.symm n
  | _ :: _, 0, _, h, _ => by cases h; rfl
  | y :: xs, i + 1, x, h, n => by show y :: _ = y :: _; rw [fput_same (env := xs) (i := i) h n]
theorem wk_un : ∀ {env : Fm} {n : Nat}, env.length = n → Wk env (List.replicate n .un)
  | [], 0, _ => .nil
  | _ :: xs, n + 1, h => .d (wk_un (by simpa using h))
theorem wk_un_of {env xF : Fm} {i : Nat} {tag : Option Nat} {fs : List Str} (h : ∀ w, Wk (fput env i (.ow tag w fs)) xF) : Wk (fput env i .un) xF := by
  have hu : fget xF i = .un := by
    rcases (h .non).get i with z | z
    · rcases (h (.bl true)).get i with z2 | z2
      · rcases fget_eq env (i := i) (.ow tag .non fs) with q | q
        · rcases fget_eq env (i := i) (.ow tag (.bl true) fs) with q2 | q2
          · rw [q] at z; rw [q2, z] at z2; cases z2
          · rw [q2] at z2; exact z2
        · rw [q] at z; exact z
      · exact z2
    · exact z
  have := (h .non).put i .un hu
  rw [fput_put] at this
  exact this
section
variable (K : PySem.W.Frag) (E : XE) {β γ b a : Type} (xF : Fm) (xb : β) (env : Fm) (i : Nat) (tag : Option Nat) (fs : List Str) (w : D)
def AFJ (t : TB b) (rel : Bs → Hp → Hp → L2.St → b → a → Prop) (c : (a → D → R β γ) → R β γ) : Prop :=
  ∀ B F H σ Q k (G : R β γ → Prop), SR K B F H σ (fput env i (.ow tag w fs)) → (∀ w, Wk (fput env i (.ow tag w fs)) xF) → Gx K B E F σ xF xb G →
    (∀ d w' v F' H', G (k d w') → Ex F F' → SR K B F' H' σ (fput env i (.ow tag w' fs)) → rel B F' H' σ v d → Q v H') → G (c k) → t σ H Q
end
section
variable (X : Cx) (K : PySem.W.Frag) (E : XE) {β γ : Type} (xF : Fm) (xb : β) (env : Fm) (i : Nat) (tag : Option Nat) (fs : List Str) (w : D)
def AF (e : Expr) (c : (D → D → R β γ) → R β γ) : Prop := X.K = K ∧ AFJ K E xF xb env i tag fs w (teC X e) (fun _ F _ _ v d => Dr K F v d) c
def AFT (e : Expr) (c : (Bool → D → R β γ) → R β γ) : Prop := X.K = K ∧ AFJ K E xF xb env i tag fs w (ttC X e) (fun _ _ _ _ v d => v = d) c
def AFW (e : Expr) (c : (Bool → D → R β γ) → R β γ) : Prop := X.K = K ∧ AFJ K E xF xb env i tag fs w (twC X e) (fun _ _ _ _ v d => v = d) c
def AFA (es : List Expr) (c : (List D → D → R β γ) → R β γ) : Prop := X.K = K ∧ AFJ K E xF xb env i tag fs w (taC X es) (fun _ F _ _ vs ds => DrA K F vs ds) c
def AFO (e : Option Expr) (c : (Option Int → D → R β γ) → R β γ) : Prop := X.K = K ∧ AFJ K E xF xb env i tag fs w (toC X e) (fun _ _ _ _ v d => v = d) c
def AFI (tg iter : Expr) (c : (List D → D → R β γ) → R β γ) : Prop := X.K = K ∧ AFJ K E xF xb env i tag fs w (tiC X tg iter) (fun _ F _ _ J ds => rI K F J ds) c
end
section
variable {X : Cx} {K : PySem.W.Frag} {E : XE} {β γ : Type} {xF : Fm} {xb : β} {env : Fm} {i : Nat} {tag : Option Nat} {fs : List Str} {w : D} {e a b c : Expr} {es : List Expr} {pos p : Pos} {c1 : (D → D → R β γ) → R β γ} {c2 : D → (D → D → R β γ) → R β γ}
theorem AJ.lift {b a : Type} {t : TB b} {rel : Bs → Hp → Hp → L2.St → b → a → Prop} {c : (a → R β γ) → R β γ} (h : AJ K E xF xb (fput env i (.ow tag w fs)) t rel c) : AFJ K E xF xb env i tag fs w t rel (fun k => c fun d => k d w) := fun B F H σ Q k G s wk gx hk hG =>
  h B F H σ Q _ G s (wk w) gx (fun d v F' H' g e eh s' r => hk d w v F' H' g e s' r) hG
theorem AE.lift {c : (D → R β γ) → R β γ} (h : AE X K E xF xb (fput env i (.ow tag w fs)) e c) : AF X K E xF xb env i tag fs w e (fun k => c fun d => k d w) := ⟨h.1, AJ.lift h.2⟩
theorem AT.lift {c : (Bool → R β γ) → R β γ} (h : AT X K E xF xb (fput env i (.ow tag w fs)) e c) : AFT X K E xF xb env i tag fs w e (fun k => c fun d => k d w) := ⟨h.1, AJ.lift h.2⟩
theorem AA.lift {c : (List D → R β γ) → R β γ} (h : AA X K E xF xb (fput env i (.ow tag w fs)) es c) : AFA X K E xF xb env i tag fs w es (fun k => c fun d => k d w) := ⟨h.1, AJ.lift h.2⟩
theorem AO.lift {e : Option Expr} {c : (Option Int → R β γ) → R β γ} (h : AO X K E xF xb (fput env i (.ow tag w fs)) e c) : AFO X K E xF xb env i tag fs w e (fun k => c fun d => k d w) := ⟨h.1, AJ.lift h.2⟩
theorem AI.lift {tg : Expr} {c : (List D → R β γ) → R β γ} (h : AI X K E xF xb (fput env i (.ow tag w fs)) tg e c) : AFI X K E xF xb env i tag fs w tg e (fun k => c fun d => k d w) := ⟨h.1, AJ.lift h.2⟩

/-! ### operators -/
theorem afj_op {r : R2} {g : D → D → Option D} (hg : OpD K r g) (ha : AF X K E xF xb env i tag fs w a c1) (hb : ∀ w, AF X K E xF xb env i tag fs w b (c2 w)) :
    AFJ K E xF xb env i tag fs w (tOp r (teC X a) (teC X b)) (fun _ F _ _ v d => Dr K F v d) (fun (k : D → D → R β γ) => c1 fun x w1 => c2 w1 fun y w2 => R.lft (g x y) fun z => k z w2) := fun B F H σ Q k G s wk gx hk hG =>
  ha.2 B F H σ _ _ G s wk gx (fun x w1 v F1 H1 h1 e1 s1 d1 => (hb w1).2 B F1 H1 σ _ _ G s1 wk (gx.mono e1) (fun y w2 u F2 H2 h2 e2 s2 d2 => by
    cases hc : g x y with
    | none => rw [hc] at h2; exact (gx.no h2).elim
    | some z =>
      rw [hc] at h2
      exact hg B F2 H2 σ _ v u x y z Q s2 (.inl (d1.mono e2)) (.inl d2) hc fun v' F' H' e' _ s' d' => hk z w2 v' F' H' h2 (e1.trans (e2.trans e')) s' d') h1) hG
theorem af_op {op : Operator} {r : R2} {g : D → D → Option D} (ho : OpR X (binaryOp op) r) (hg : OpD K r g) (ha : AF X K E xF xb env i tag fs w a c1) (hb : ∀ w, AF X K E xF xb env i tag fs w b (c2 w)) : AF X K E xF xb env i tag fs w (.BinOp a op b pos) (fun (k : D → D → R β γ) => c1 fun x w1 => c2 w1 fun y w2 => R.lft (g x y) fun z => k z w2) :=
  ⟨ha.1, fun B F H σ Q k G s wk gx hk hG => ⟨_, pe_op ho pe_C pe_C, afj_op hg ha hb B F H σ Q k G s wk gx hk hG⟩⟩
theorem af_cmp {op : CmpOp} {r : R2} {g : D → D → Option D} (ho : OpR X (compareOp op) r) (hg : OpD K r g) (ha : AF X K E xF xb env i tag fs w a c1) (hb : ∀ w, AF X K E xF xb env i tag fs w b (c2 w)) (hm : behindInMarks op b = false) : AF X K E xF xb env i tag fs w (.Compare a [op] [b] pos) (fun (k : D → D → R β γ) => c1 fun x w1 => c2 w1 fun y w2 => R.lft (g x y) fun z => k z w2) :=
  ⟨ha.1, fun B F H σ Q k G s wk gx hk hG => ⟨_, pe_cmpR ho pe_C pe_C hm, afj_op hg ha hb B F H σ Q k G s wk gx hk hG⟩⟩
theorem af_ix (ha : AF X K E xF xb env i tag fs w a c1) (hb : ∀ w, AF X K E xF xb env i tag fs w b (c2 w)) (hs : PlainIx b := by exact fun _ _ => rfl) : AF X K E xF xb env i tag fs w (.Subscript a b pos) (fun (k : D → D → R β γ) => c1 fun x w1 => c2 w1 fun y w2 => R.lft (ixG x y) fun z => k z w2) :=
  ⟨ha.1, fun B F H σ Q k G s wk gx hk hG => ⟨_, pe_ix ix_seq pe_C pe_C hs, afj_op (ha.1 ▸ od_ix) ha hb B F H σ Q k G s wk gx hk hG⟩⟩
theorem afj_test {t : TE} (h : AFJ K E xF xb env i tag fs w t (fun _ F _ _ v d => Dr K F v d) c1) : AFJ K E xF xb env i tag fs w (tTest t) (fun _ _ _ _ v d => v = d) (fun (k : Bool → D → R β γ) => c1 fun d w1 => R.asB d fun b => k b w1) := fun B F H σ Q k G s wk gx hk hG =>
  h B F H σ _ _ G s wk gx (fun d w1 v F1 H1 h1 e1 s1 d1 => by
    cases d <;> first | exact (gx.no h1).elim | skip
    cases d1
    exact ⟨_, rfl, hk _ w1 _ F1 H1 h1 e1 s1 rfl⟩) hG
theorem aft_cmp {op : CmpOp} {r : R2} {g : D → D → Option D} (ho : OpR X (compareOp op) r) (hg : OpD K r g) (ha : AF X K E xF xb env i tag fs w a c1) (hb : ∀ w, AF X K E xF xb env i tag fs w b (c2 w)) (hm : behindInMarks op b = false) : AFT X K E xF xb env i tag fs w (.Compare a [op] [b] pos) (fun (k : Bool → D → R β γ) => c1 fun x w1 => c2 w1 fun y w2 => R.lft (g x y) fun z => R.asB z fun b => k b w2) :=
  ⟨ha.1, fun B F H σ Q k G s wk gx hk hG => ⟨_, pt_cmpR ho pe_C pe_C hm, afj_test (afj_op hg ha hb) B F H σ Q k G s wk gx hk hG⟩⟩
theorem aft_val (h : AF X K E xF xb env i tag fs w e c1) (he : ∀ whole, isTrue e X.env whole = (do let v ← whole; standAt e.pos; holding [v] (truthy v)) := by intro _; rfl) : AFT X K E xF xb env i tag fs w e (fun (k : Bool → D → R β γ) => c1 fun d w1 => R.asB d fun b => k b w1) :=
  ⟨h.1, fun B F H σ Q k G s wk gx hk hG => ⟨_, pt_val pe_C he, afj_test h.2 B F H σ Q k G s wk gx hk hG⟩⟩
theorem aft_not {ct : (Bool → D → R β γ) → R β γ} (h : AFT X K E xF xb env i tag fs w e ct) : AFT X K E xF xb env i tag fs w (.UnaryOp .Not e pos) (fun (k : Bool → D → R β γ) => ct fun b w1 => k (!b) w1) :=
  ⟨h.1, fun B F H σ Q k G s wk gx hk hG => ⟨_, pt_not pt_C, h.2 B F H σ _ _ G s wk gx (fun d w1 v F1 H1 h1 e1 s1 d1 => by subst d1; exact hk _ w1 _ F1 H1 h1 e1 s1 rfl) hG⟩⟩
/-- a direct value and what the thing is then, and on -/
def R.bind2 {β α γ : Type} (m : R β (α × D)) (k : α → D → R β γ) : R β γ := match m with
  | .ok (a, w) => k a w
  | .ex x b => .ex x b
  | .no => .no
def Gd2 {β α γ : Type} (G : R β γ → Prop) (k : α → D → R β γ) : R β (α × D) → Prop := fun m => G (R.bind2 m k)
theorem Gd2.gx {B : Bs} {F : Hp} {σ : L2.St} {α : Type} {G : R β γ → Prop} {k : α → D → R β γ} (g : Gx K B E F σ xF xb G) : Gx K B E F σ xF xb (Gd2 G k) := ⟨g.no, g.ex⟩
theorem afw_and1 {ct : (Bool → D → R β γ) → R β γ} (h : AFT X K E xF xb env i tag fs w a ct) : AFW X K E xF xb env i tag fs w (.BoolOp .And [a] pos) ct :=
  ⟨h.1, fun B F H σ Q k G s wk gx hk hG => ⟨_, pw_and1 pt_C, h.2 B F H σ Q k G s wk gx hk hG⟩⟩
theorem afw_or1 {ct : (Bool → D → R β γ) → R β γ} (h : AFT X K E xF xb env i tag fs w a ct) : AFW X K E xF xb env i tag fs w (.BoolOp .Or [a] pos) ct :=
  ⟨h.1, fun B F H σ Q k G s wk gx hk hG => ⟨_, pw_or1 pt_C, h.2 B F H σ Q k G s wk gx hk hG⟩⟩
theorem afw_and {ct : (Bool → D → R β (Bool × D)) → R β (Bool × D)} {cu : D → (Bool → D → R β (Bool × D)) → R β (Bool × D)} {rest : List Expr} (h : AFT X K E xF xb env i tag fs w a ct) (h' : ∀ w, AFW X K E xF xb env i tag fs w (.BoolOp .And (b :: rest) pos) (cu w)) :
    AFW X K E xF xb env i tag fs w (.BoolOp .And (a :: b :: rest) pos) (fun (k : Bool → D → R β γ) => R.bind2 (ct fun x w1 => if x then cu w1 fun b w => .ok (b, w) else .ok (false, w1)) k) :=
  ⟨h.1, fun B F H σ Q k G s wk gx hk hG => ⟨_, pw_and pt_C pw_C, h.2 B F H σ _ _ (Gd2 G k) s wk (Gd2.gx gx) (fun d w1 v F1 H1 h1 e1 s1 d1 => by
    subst d1
    cases v with
    | true => exact iteT ((h' w1).2 B F1 H1 σ _ (fun b w => .ok (b, w)) (Gd2 G k) s1 wk ((Gd2.gx gx).mono e1) (fun d w2 v F2 H2 h2 e2 s2 d2 => hk d w2 v F2 H2 h2 (e1.trans e2) s2 d2) h1)
    | false => exact iteF (hk _ w1 _ F1 H1 h1 e1 s1 rfl)) hG⟩⟩
theorem afw_or {ct : (Bool → D → R β (Bool × D)) → R β (Bool × D)} {cu : D → (Bool → D → R β (Bool × D)) → R β (Bool × D)} {rest : List Expr} (h : AFT X K E xF xb env i tag fs w a ct) (h' : ∀ w, AFW X K E xF xb env i tag fs w (.BoolOp .Or (b :: rest) pos) (cu w)) :
    AFW X K E xF xb env i tag fs w (.BoolOp .Or (a :: b :: rest) pos) (fun (k : Bool → D → R β γ) => R.bind2 (ct fun x w1 => if x then .ok (true, w1) else cu w1 fun b w => .ok (b, w)) k) :=
  ⟨h.1, fun B F H σ Q k G s wk gx hk hG => ⟨_, pw_or pt_C pw_C, h.2 B F H σ _ _ (Gd2 G k) s wk (Gd2.gx gx) (fun d w1 v F1 H1 h1 e1 s1 d1 => by
    subst d1
    cases v with
    | false => exact iteF ((h' w1).2 B F1 H1 σ _ (fun b w => .ok (b, w)) (Gd2 G k) s1 wk ((Gd2.gx gx).mono e1) (fun d w2 v F2 H2 h2 e2 s2 d2 => hk d w2 v F2 H2 h2 (e1.trans e2) s2 d2) h1)
    | true => exact iteT (hk _ w1 _ F1 H1 h1 e1 s1 rfl)) hG⟩⟩
theorem AFW.at {ct : (Bool → D → R β γ) → R β γ} (h : AFW X K E xF xb env i tag fs w e ct) : AFT X K E xF xb env i tag fs w e ct :=
  ⟨h.1, fun B F H σ Q k G s wk gx hk hG => ⟨_, PW.pt pw_C, h.2 B F H σ Q k G s wk gx hk hG⟩⟩
theorem af_if {ct : (Bool → D → R β (D × D)) → R β (D × D)} {d1 d2 : D → (D → D → R β (D × D)) → R β (D × D)} (h : AFT X K E xF xb env i tag fs w c ct) (ha : ∀ w, AF X K E xF xb env i tag fs w a (d1 w)) (hb : ∀ w, AF X K E xF xb env i tag fs w b (d2 w)) :
    AF X K E xF xb env i tag fs w (.IfExp c a b pos) (fun (k : D → D → R β γ) => R.bind2 (ct fun x w1 => if x then d1 w1 fun d w => .ok (d, w) else d2 w1 fun d w => .ok (d, w)) k) :=
  ⟨h.1, fun B F H σ Q k G s wk gx hk hG => ⟨_, pe_ifExp pt_C pe_C pe_C, h.2 B F H σ _ _ (Gd2 G k) s wk (Gd2.gx gx) (fun d w1 v F1 H1 h1 e1 s1 r1 => by
    subst r1
    cases v with
    | true => exact iteT ((ha w1).2 B F1 H1 σ _ (fun b w => .ok (b, w)) (Gd2 G k) s1 wk ((Gd2.gx gx).mono e1) (fun d w2 v F2 H2 h2 e2 s2 d2 => hk d w2 v F2 H2 h2 (e1.trans e2) s2 d2) h1)
    | false => exact iteF ((hb w1).2 B F1 H1 σ _ (fun b w => .ok (b, w)) (Gd2 G k) s1 wk ((Gd2.gx gx).mono e1) (fun d w2 v F2 H2 h2 e2 s2 d2 => hk d w2 v F2 H2 h2 (e1.trans e2) s2 d2) h1)) hG⟩⟩

/-! ### several items, displays -/
theorem afa_cons {cs : D → (List D → D → R β γ) → R β γ} (ha : AF X K E xF xb env i tag fs w e c1) (hr : ∀ w, AFA X K E xF xb env i tag fs w es (cs w)) (hs : starEach (e :: es) X.env = (false, eval e X.env) :: starEach es X.env := by rfl) : AFA X K E xF xb env i tag fs w (e :: es) (fun (k : List D → D → R β γ) => c1 fun d w1 => cs w1 fun ds w2 => k (d :: ds) w2) :=
  ⟨ha.1, fun B F H σ Q k G s wk gx hk hG => ⟨_, pa_cons pe_C pa_C hs, ha.2 B F H σ _ _ G s wk gx (fun d w1 v F1 H1 h1 e1 s1 d1 => (hr w1).2 B F1 H1 σ _ _ G s1 wk (gx.mono e1) (fun ds w2 vs F2 H2 h2 e2 s2 d2 =>
    hk (d :: ds) w2 (v :: vs) F2 H2 h2 (e1.trans e2) s2 (.cons (d1.mono e2) d2)) h1) hG⟩⟩
theorem af_lst {cs : (List D → D → R β γ) → R β γ} (h : AFA X K E xF xb env i tag fs w es cs) : AF X K E xF xb env i tag fs w (.List es pos) (fun (k : D → D → R β γ) => cs fun ds w1 => R.few ds fun ds => k (.lst ds) w1) :=
  ⟨h.1, fun B F H σ Q k G s wk gx hk hG => ⟨_, pe_lst pa_C, h.2 B F H σ _ _ G s wk gx (fun ds w1 vs F1 H1 h1 e1 s1 d1 => by
    unfold R.few at h1
    split at h1
    · rename_i hz
      refine ⟨by rw [d1.length]; exact of_decide_eq_true hz, fun p hp => ?_⟩
      obtain ⟨s2, n2⟩ := s1.newN hp (Do.lst d1)
      obtain ⟨F5, e5, d5, s5⟩ := s2.frzN n2
      exact hk _ w1 _ F5 _ h1 (e1.trans e5) s5 d5
    · exact (gx.no h1).elim) hG⟩⟩
theorem af_tup {x1} {cs : (List D → D → R β γ) → R β γ} (h : AFA X K E xF xb env i tag fs w es cs) : AF X K E xF xb env i tag fs w (.Tuple es x1 pos) (fun (k : D → D → R β γ) => cs fun ds w1 => R.few ds fun ds => k (.tup ds) w1) :=
  ⟨h.1, fun B F H σ Q k G s wk gx hk hG => ⟨_, pe_tupZ pa_C, h.2 B F H σ _ _ G s wk gx (fun ds w1 vs F1 H1 h1 e1 s1 d1 => by
    unfold R.few at h1
    split at h1
    · rename_i hz
      refine ⟨by rw [d1.length]; exact of_decide_eq_true hz, fun p o hp ho => ?_⟩
      obtain ⟨e2, s2, d2⟩ := s1.newT hp ho d1
      exact hk _ w1 _ _ _ h1 (e1.trans e2) s2 d2
    · exact (gx.no h1).elim) hG⟩⟩
theorem afo_some (h : AF X K E xF xb env i tag fs w e c1) : AFO X K E xF xb env i tag fs w (some e) (fun (k : Option Int → D → R β γ) => c1 fun d w1 => R.asI d fun j => k (some j) w1) :=
  ⟨h.1, fun B F H σ Q k G s wk gx hk hG => ⟨_, po_some pe_C, h.2 B F H σ _ _ G s wk gx (fun d w1 v F1 H1 h1 e1 s1 d1 => by
    cases d <;> first | exact (gx.no h1).elim | skip
    cases d1
    exact ⟨_, rfl, hk _ w1 _ F1 H1 h1 e1 s1 rfl⟩) hG⟩⟩
theorem af_sl {lo hi : Option Expr} {p2 : Pos} {cl ch : D → (Option Int → D → R β γ) → R β γ} (ha : AF X K E xF xb env i tag fs w e c1) (hl : ∀ w, AFO X K E xF xb env i tag fs w lo (cl w)) (hh : ∀ w, AFO X K E xF xb env i tag fs w hi (ch w)) :
    AF X K E xF xb env i tag fs w (.Subscript e (.Slice lo hi none p2) pos) (fun (k : D → D → R β γ) => c1 fun x w1 => cl w1 fun l w2 => ch w2 fun h w3 => R.lft (slG x l h) fun z => k z w3) :=
  ⟨ha.1, fun B F H σ Q k G s wk gx hk hG => ⟨_, pe_slice ((sl_list.or sl_tupZ).or C8.sl_txt) pe_C po_C po_C, ha.2 B F H σ _ _ G s wk gx (fun x w1 v F1 H1 h1 e1 s1 d1 =>
    (hl w1).2 B F1 H1 σ _ _ G s1 wk (gx.mono e1) (fun l w2 l' F2 H2 h2 e2 s2 d2 => (hh w2).2 B F2 H2 σ _ _ G s2 wk (gx.mono (e1.trans e2)) (fun h w3 h' F3 H3 h3 e3 s3 d3 => by
      subst d2
      subst d3
      cases hc : slG x l' h' with
      | none => rw [hc] at h3; exact (gx.no h3).elim
      | some d =>
        rw [hc] at h3
        have hK := ha.1
        subst hK
        exact sl_core s3 (.inl (d1.mono (e2.trans e3))) hc fun v F4 H4 e4 _ s4 d4 => hk d w3 v F4 H4 h3 (e1.trans (e2.trans (e3.trans e4))) s4 d4) h2) h1) hG⟩⟩

/-! ### calls of built-ins, of own defs -/
theorem DrA.dh {F H : Hp} : ∀ {vs : List V} {ds : List D}, DrA K F vs ds → DhA K F H vs ds
  | _, _, .nil => trivial
  | _, _, .cons h t => ⟨.inl h, DrA.dh t⟩
theorem afj_call {r : List V → Hp → VK → Prop} {g : List D → Option D} {cs : (List D → D → R β γ) → R β γ} (hg : CallD K r g) (ha : AFA X K E xF xb env i tag fs w es cs) :
    AFJ K E xF xb env i tag fs w (tCB r (taC X es)) (fun _ F _ _ v d => Dr K F v d) (fun (k : D → D → R β γ) => cs fun ds w1 => R.lft (g ds) fun z => k z w1) := fun B F H σ Q k G s wk gx hk hG =>
  ha.2 B F H σ _ _ G s wk gx (fun ds w1 vs F1 H1 h1 e1 s1 d1 => by
    cases hc : g ds with
    | none => rw [hc] at h1; exact (gx.no h1).elim
    | some z =>
      rw [hc] at h1
      exact hg B F1 H1 σ _ vs ds z Q s1 d1.dh hc fun v' F' H' e' _ s' d' => hk z w1 v' F' H' h1 (e1.trans e') s' d') hG
section
variable {r : List V → Hp → VK → Prop} {g : List D → Option D} {cs : (List D → D → R β γ) → R β γ} {x : Str} {id T : String}
theorem af_callB (hc : CallR X (.builtin id) r) (hd : CallD K r g) (hv : bootBuiltins x = some (.builtin id)) (hm : X.mg x = none) (hg : Gl X x) (ha : AFA X K E xF xb env i tag fs w (e :: es) cs) (hn : x ≠ "__name__" := by decide) (hdb : (x == ("__debug__" : Str)) = false := by decide)
    (he : starEach (e :: es) X.env = (false, eval e X.env) :: starEach es X.env := by rfl) (hpl : (backTo pos (starEach es X.env)).any (·.1) = false := by rfl) : AF X K E xF xb env i tag fs w (.Call (.Name x p) (e :: es) [] pos) (fun (k : D → D → R β γ) => cs fun ds w1 => R.lft (g ds) fun z => k z w1) :=
  ⟨ha.1, fun B F H σ Q k G s wk gx hk hG => ⟨_, pe_callB hc hg hm hv pa_C hn hdb he hpl, afj_call hd ha B F H σ Q k G s wk gx hk hG⟩⟩
theorem af_callT (hc : CallR X (.type T) r) (hd : CallD K r g) (hv : bootBuiltins x = some (.type T)) (hm : X.mg x = none) (hg : Gl X x) (ha : AFA X K E xF xb env i tag fs w (e :: es) cs) (hn : x ≠ "__name__" := by decide) (hdb : (x == ("__debug__" : Str)) = false := by decide)
    (he : starEach (e :: es) X.env = (false, eval e X.env) :: starEach es X.env := by rfl) (hpl : (backTo pos (starEach es X.env)).any (·.1) = false := by rfl) : AF X K E xF xb env i tag fs w (.Call (.Name x p) (e :: es) [] pos) (fun (k : D → D → R β γ) => cs fun ds w1 => R.lft (g ds) fun z => k z w1) :=
  ⟨ha.1, fun B F H σ Q k G s wk gx hk hG => ⟨_, pe_callTy hc hg hm hv pa_C hn hdb he hpl, afj_call hd ha B F H σ Q k G s wk gx hk hG⟩⟩
/-- an own def, what is handed stands still -/
theorem af_call {n k : Nat} {mf : List D → R Unit D} (F : Dfn X.prog X.w K X.mg X.base k x (mk0 n) none (Lp mf)) (hl : ∀ ds, mf ds ≠ .no → ds.length = n) (ha : AFA X K E xF xb env i tag fs w (e :: es) cs) (hr : Room k X.A) (hG : Quiet X.A) (hx : ∀ σ, PassesAt (L2.CX X.prog X.w) X σ (E σ)) (hg : Gl X x)
    (hdb : (x == ("__debug__" : Str)) = false := by decide) (he : starEach (e :: es) X.env = (false, eval e X.env) :: starEach es X.env := by rfl) (hpl : (backTo pos (starEach es X.env)).any (·.1) = false := by rfl) :
    AF X K E xF xb env i tag fs w (.Call (.Name x p) (e :: es) [] pos) (fun (k : D → D → R β γ) => cs fun ds w1 => R.call (mf ds) xb fun z => k z w1) := by
  have hK := ha.1
  subst hK
  obtain ⟨f, fd, ps, h1, h2, h3, h4⟩ := F.ex
  exact ⟨rfl, fun B F H σ Q k G s wk gx hk hG' => ⟨_, pe_callGS h1 hr hG hg h2 h3 h4 .nil hx pa_C hdb he hpl, ha.2 B F H σ _ _ G s wk gx (fun ds w1 vs F1 H1 g1 e1 s1 d1 => by
    show spM X.K (mk0 n) none (Lp mf) (vs ++ []) H1 Q (E σ)
    rw [List.append_nil]
    exact callP_core (nw := none) s1 (wk w1) (gx.mono e1) d1 (hl ds) (fun d v F' H' g e2 _ s2 r2 => hk d w1 v F' H' g (e1.trans e2) s2 r2) g1) hG'⟩⟩
/-- f(x, a, ..), x the slot's own thing -/
theorem af_ref {n k : Nat} {mf : List D → R D (D × D)} {y : Str} {p2 : Pos} (F : Dfn X.prog X.w K X.mg X.base k x (some fs :: mk0 n) none (L1 mf)) (hl : ∀ o ds, mf (o :: ds) ≠ .no → ds.length = n) (ha : AFA X K E xF xb env i tag fs w es cs) (hltB : Nat.blt i env.length = true) (hr : Room k X.A) (hG : Quiet X.A) (hx : ∀ σ, PassesAt (L2.CX X.prog X.w) X σ (E σ)) (hg : Gl X x)
    (hN : X.N[i]? = some y := by rfl) (hv : Vis X.env.scope y := by first | exact Or.inl rfl | exact Or.inr (Or.inl rfl) | exact Or.inr (Or.inr rfl)) (hd : (y == ("__debug__" : Str)) = false := by decide) (hcd : (y == ("__classdict__" : Str)) = false := by decide)
    (hdb : (x == ("__debug__" : Str)) = false := by decide) (he : starEach (.Name y p2 :: es) X.env = (false, eval (.Name y p2) X.env) :: starEach es X.env := by rfl) (hpl : (backTo pos (starEach es X.env)).any (·.1) = false := by rfl) :
    AF X K E xF xb env i tag fs w (.Call (.Name x p) (.Name y p2 :: es) [] pos) (fun (k : D → D → R β γ) => cs fun ds w1 => R.call1 (mf (w1 :: ds)) (fun _ => xb) k) := by
  have hK := ha.1
  subst hK
  obtain ⟨f, fd, ps, h1, h2, h3, h4⟩ := F.ex
  refine ⟨rfl, fun B F H σ Q k G s wk gx hk hG' => ⟨_, pe_callGS h1 hr hG hg h2 h3 h4 .nil hx (pa_cons (pe_var hN hv hd hcd) pa_C he) hdb he hpl, ?_⟩⟩
  have hlt : i < env.length := Nat.blt_eq.mp hltB
  have hq : ∀ {w : D} {F H : Hp}, SR X.K B F H σ (fput env i (.ow tag w fs)) → ∃ q, σ[i]? = some (some (.ref q)) := fun {w F H} s => by
    obtain ⟨ft, hf⟩ := s.own
    obtain ⟨q, g1, _⟩ := hf.ow i tag w fs (fget_self hlt)
    exact ⟨q, g1⟩
  obtain ⟨q, g0⟩ := hq s
  refine ⟨_, g0, ha.2 B F H σ _ _ G s wk gx (fun ds w1 vs F1 H1 g1 e1 s1 d1 => ?_) hG'⟩
  show spM X.K (some fs :: mk0 n) none (L1 mf) ((.ref q :: vs) ++ []) H1 Q (E σ)
  rw [List.append_nil]
  have hno : mf (w1 :: ds) ≠ .no := fun z => by rw [z] at g1; exact gx.no g1
  refine sp_ref s1 (fget_self hlt) g0 d1 (hl w1 ds hno) (fun d os hm => ?_) (fun y os hm => ?_) (fun z => ?_)
  · unfold L1 at hm
    cases hq : mf (w1 :: ds) with
    | no => exact absurd hq hno
    | ex _ _ => rw [hq] at hm; cases hm
    | ok r =>
      obtain ⟨d', o'⟩ := r
      rw [hq] at hm g1
      cases hm
      refine ⟨o', rfl, fun v F' H' e2 s2 d2 => hk d o' v F' H' g1 (e1.trans e2) ?_ d2⟩
      rw [fput_put] at s2
      exact s2
  · unfold L1 at hm
    cases hq : mf (w1 :: ds) with
    | no => exact absurd hq hno
    | ok _ => rw [hq] at hm; cases hm
    | ex y' o' =>
      rw [hq] at hm g1
      cases hm
      refine .inl ⟨o', rfl, fun c dd F' H' e2 s2 x2 => gx.ex y g1 c dd F' H' (e1.trans e2) ?_ x2⟩
      rw [fput_put] at s2
      exact s2.wk (wk o')
  · unfold L1 at z
    cases hq : mf (w1 :: ds) with
    | no => exact hno hq
    | ok _ => rw [hq] at z; cases z
    | ex _ _ => rw [hq] at z; cases z
/-- .. a def that raises nothing -/
theorem af_ref0 {n k : Nat} {mf : List D → R Unit (D × D)} {y : Str} {p2 : Pos} (F : Dfn X.prog X.w K X.mg X.base k x (some fs :: mk0 n) none (L1e mf)) (hl : ∀ o ds, mf (o :: ds) ≠ .no → ds.length = n) (ha : AFA X K E xF xb env i tag fs w es cs) (hltB : Nat.blt i env.length = true) (hr : Room k X.A) (hG : Quiet X.A) (hx : ∀ σ, PassesAt (L2.CX X.prog X.w) X σ (E σ)) (hg : Gl X x)
    (hN : X.N[i]? = some y := by rfl) (hv : Vis X.env.scope y := by first | exact Or.inl rfl | exact Or.inr (Or.inl rfl) | exact Or.inr (Or.inr rfl)) (hd : (y == ("__debug__" : Str)) = false := by decide) (hcd : (y == ("__classdict__" : Str)) = false := by decide)
    (hdb : (x == ("__debug__" : Str)) = false := by decide) (he : starEach (.Name y p2 :: es) X.env = (false, eval (.Name y p2) X.env) :: starEach es X.env := by rfl) (hpl : (backTo pos (starEach es X.env)).any (·.1) = false := by rfl) :
    AF X K E xF xb env i tag fs w (.Call (.Name x p) (.Name y p2 :: es) [] pos) (fun (k : D → D → R β γ) => cs fun ds w1 => R.call1e (mf (w1 :: ds)) xb k) := by
  have hK := ha.1
  subst hK
  obtain ⟨f, fd, ps, h1, h2, h3, h4⟩ := F.ex
  refine ⟨rfl, fun B F H σ Q k G s wk gx hk hG' => ⟨_, pe_callGS h1 hr hG hg h2 h3 h4 .nil hx (pa_cons (pe_var hN hv hd hcd) pa_C he) hdb he hpl, ?_⟩⟩
  have hlt : i < env.length := Nat.blt_eq.mp hltB
  have hq : ∀ {w : D} {F H : Hp}, SR X.K B F H σ (fput env i (.ow tag w fs)) → ∃ q, σ[i]? = some (some (.ref q)) := fun {w F H} s => by
    obtain ⟨ft, hf⟩ := s.own
    obtain ⟨q, g1, _⟩ := hf.ow i tag w fs (fget_self hlt)
    exact ⟨q, g1⟩
  obtain ⟨q, g0⟩ := hq s
  refine ⟨_, g0, ha.2 B F H σ _ _ G s wk gx (fun ds w1 vs F1 H1 g1 e1 s1 d1 => ?_) hG'⟩
  show spM X.K (some fs :: mk0 n) none (L1e mf) ((.ref q :: vs) ++ []) H1 Q (E σ)
  rw [List.append_nil]
  have hno : mf (w1 :: ds) ≠ .no := fun z => by rw [z] at g1; exact gx.no g1
  refine sp_ref s1 (fget_self hlt) g0 d1 (hl w1 ds hno) (fun d os hm => ?_) (fun y os hm => ?_) (fun z => ?_)
  · unfold L1e at hm
    cases hq : mf (w1 :: ds) with
    | no => exact absurd hq hno
    | ex _ _ => rw [hq] at hm; cases hm
    | ok r =>
      obtain ⟨d', o'⟩ := r
      rw [hq] at hm g1
      cases hm
      refine ⟨o', rfl, fun v F' H' e2 s2 d2 => hk d o' v F' H' g1 (e1.trans e2) ?_ d2⟩
      rw [fput_put] at s2
      exact s2
  · unfold L1e at hm
    cases hq : mf (w1 :: ds) with
    | no => exact absurd hq hno
    | ok _ => rw [hq] at hm; cases hm
    | ex y' u =>
      rw [hq] at hm g1
      cases hm
      refine .inr ⟨rfl, fun c dd F' H' e2 s2 x2 => gx.ex y g1 c dd F' H' (e1.trans e2) ?_ x2⟩
      rw [fput_put] at s2
      exact s2.wk (wk_un_of wk)
  · unfold L1e at z
    cases hq : mf (w1 :: ds) with
    | no => exact hno hq
    | ok _ => rw [hq] at z; cases z
    | ex _ _ => rw [hq] at z; cases z
end
/-! ### walks -/
theorem afi_items {tg : Expr} (h : AF X K E xF xb env i tag fs w e c1) : AFI X K E xF xb env i tag fs w tg e (fun (k : List D → D → R β γ) => c1 fun d w1 => R.items d fun ds => k ds w1) := by
  have hK := h.1
  subst hK
  refine ⟨rfl, fun B F H σ Q k G s wk gx hk hG => ⟨_, pi_by pe_C (itR_list.or (itR_tup.or itR_str)), ?_⟩⟩
  refine h.2 B F H σ _ _ G s wk gx (fun d w1 v F1 H1 h1 e1 s1 d1 => ?_) hG
  cases d <;> first | exact (gx.no h1).elim | skip
  · cases d1
    exact .inr (.inr ⟨_, rfl, hk _ w1 _ F1 H1 h1 e1 s1 (rI_str _)⟩)
  · cases d1 with
    | lst h2 h3 => exact .inl ⟨_, rfl, ⟨_, .inl (s1.ex.rd h2)⟩, hk _ w1 _ F1 H1 h1 e1 s1 (rI_lst h2 h3)⟩
  · cases d1 with
    | tup h2 h3 => exact .inr (.inl ⟨_, rfl, ⟨_, s1.ex.st h2.sq⟩, hk _ w1 _ F1 H1 h1 e1 s1 (rI_tup h2.sq h3)⟩)
theorem afi_rng1 {tg : Expr} (hm : X.mg "range" = none) (hg : Gl X "range") (ha : AF X K E xF xb env i tag fs w a c1) (hs : starEach [a] X.env = [(false, eval a X.env)] := by rfl) : AFI X K E xF xb env i tag fs w tg (.Call (.Name "range" p) [a] [] pos) (fun (k : List D → D → R β γ) => c1 fun d w1 => R.rng1 d fun ds => k ds w1) :=
  ⟨ha.1, fun B F H σ Q k G s wk gx hk hG => ⟨_, pi_range1 hg hm (pa_cons pe_C pa_nil hs) hs, ha.2 B F H σ _ _ G s wk gx (fun d w1 v F1 H1 h1 e1 s1 d1 => by
    cases d <;> first | exact (gx.no h1).elim | skip
    rename_i j
    have h1 : G (if -(2 ^ 62) ≤ j ∧ j < 2 ^ 62 then k (rngD 0 j.toNat) w1 else .no) := h1
    cases d1
    split at h1
    · rename_i hj
      exact ⟨j, rfl, hj.1, hj.2, hk _ w1 _ F1 H1 h1 e1 s1 (rI_rng 0 j.toNat)⟩
    · exact (gx.no h1).elim) hG⟩⟩
/-! ### comprehensions whose items change the slot's thing -/
theorem af_lc {elt tg iter : Expr} {ifs : List Expr} {scope : Scope} {ci : (List D → D → R β γ) → R β γ} {mb : D → D → R Unit (Option D × D)} (own : List (Str × Nat)) (hi : AFI X K E xF xb env i tag fs w tg iter ci)
    (hb : ∀ (bi : BI) (z : D) (d : D), AG (Xb X scope bi) K (own.map (·.2)) (fput env i (.ow tag z fs)) tg d (fun env' m' => AEl (Xb X scope) K (fun z => fput env i (.ow tag z fs)) false env' ifs elt m') (mb d z)) (hc : X.calm = true) (hN : X.N.Nodup) (ok : BlkOk X.N X.env.scope scope own)
    (hu : ∀ z, ∀ j ∈ own.map (·.2), fget (fput env i (.ow tag z fs)) j = .un) (hs : ∀ x, foldedSetIterable iter X.env x = pure x := by intro _; rfl) :
    AF X K E xF xb env i tag fs w (.ListComp elt [⟨tg, iter, ifs, 0⟩] scope pos) (fun (k : D → D → R β γ) => ci fun ds w1 => R.few ds fun ds => R.lst (R.fmapS mb ds w1) k) :=
  ⟨hi.1, fun B F H σ Q k G s wk gx hk hG => ⟨_, pe_lcB hc hN ok hs, hi.2 B F H σ _ _ G s wk gx (fun ds w1 J F1 H1 h1 e1 s1 r1 => by
    unfold R.few at h1
    split at h1
    · rename_i hz
      have h1 : G (R.lst (R.fmapS mb ds w1) k) := h1
      cases hm : R.fmapS mb ds w1 with
      | no => rw [hm] at h1; exact (gx.no h1).elim
      | ex x b => rw [hm] at h1; exact (gx.no h1).elim
      | ok q =>
        obtain ⟨ys, u⟩ := q
        rw [hm] at h1
        exact lc_all (f := fun z => fput env i (.ow tag z fs)) (s0 := w1) hb hu s1 r1 hm (of_decide_eq_true hz) fun v F' H' e2 _ s2 r2 => by
          obtain ⟨F3, e3, d3, s3⟩ := s2.frzN r2
          exact hk _ u v F3 H' h1 (e1.trans (e2.trans e3)) s3 d3
    · exact (gx.no h1).elim) hG⟩⟩
end
section
variable {Xs : BI → Cx} {K : PySem.W.Frag} {env env0 : Fm} {elt t : Expr} {i : Nat} {tag : Option Nat} {fs : List Str} {w : D}
/-- an item that changes the thing; its own names are set in env -/
theorem ael_f1 {c : (D → D → R Unit (Option D × D)) → R Unit (Option D × D)} (h : ∀ bi, AF (Xs bi) K E0x (List.replicate env.length .un) () env i tag fs w elt c) (hlt : ∀ z, Wk (fput env i (.ow tag z fs)) (fput env0 i (.ow tag z fs))) : AEl Xs K (fun z => fput env0 i (.ow tag z fs)) false (fput env i (.ow tag w fs)) [] elt (c fun y w1 => .ok (some y, w1)) :=
  fun B F H σ P0 P1 G s hno hex h0 h1 hG bi => ⟨_, pts_nil, by
    show if true = true then ∀ j, teC (Xs j) elt σ H P1 else P0 H
    rw [if_pos rfl]
    exact fun j => (h j).2 B F H σ P1 _ G s (fun z => wk_un (fput_length _ _ _)) ⟨hno, fun x z => (hex x _ z).elim⟩ (fun d w' v F' H' g e s' d' => h1 d w' v F' H' g e (fun q => nomatch q) (s'.wk (hlt w')) d') hG⟩
end
section
variable {X : Cx} {K : PySem.W.Frag} {E : XE} {β ω : Type} {κ : Kt β ω} {env : Fm} {pos : Pos} {rest : List Stmt} {tag : Option Nat} {fs : List Str} {w : D} {e : Expr} {c : (D → D → R β ω) → R β ω}
/-! ### statements -/
theorem Gs.afj {b a : Type} {t : TB b} {rel : Bs → Hp → Hp → L2.St → b → a → Prop} {c : (a → D → R β ω) → R β ω} {i : Nat} {xb : β} (h : AFJ K E (κ.fx xb) xb env i tag fs w t rel c) (hi : fget env i = .ow tag w fs) (hx : ∀ w, Wk (fput env i (.ow tag w fs)) (κ.fx xb)) {B : Bs} {F H : Hp} {σ : L2.St} {Dn : Ends} {G : R β ω → Prop} (sr : SR K B F H σ env) (gs : Gs K B E κ F Dn G) {k : a → D → R β ω} (hG : G (c k)) {Q : b → Hp → Prop}
    (hk : ∀ d w' v F' H', G (k d w') → Ex F F' → SR K B F' H' σ (fput env i (.ow tag w' fs)) → rel B F' H' σ v d → Q v H') : t σ H Q :=
  h B F H σ Q k G (by rw [fput_same hi (fun z => nomatch z)]; exact sr) hx (gs.gx xb) hk hG
theorem ab_exprF (i : Nat) (hi : fget env i = .ow tag w fs) {m : D → R β ω} (xb : β) (he : AF X K E (κ.fx xb) xb env i tag fs w e c) (hx : ∀ w, Wk (fput env i (.ow tag w fs)) (κ.fx xb)) (hr : ∀ w, AB X K E κ (fput env i (.ow tag w fs)) rest (m w)) (hs : swapsWith e none pos.line X.env = pure false := by rfl) : AB X K E κ env (.Expr e pos :: rest) (c fun _ w1 => m w1) :=
  ⟨he.1, fun B F H σ Dn G sr gs hG => ⟨_, pss_cons (ps_expr pe_C hs) ps_C, Gs.afj he.2 hi hx sr gs hG fun d w1 v F1 H1 h1 e1 s1 d1 => (hr w1).2 B F1 H1 σ Dn G s1 (gs.mono e1) h1⟩⟩
theorem ab_setF (i j : Nat) (hi : fget env i = .ow tag w fs) {x : Str} {p2 : Pos} {m : D → D → R β ω} (xb : β) (he : AF X K E (κ.fx xb) xb env i tag fs w e c) (hx : ∀ w, Wk (fput env i (.ow tag w fs)) (κ.fx xb)) (hr : ∀ d w, AB X K E κ (fput (fput env i (.ow tag w fs)) j (.fz d)) rest (m d w)) (hN : X.N.Nodup) (hl : Loc X.env.scope x) (hj : X.N[j]? = some x := by rfl)
    (hs : swapsWith e (some (.Name x p2)) pos.line X.env = pure false := by rfl) (hf : X.fn x = true ∨ X.env.scope.names.lookup x = some .local := by first | exact .inl rfl | exact .inr rfl | assumption) : AB X K E κ env (.Assign [.Name x p2] e pos :: rest) (c fun d w1 => m d w1) :=
  ⟨he.1, fun B F H σ Dn G sr gs hG => ⟨_, pss_cons (ps_set hN hj hl pe_C hs hf) ps_C, Gs.afj he.2 hi hx sr gs hG fun d w1 v F1 H1 h1 e1 s1 d1 => (hr d w1).2 B F1 H1 _ Dn G (s1.setF d1) (gs.mono e1) h1⟩⟩
theorem ab_asgF (i : Nat) (hi : fget env i = .ow tag w fs) {tg : Expr} {own : List Nat} {m : D → D → R β ω} (xb : β) (he : AF X K E (κ.fx xb) xb env i tag fs w e c) (hx : ∀ w, Wk (fput env i (.ow tag w fs)) (κ.fx xb)) (hg : ∀ d w, AG X K own (fput env i (.ow tag w fs)) tg d (fun env' m' => AB X K E κ env' rest m') (m d w))
    (hs : swapsWithSole [tg] e pos.line X.env = pure false := by rfl) (hw : swappedStores [tg] e X.env = pure none := by rfl) (h1 : (assignEach [tg] X.env).map (·.2) = [assign tg X.env] := by rfl) : AB X K E κ env (.Assign [tg] e pos :: rest) (c fun d w1 => m d w1) :=
  ⟨he.1, fun B F H σ Dn G sr gs hG => ⟨_, pss_cons (ps_asg pe_C pg_C hs hw h1) ps_C, Gs.afj he.2 hi hx sr gs hG fun d w1 v F1 H1 g1 e1 s1 d1 => (hg d w1).2 B F1 H1 σ v _ G s1 d1 gs.no g1 fun env' m' σ' hy s' _ _ hG' => hy.2 B F1 H1 σ' Dn G s' (gs.mono e1) hG'⟩⟩
theorem ab_retF {mE : R β ω} (i : Nat) (hi : fget env i = .ow tag w fs) (xb : β) (s : D → κ.Sr) (he : AF X K E (κ.fx xb) xb env i tag fs w e c) (hx : ∀ w, Wk (fput env i (.ow tag w fs)) (κ.fx xb)) (hw : ∀ w, Wk (fput env i (.ow tag w fs)) (κ.fr (s w))) (eE : (c fun d w1 => κ.kr d (s w1)) = mE) (hn : κ.nw = none := by rfl) : AB X K E κ env [.Return (some e) pos] mE := by
  subst eE
  exact ⟨he.1, fun B F H σ Dn G sr gs hG => ⟨_, pss_one (ps_ret pe_C), Gs.afj he.2 hi hx sr gs hG fun d w1 v F1 H1 h1 e1 s1 d1 => gs.rt d (s w1) h1 v F1 H1 σ e1 (s1.wk (hw w1)) (by unfold rR; rw [hn]; exact d1)⟩⟩
theorem ab_ifF (i : Nat) (hi : fget env i = .ow tag w fs) {q : Expr} {a b : List Stmt} {ct : (Bool → D → R β ω) → R β ω} {S : Type} (f : S → Fm) {ma mb : D → (S → R β ω) → R β ω} {k : S → R β ω} (xb : β) (hc : AFT X K E (κ.fx xb) xb env i tag fs w q ct) (hx : ∀ w, Wk (fput env i (.ow tag w fs)) (κ.fx xb))
    (ha : ∀ w k, AB X K E (κ.join S f k) (fput env i (.ow tag w fs)) a (ma w k)) (hb : ∀ w k, AB X K E (κ.join S f k) (fput env i (.ow tag w fs)) b (mb w k)) (hr : ∀ s, AB X K E κ (f s) rest (k s)) : AB X K E κ env (.If q a b pos :: rest) (R.join k fun k => ct fun x w1 => if x then ma w1 k else mb w1 k) :=
  ⟨hc.1, fun B F H σ Dn G sr gs hG => ⟨_, pss_cons (ps_if pt_C ps_C ps_C) ps_C, Gs.afj hc.2 hi hx sr gs hG fun d w1 v F1 H1 h1 e1 s1 d1 => by
    subst d1
    cases v with
    | true => exact iteT ((ha w1 k).2 B F1 H1 σ _ G s1 ((gs.join hr).mono e1) h1)
    | false => exact iteF ((hb w1 k).2 B F1 H1 σ _ G s1 ((gs.join hr).mono e1) h1)⟩⟩
theorem ab_ifTF (i : Nat) (hi : fget env i = .ow tag w fs) {q : Expr} {a : List Stmt} {ct : (Bool → D → R β ω) → R β ω} {ma mb : D → R β ω} (xb : β) (hc : AFT X K E (κ.fx xb) xb env i tag fs w q ct) (hx : ∀ w, Wk (fput env i (.ow tag w fs)) (κ.fx xb)) (ha : ∀ w, AB X K E κ.stop (fput env i (.ow tag w fs)) a (ma w)) (hb : ∀ w, AB X K E κ (fput env i (.ow tag w fs)) rest (mb w)) : AB X K E κ env (.If q a [] pos :: rest) (ct fun x w1 => if x then ma w1 else mb w1) :=
  ⟨hc.1, fun B F H σ Dn G sr gs hG => ⟨_, pss_cons (ps_if pt_C ps_C pss_nil) ps_C, Gs.afj hc.2 hi hx sr gs hG fun d w1 v F1 H1 h1 e1 s1 d1 => by
    subst d1
    cases v with
    | true => exact iteT ((ha w1).2 B F1 H1 σ _ G s1 (gs.stop.mono e1) h1)
    | false => exact iteF ((hb w1).2 B F1 H1 σ Dn G s1 (gs.mono e1) h1)⟩⟩
end
end DM

/-! A slot's own list changed; a written list times a number. -/
namespace DM
open PySem PySem.Spec PyProof.Rows L2 DL
def repG : D → D → Option D := fun a b => match a, b with
  | .lst ds, .int k => if -(2 ^ 63) ≤ k ∧ k < 2 ^ 63 ∧ ds.length * k.toNat ≤ sizeLine then some (.lst (List.replicate k.toNat ds).flatten) else none
  | _, _ => none
section
variable {X : Cx} {K : PySem.W.Frag} {E : XE} {β γ : Type} {xF : Fm} {xb : β} {env : Fm} {a b e : Expr} {pos : Pos}
theorem rep_core {B : Bs} {F H : Hp} {σ : L2.St} {p : Addr} {o : HO} {x y z : D} {w : V} {Q : VK} (s : SR K B F H σ env) (hp : H p = some o) (hd : Do K F o x) (hy : Dh K F H w y) (hc : repG x y = some z)
    (hk : ∀ v F' H', Ex F F' → Ex H H' → SR K B F' H' σ env → rN K B F' H' σ env v z [] → Q v H') : rRep (.ref p) w H Q := by
  unfold repG at hc
  split at hc
  · split at hc
    · rename_i hz
      cases hc
      cases hd with
      | lst hA =>
        refine ⟨p, _, _, rfl, hy.int, hp, hz.1, hz.2.1, by rw [hA.length]; exact hz.2.2, fun q hq0 => ?_⟩
        obtain ⟨s3, n3⟩ := s.newN hq0 (Do.lst (hA.rep _))
        exact hk _ F _ (Ex.refl F) (Ex.new hq0) s3 n3
    · cases hc
  · cases hc
theorem a_rep {c1 c2 : (D → R β γ) → R β γ} (ha : AN X K E xF xb env [] a c1) (hb : AL X K E xF xb env b c2) : AN X K E xF xb env [] (.BinOp a .Mult b pos) (fun (k : D → R β γ) => c1 fun x => c2 fun y => R.lft (repG x y) k) :=
  ⟨ha.1, fun B F H σ Q k G s w gx hk hG => ⟨_, pe_op op_rep pe_C pe_C, ha.2 B F H σ _ _ G s w gx (fun x v F1 H1 h1 e1 eh1 s1 r1 => hb.2 B F1 H1 σ _ _ G s1 w (gx.mono e1) (fun y u F2 H2 h2 e2 eh2 s2 d2 => by
    cases hc : repG x y with
    | none => rw [hc] at h2; exact (gx.no h2).elim
    | some z =>
      rw [hc] at h2
      obtain ⟨p, S, rfl, o1, _⟩ := r1
      obtain ⟨_, o, g1, g2⟩ := o1.plain
      exact rep_core s2 (eh2 _ _ g1) (g2.mono e2) d2 hc fun v' F' H' e' eh' s' r' => hk z v' F' H' h2 (e1.trans (e2.trans e')) (eh1.trans (eh2.trans eh')) s' r') h1) hG⟩⟩
theorem af_rep {i : Nat} {tag : Option Nat} {fs : List Str} {w : D} {c1 : (D → R β γ) → R β γ} {c2 : (D → D → R β γ) → R β γ} (ha : AN X K E xF xb (fput env i (.ow tag w fs)) [] a c1) (hb : AF X K E xF xb env i tag fs w b c2) :
    AF X K E xF xb env i tag fs w (.BinOp a .Mult b pos) (fun (k : D → D → R β γ) => c1 fun x => c2 fun y w1 => R.lft (repG x y) fun z => k z w1) :=
  ⟨ha.1, fun B F H σ Q k G s wk gx hk hG => ⟨_, pe_op op_rep pe_C pe_C, ha.2 B F H σ _ _ G s (wk w) gx (fun x v F1 H1 h1 e1 eh1 s1 r1 => by
    obtain ⟨ft, hf⟩ := s1.own
    obtain ⟨p, S, rfl, o1, o2, o3⟩ := r1
    obtain ⟨rfl, o, g1, g2⟩ := o1.plain
    · refine hb.2 (B.at F1 H1 (fput env i (.ow tag w fs)) ft) F1 H1 σ _ _ G (s1.rebase hf) wk ⟨gx.no, fun y hy c dd F' H' e' s' x' => gx.ex y hy c dd F' H' (e1.trans e') (s1.unbase hf (fun _ _ z => z) s') x'⟩ (fun y w1 u F2 H2 h2 e2 s2 d2 => ?_) h1
      cases hc : repG x y with
      | none => rw [hc] at h2; exact (gx.no h2).elim
      | some z =>
        rw [hc] at h2
        obtain ⟨k1, _, _⟩ := s2.off (p := p) g1 (o2 p List.mem_cons_self).1 (o3 ft hf p List.mem_cons_self)
        exact rep_core (s1.unbase hf (fun _ _ z => z) s2) k1 (g2.mono e2) (.inl d2) hc fun v' F' H' e' _ s' r' => by
          obtain ⟨F5, e5, d5, s5⟩ := s'.frzN r'
          exact hk z w1 v' F5 H' h2 (e1.trans (e2.trans (e'.trans e5))) s5 d5) hG⟩⟩
end
section
variable {X : Cx} {K : PySem.W.Frag} {E : XE} {β ω : Type} {κ : Kt β ω} {env : Fm} {pos : Pos} {rest : List Stmt} {tag : Option Nat} {e : Expr}
def R.push (ds : List D) (y : D) (k : D → R β ω) : R β ω := if ds.length < sizeLine then k (.lst (ds ++ [y])) else .no
def R.ext (ds ys : List D) (k : D → R β ω) : R β ω := if ds.length + ys.length ≤ sizeLine then k (.lst (ds ++ ys)) else .no
def R.setAt (ds : List D) (i y : D) (k : D → R β ω) : R β ω := match i with
  | .int i => match ixN ds.length i with
    | some j => k (.lst (ds.set j y))
    | none => .no
  | _ => .no
/-- one cell of a slot changes -/
theorem SR.cell {B : Bs} {F H : Hp} {σ : L2.St} {i : Nat} {d d' : D} {o' : HO} (s : SR K B F H σ env) (hi : fget env i = .ow tag d []) (hd : Do K F o' d') : ∃ p o, σ[i]? = some (some (.ref p)) ∧ H p = some o ∧ Do K F o d ∧ SR K B F (upd H p o') σ (fput env i (.ow tag d' [])) := by
  obtain ⟨p, S, h1, h2, h3, h4⟩ := s.chg hi
  obtain ⟨rfl, o, g1, g2⟩ := h2.plain
  refine ⟨p, o, h1, g1, g2, h4 F (upd H p o') d' [] [p] (Ex.refl F) (fun _ _ h => .inl h) (fun a o h => ?_) (fun a o hn h => ?_) (.ce upd_same hd) fun a ha => ⟨.inl ha, h3 a ha⟩⟩
  · rw [upd_ne fun z => by rw [z, h3 p List.mem_cons_self] at h; cases h]; exact s.ex a o h
  · rw [upd_ne fun z => hn (by rw [z]; exact List.mem_cons_self)]; exact h
theorem SR.cell0 {B : Bs} {F H : Hp} {σ : L2.St} {i : Nat} {d : D} (s : SR K B F H σ env) (hi : fget env i = .ow tag d []) : ∃ p o, σ[i]? = some (some (.ref p)) ∧ H p = some o ∧ Do K F o d := by
  obtain ⟨ft, hf⟩ := s.own
  obtain ⟨p, h1, h2, _⟩ := hf.ow i tag d [] hi
  obtain ⟨_, o, h3, h4⟩ := h2.plain
  exact ⟨p, o, h1, h3, h4⟩
/-- x.append(e) -/
theorem ab_app (i : Nat) {x : Str} {d : D} (hi : fget env i = .ow tag d []) {c : (D → R β ω) → R β ω} {m : D → R β ω} {p1 p2 p3 : Pos} (xb : β) (he : AE X K E (κ.fx xb) xb env e c) (hx : Wk env (κ.fx xb)) (hr : ∀ d, AB X K E κ (fput env i (.ow tag d [])) rest (m d))
    (hN : X.N[i]? = some x := by rfl) (hv : Vis X.env.scope x := by first | exact Or.inl rfl | exact Or.inr (Or.inl rfl) | exact Or.inr (Or.inr rfl)) (hd : (x == ("__debug__" : Str)) = false := by decide) (hcd : (x == ("__classdict__" : Str)) = false := by decide)
    (hst : starEach [e] X.env = [(false, eval e X.env)] := by rfl)
    (hbase : attributeBase (.Name x p1) "append" X.env (eval (.Name x p1) X.env) = eval (.Name x p1) X.env := by rfl)
    (hfew : ((backTo p3 (starEach [e] X.env)).all (fun x => !x.1) && (backToKw p3 (keywordEach [] X.env)).all (fun x => x.1.isSome)
      && decide (([e] : List Expr).length + ([] : List Keyword).length + (if ([] : List Keyword).isEmpty then 0 else 1) < 30)) = true := by rfl)
    (hline : (p2.endLine == p3.line) = true := by rfl)
    (hs : swapsWith (.Call (.Attribute (.Name x p1) "append" p2) [e] [] p3) none pos.line X.env = pure false := by rfl) :
    AB X K E κ env (.Expr (.Call (.Attribute (.Name x p1) "append" p2) [e] [] p3) pos :: rest) (R.asL d fun ds => c fun y => R.push ds y m) := by
  have hK := he.1
  subst hK
  refine ⟨rfl, fun B F H σ Dn G sr gs hG => ⟨_, pss_cons (ps_expr (pe_bm PySem.F.plainAttrs_list PySem.F.slot_list_append PySem.F.type_list_append mt_append (pe_var hN hv hd hcd) (pa_cons pe_C pa_nil hst) hbase hfew hline hst rfl) hs) ps_C, ?_⟩⟩
  cases d <;> first | exact (gs.no hG).elim | skip
  rename_i ds
  obtain ⟨p, o, h1, h2, h3⟩ := sr.cell0 hi
  cases h3
  refine ⟨.ref p, h1, Or.inl ⟨rfl, _, SqL.of h2⟩, he.2 B F H σ _ _ G sr hx (gs.gx xb) (fun y v F1 H1 g1 e1 eh1 s1 d1 => ?_) hG⟩
  unfold R.push at g1
  split at g1
  · rename_i hz
    obtain ⟨p', o', k1, k2, k3⟩ := s1.cell0 hi
    rw [h1] at k1
    cases k1
    cases k3 with
    | lst hA =>
      obtain ⟨p4, o4, k4, k5, k6, k7⟩ := s1.cell (d' := .lst (ds ++ [y])) hi (.lst (hA.append (.one d1)))
      rw [h1] at k4
      cases k4
      exact ⟨p, _, v, rfl, rfl, k2, by rw [hA.length]; exact hz, (hr _).2 B F1 _ σ Dn G k7 (gs.mono e1) g1⟩
  · exact (gs.no g1).elim
/-- x[k] = e -/
theorem ab_setIx (i : Nat) {x : Str} {d : D} (hi : fget env i = .ow tag d []) {k e : Expr} {c ck : (D → R β ω) → R β ω} {m : D → R β ω} {p1 p2 : Pos} (xb : β) (hk : AL X K E (κ.fx xb) xb env k ck) (he : AE X K E (κ.fx xb) xb env e c) (hx : Wk env (κ.fx xb)) (hr : ∀ d, AB X K E κ (fput env i (.ow tag d [])) rest (m d))
    (hN : X.N[i]? = some x := by rfl) (hv : Vis X.env.scope x := by first | exact Or.inl rfl | exact Or.inr (Or.inl rfl) | exact Or.inr (Or.inr rfl)) (hd : (x == ("__debug__" : Str)) = false := by decide) (hcd : (x == ("__classdict__" : Str)) = false := by decide)
    (hs : swapsWithSole [.Subscript (.Name x p1) k p2] e pos.line X.env = pure false := by rfl) (hw : swappedStores [.Subscript (.Name x p1) k p2] e X.env = pure none := by rfl)
    (h1 : (assignEach [.Subscript (.Name x p1) k p2] X.env).map (·.2) = [assign (.Subscript (.Name x p1) k p2) X.env] := by rfl)
    (ha : ∀ v, assign (.Subscript (.Name x p1) k p2) X.env v = (do
      let ov ← holding [v] (eval (.Name x p1) X.env)
      let iv ← holding [v, ov] (eval k X.env)
      standAt p2
      holding [v, ov, iv] (setItem ov iv v)
      release [v, ov, iv] []) := by intro _; rfl) :
    AB X K E κ env (.Assign [.Subscript (.Name x p1) k p2] e pos :: rest) (R.asL d fun ds => c fun y => ck fun j => R.setAt ds j y m) := by
  refine ⟨he.1, fun B F H σ Dn G sr gs hG => ⟨_, pss_cons (ps_asg pe_C (pg_sub (pe_var hN hv hd hcd) pe_C set_list ha) hs hw h1) ps_C, ?_⟩⟩
  cases d <;> first | exact (gs.no hG).elim | skip
  rename_i ds
  refine he.2 B F H σ _ _ G sr hx (gs.gx xb) (fun y v F1 H1 g1 e1 eh1 s1 d1 => ?_) hG
  obtain ⟨p, o, q1, q2, q3⟩ := s1.cell0 hi
  refine ⟨.ref p, q1, hk.2 B F1 H1 σ _ _ G s1 hx ((gs.mono e1).gx xb) (fun j u F2 H2 g2 e2 eh2 s2 d2 => ?_) g1⟩
  unfold R.setAt at g2
  split at g2
  · rename_i kk
    split at g2
    · rename_i jj hj
      obtain ⟨p', o', k1, k2, k3⟩ := s2.cell0 hi
      rw [q1] at k1
      cases k1
      cases k3 with
      | lst hA =>
        obtain ⟨p4, o4, k4, k5, k6, k7⟩ := s2.cell (d' := .lst (ds.set jj y)) hi (.lst (hA.set jj (d1.mono e2)))
        rw [q1] at k4
        cases k4
        exact ⟨p, _, kk, jj, rfl, d2.int, k2, by rw [hA.length]; exact hj, (hr _).2 B F2 _ σ Dn G k7 (gs.mono (e1.trans e2)) g2⟩
    · exact (gs.no g2).elim
  · exact (gs.no g2).elim
/-- x op= e, whole numbers -/
theorem ab_augI (i : Nat) {x : Str} {e : Expr} {d : D} (hi : fget env i = .fz d) {op : Operator} {f : Int → Int → Int} {p2 : Pos} {c : (D → R β ω) → R β ω} {m : D → R β ω} (xb : β) (he : AL X K E (κ.fx xb) xb env e c) (ho : PIp X op (ipI f)) (hx : Wk env (κ.fx xb)) (hr : ∀ d, AB X K E κ (fput env i (.fz d)) rest (m d)) (hN : X.N.Nodup) (hl : Loc X.env.scope x) (hj : X.N[i]? = some x := by rfl)
    (hf : X.fn x = true ∨ X.env.scope.names.lookup x = some .local := by first | exact .inl rfl | exact .inr rfl | assumption) : AB X K E κ env (.AugAssign (.Name x p2) op e pos :: rest) (c fun y => R.lft (intG (fun _ _ => true) (fun a b => .int (f a b)) d y) m) :=
  ⟨he.1, fun B F H σ Dn G sr gs hG => by
    obtain ⟨v, h1, h2⟩ := sr.fz i d hi
    refine ⟨_, pss_cons (ps_aug hN hj hl pe_C ho hf) ps_C, v, h1, he.2 B F H σ _ _ G sr hx (gs.gx xb) (fun y u F1 H1 g1 e1 eh1 s1 d1 => ?_) hG⟩
    unfold intG at g1
    cases d <;> first | exact (gs.no g1).elim | skip
    cases y <;> first | exact (gs.no g1).elim | skip
    cases h2
    exact ⟨_, _, rfl, d1.int, (hr _).2 B F1 H1 _ Dn G (s1.setF (.int _)) (gs.mono e1) g1⟩⟩
end
end DM

/-! Classes: promises by place, star parameters, fields, methods, making. -/
namespace DM
open PySem PySem.Spec PyProof.Rows L2 DL

/-- a promise over the values handed by place -/
def FnP (P : Program) (w : World) (K : PySem.W.Frag) (mg : Str → Option Value) (base : Heap) (k : Nat) (f : Addr) (sp : Sp) : Prop :=
  ∀ (A : Around) (os : List Env) (s : Shared) (H : Hp) (us : List Value) (vs : List V) (Q : VK) (E : XK), Room k A → Quiet A → Env0 P w K mg base A os s H → Vals vs us → sp vs H Q E →
    codeAny (model P w) A (.call (.ref f) ⟨us, []⟩) (CR (L2.CX P w) os P w H s Q E) s
section
variable {P : Program} {w : World} {K : PySem.W.Frag} {mg : Str → Option Value} {base : Heap} {k j : Nat} {f : Addr} {sp sp' : Sp}
theorem FnP.up (F : FnP P w K mg base j f sp) (h : j ≤ k) : FnP P w K mg base k f sp := fun A os s H us vs Q E r => F A os s H us vs Q E (r.mono h)
theorem FnP.to (F : FnP P w K mg base k f sp) (h : ∀ vs H Q E, sp' vs H Q E → sp vs H Q E) : FnP P w K mg base k f sp' := fun A os s H us vs Q E r q e v z => F A os s H us vs Q E r q e v (h vs H Q E z)
theorem fnP_of {fd : FuncData} {ps : List Str} (F : FnG P w K mg base (L2.CX P w) k f fd ps sp) (hb : Binds K fd ps []) : FnP P w K mg base k f sp := fun A os s H us vs Q E r q e0 v z => by
  have hl : (us ++ []).length = ps.length := by rw [List.append_nil, ← v.length]; exact F.ln _ _ _ _ z
  have hb' := hb s us (e0.mod.kin.keeps fun b o e => (e0.bs b o e).1) hl
  rw [List.append_nil] at hb'
  exact F.go A os s H ⟨us, []⟩ us vs Q E r q e0 hb' v z
def spStar (n : Nat) (sp : Sp) : Sp := fun vs H Q E => ∃ ws rest, vs = ws ++ rest ∧ ws.length = n ∧ rest.length ≤ sizeLine ∧ ∀ p o, H p = none → o.dict = none → sp (ws ++ [V.ref p]) (upd H p (.frz o (.tup rest))) Q E
/-- def f(a, .., *v) -/
theorem fnP_star {x qual : Str} {st : Stmt} {fd : FuncData} {N ps : List Str} {pv : Str} (Fn : Fun K x qual st f fd) (S : FnScope N (ps ++ [pv]) (defScope st))
    (hb : ∀ us rest : List Value, us.length = ps.length → bindArgs fd ⟨us ++ rest, []⟩ = (newTuple rest >>= fun t => pure (ps.zip us ++ [(pv, t)])))
    (hbody : Bod P w K mg base N qual st f k sp) : FnP P w K mg base (k + 1) f (spStar ps.length sp) := by
  obtain ⟨v1, a1, v2, v3, v4, a2, cdv, v5, sl, rfl, lk, hcd⟩ := Fn.ex
  intro A os s H us vs Q E hr hq e0 r hsp
  obtain ⟨ws, rest, rfl, hl, hz, hs⟩ := hsp
  obtain ⟨u1, u2, rfl, r1, r2⟩ := StX.vals_split r
  have hn : H s.heap.objs.size = none := e0.hok.fresh (Nat.le_refl _)
  have hl1 : u1.length = ps.length := r1.length.symm.trans hl
  have hl2 : u2.length ≤ sizeLine := by rw [← r2.length]; exact hz
  refine StX.run_bnd lk hcd S hr e0 (G := fun xs H2 => ∃ p o, H p = none ∧ o.dict = none ∧ xs = ws ++ [V.ref p] ∧ H2 = upd H p (.frz o (.tup rest))) (fun A' Ex Q' h => ?_) (fun s2 H2 xs ⟨p, o, hp, ho, ex, eH⟩ hr' => ?_)
  · rw [hb u1 u2 hl1]
    refine wpAny_bind (wpAny_newTuple (wpAny_pure ?_) hl2)
    have hg : (s.heap.push ({ cls := .type "tuple", data := .seq u2.toArray } : Obj)).get? s.heap.objs.size = some { cls := .type "tuple", data := .seq u2.toArray } := Heap.get?_push_size _ rfl
    have new : ObjOk P w (upd H s.heap.objs.size (.frz { cls := .type "tuple", data := .seq u2.toArray } (.tup rest))) (s.heap.push ({ cls := .type "tuple", data := .seq u2.toArray } : Obj)) s.heap.objs.size (.frz { cls := .type "tuple", data := .seq u2.toArray } (.tup rest)) := And.intro hg (And.intro hz ⟨u2, r2, _, hg, rfl, _, rfl⟩)
    have un := StX.un_laid (fs := frs os) (s := s) (o := ({ cls := .type "tuple", data := .seq u2.toArray } : Obj)) (u := .frz { cls := .type "tuple", data := .seq u2.toArray } (.tup rest)) hn
    have z := h _ _ (ws ++ [V.ref s.heap.objs.size]) (u1 ++ [Value.ref s.heap.objs.size]) (StX.env0_laid e0 new) un rfl (fun e s' => StX.cxUp os s H _ _ E e s' un (fun b o q => Heap.get?_push_of_some _ q) rfl) (r1.append (.cons rfl .nil))
      (by rw [List.length_append, List.length_append, hl]; rfl) ⟨_, _, hn, rfl, rfl, rfl⟩
    rw [List.zip_append hl1.symm] at z
    exact z
  · subst ex eH
    exact hbody cdv A os s2 _ _ Q E hr' (hq.deeper _) (hs p o hp ho)
theorem bind_star3 {B : List Value → Sem (List (Str × Value))} {p1 p2 p3 pv : Str} (h0 : ∀ a b c, B [a, b, c] = (newTuple [] >>= fun t => pure [(p1, a), (p2, b), (p3, c), (pv, t)])) (h1 : ∀ a b c r rs, B (a :: b :: c :: r :: rs) = (newTuple (r :: rs) >>= fun t => pure [(p1, a), (p2, b), (p3, c), (pv, t)])) :
    ∀ us rest : List Value, us.length = [p1, p2, p3].length → B (us ++ rest) = (newTuple rest >>= fun t => pure ([p1, p2, p3].zip us ++ [(pv, t)]))
  | [a, b, c], [], _ => h0 a b c
  | [a, b, c], r :: rs, _ => h1 a b c r rs
end

/-! ### the values over a star parameter are a tuple -/
/-- what a def with a star parameter does, told by what its body does -/
def starM {β α : Type} (n : Nat) (mf : List D → R β α) : List D → R β α := fun ds => if n ≤ ds.length && few (ds.length - n) then mf (ds.take n ++ [.tup (ds.drop n)]) else .no
theorem fget_appL : ∀ (A B : Fm) {i : Nat}, i < A.length → fget (A ++ B) i = fget A i
  | [], _, _, h => absurd h (Nat.not_lt_zero _)
  | _ :: _, _, 0, _ => rfl
  | _ :: A, B, i + 1, h => fget_appL A B (by simpa using h)
theorem fget_appR : ∀ (A B : Fm) (j : Nat), fget (A ++ B) (A.length + j) = fget B j
  | [], B, j => by simp
  | _ :: A, B, j => by
    rw [List.length_cons, Nat.add_right_comm]
    exact fget_appR A B j
section
variable {K : PySem.W.Frag} {B : Bs} {F H F' H' : Hp} {σ σ' : L2.St} {env as A : Fm} {ft : Nat → List Addr} {ws rest vs : List V} {ds2 : List D} {p : Addr}
theorem drA_fz : ∀ {rest : List V} {ds2 : List D}, rest.length = ds2.length → (∀ (i : Nat) (d : D), ds2[i]? = some d → ∃ v, rest[i]? = some v ∧ Dr K F v d) → DrA K F rest ds2
  | [], [], _, _ => .nil
  | v :: rest, d :: ds2, hl, h => by
    obtain ⟨v', h1, h2⟩ := h 0 d rfl
    cases h1
    exact .cons h2 (drA_fz (by simpa using hl) fun i d h3 => h (i + 1) d h3)
  | [], _ :: _, hl, _ => by cases hl
  | _ :: _, [], hl, _ => by cases hl
theorem fz_at : ∀ {ds : List D} {i : Nat} {d : D}, ds[i]? = some d → fget (ds.map Sl.fz) i = .fz d
  | _ :: _, 0, _, h => by cases h; rfl
  | _ :: ds, i + 1, _, h => fz_at (ds := ds) (i := i) (by simpa using h)
theorem SR.par {par par' : Nat → Option Addr} {F0 H0 : Hp} {ps : Addr → Prop} (s : SR K ⟨F0, H0, ps, par⟩ F H σ env) (h : ∀ i k d fs, fget env i = .ow (some k) d fs → ∀ q, par k = some q → par' k = some q) : SR K ⟨F0, H0, ps, par'⟩ F H σ env where
  ex := s.ex
  ex0 := s.ex0
  keep := s.keep
  newF := s.newF
  len := s.len
  fz := s.fz
  xc := s.xc
  own := by
    obtain ⟨ft, hf⟩ := s.own
    refine ⟨ft, fun i t d fs e => ?_, hf.dis⟩
    obtain ⟨p, h1, h2, h3, h4⟩ := hf.ow i t d fs e
    exact ⟨p, h1, h2, h3, fun k hk => h i k d fs (by rw [← hk]; exact e) p (h4 k hk)⟩
/-- the frame's end changed, of which only what stands still is told -/
theorem SR.tail {us us' : List (Option V)} {C C' : Fm} (s : SR K B F H (us ++ σ) (A ++ C)) (hl : us.length = A.length) (hC : ∀ i x, fget C' i = x → x = .un ∨ ∃ d v, x = .fz d ∧ us'[i]? = some (some v) ∧ Dr K F v d) (hC0 : ∀ i x, fget C i = x → x = .un ∨ ∃ d, x = .fz d) (hl' : us'.length = C'.length) : SR K B F H (us ++ us') (A ++ C') := by
  have sp : ∀ {i : Nat} {x : Sl}, fget (A ++ C') i = x → x ≠ .un → (i < A.length ∧ fget (A ++ C) i = x) ∨ ∃ d v, x = .fz d ∧ (us ++ us')[i]? = some (some v) ∧ Dr K F v d := fun {i x} e hx => by
    rcases Nat.lt_or_ge i A.length with q | q
    · exact .inl ⟨q, by rw [fget_appL _ _ q]; rw [fget_appL _ _ q] at e; exact e⟩
    · obtain ⟨j, rfl⟩ := Nat.exists_eq_add_of_le q
      rw [fget_appR] at e
      rcases hC j x e with z | ⟨d, v, z, h1, h2⟩
      · exact absurd z hx
      · exact .inr ⟨d, v, z, by rw [← hl, List.getElem?_append_right (Nat.le_add_right _ _), Nat.add_sub_cancel_left]; exact h1, h2⟩
  have σl : ∀ {i : Nat}, i < A.length → (us ++ us')[i]? = (us ++ σ)[i]? := fun {i} q => by rw [List.getElem?_append_left (by rw [hl]; exact q), List.getElem?_append_left (by rw [hl]; exact q)]
  refine ⟨s.ex, s.ex0, s.keep, s.newF, by rw [List.length_append, List.length_append, hl, hl'], fun i d e => ?_, fun i a d gs e => ?_, ?_⟩
  · rcases sp e (fun z => nomatch z) with ⟨q, e2⟩ | ⟨d', v, z, h1, h2⟩
    · obtain ⟨v, h1, h2⟩ := s.fz i d e2
      exact ⟨v, by rw [σl q]; exact h1, h2⟩
    · cases z; exact ⟨v, h1, h2⟩
  · rcases sp e (fun z => nomatch z) with ⟨q, e2⟩ | ⟨d', v, z, h1, h2⟩
    · obtain ⟨h1, h2⟩ := s.xc i a d gs e2
      exact ⟨by rw [σl q]; exact h1, h2⟩
    · cases z
  · obtain ⟨ft, hf⟩ := s.own
    refine ⟨ft, fun i t d fs e => ?_, fun i j t u d e fs gs hij e1 e2 => ?_⟩
    · rcases sp e (fun z => nomatch z) with ⟨q, e2⟩ | ⟨d', v, z, h1, h2⟩
      · obtain ⟨p, h1, h2⟩ := hf.ow i t d fs e2
        exact ⟨p, by rw [σl q]; exact h1, h2⟩
      · cases z
    · rcases sp e1 (fun z => nomatch z) with ⟨q, e3⟩ | ⟨d', v, z, h1, h2⟩
      · rcases sp e2 (fun z => nomatch z) with ⟨q', e4⟩ | ⟨d', v, z, h1, h2⟩
        · exact hf.dis i j t u d e fs gs hij e3 e4
        · cases z
      · cases z
theorem rep_un : ∀ (n i : Nat) (x : Sl), fget (List.replicate n Sl.un) i = x → x = .un ∨ ∃ d, x = .fz d := fun n i x h => .inl (h.symm.trans (fget_rep n i))
theorem fz_only {ds : List D} (i : Nat) (x : Sl) (h : fget (ds.map Sl.fz) i = x) : x = .un ∨ ∃ d, x = .fz d := by
  by_cases q : x = .un
  · exact .inl q
  · obtain ⟨d, _, h2⟩ := fz_get h q
    exact .inr ⟨d, h2⟩
theorem outs_rep : ∀ (n j : Nat), mkOuts [] (mk0 n) j = List.replicate n .un
  | 0, _ => rfl
  | n + 1, j => by show Sl.un :: mkOuts [] (mk0 n) (j + 1) = _; rw [outs_rep n]; rfl
theorem outsx_rep : ∀ (os : List D) (n j : Nat), mkOuts os (mk0 n) j = List.replicate n .un
  | _, 0, _ => by unfold mk0 mkOuts; rfl
  | os, n + 1, j => by
    show mkOuts os (none :: mk0 n) j = _
    have : mkOuts os (none :: mk0 n) j = .un :: mkOuts os (mk0 n) (j + 1) := by cases os <;> rfl
    rw [this, outsx_rep os n]; rfl
theorem map_split {vs : List V} {n : Nat} : vs.map some = (vs.take n).map some ++ (vs.drop n).map some := by rw [← List.map_append, List.take_append_drop]
/-- the heart: a star parameter's tuple is laid; M: the parameters ahead -/
theorem star_core {M : Mask} {mL : List D → R (List D) (D × List D)} {n m : Nat} {Q : VK} {E : XK} (hM : M = [] ∨ ∃ fs, M = [some fs]) (h : spM K (M ++ mk0 m) none (starM (M.length + n) mL) vs H Q E) : spStar (M.length + n) (spM K (M ++ mk0 (n + 1)) none mL) vs H Q E := by
  obtain ⟨hl, F, ds, ps, hdl, sr, hq⟩ := h
  unfold starM at hq
  split at hq
  case isFalse => exact hq.elim
  rename_i hc
  rw [Bool.and_eq_true] at hc
  obtain ⟨hc1, hc2⟩ := hc
  have hc1 : M.length + n ≤ ds.length := of_decide_eq_true hc1
  have hc2 : ds.length - (M.length + n) ≤ sizeLine := of_decide_eq_true hc2
  have hdl' : ds.length = M.length + m := by rw [hdl, List.length_append, List.length_replicate]
  have hvl : vs.length = ds.length := by rw [hl, hdl]
  refine ⟨vs.take (M.length + n), vs.drop (M.length + n), (List.take_append_drop _ _).symm, by rw [List.length_take, hvl]; omega, by rw [List.length_drop, hvl]; exact hc2, fun p o hp ho => ?_⟩
  -- the arguments' frame, split
  have hA : ∀ (es : List D) (r : Nat), es.length = M.length + r → ∃ A0 : Fm, mkArgs es (M ++ mk0 r) 0 = A0 ++ (es.drop M.length).map .fz ∧ A0.length = M.length ∧ (A0 = mkArgs (es.take M.length) M 0) := by
    intro es r hr
    rcases hM with rfl | ⟨fs, rfl⟩
    · refine ⟨[], ?_, rfl, ?_⟩
      · show mkArgs es (mk0 r) 0 = _
        rw [mk0_fz (by simpa using hr)]; rfl
      · rfl
    · cases es with
      | nil => simp at hr; omega
      | cons o es =>
        refine ⟨[.ow (some 0) o fs], ?_, rfl, rfl⟩
        show .ow (some 0) o fs :: mkArgs es (mk0 r) 1 = _
        rw [mk0_fz (by simp at hr; omega)]; rfl
  obtain ⟨A0, a1, a2, a3⟩ := hA ds m hdl'
  rw [a1] at sr
  have hsplit : (ds.drop M.length) = (ds.drop M.length).take n ++ ds.drop (M.length + n) := by
    rw [← List.drop_drop]; exact (List.take_append_drop _ _).symm
  have sr0 : SR K ⟨F, H, ps, parOf vs⟩ F H ((vs.take (M.length + n)).map some ++ (vs.drop (M.length + n)).map some) ((A0 ++ ((ds.drop M.length).take n).map .fz) ++ (ds.drop (M.length + n)).map .fz) := by
    have : (A0 ++ ((ds.drop M.length).take n).map .fz) ++ (ds.drop (M.length + n)).map .fz = A0 ++ (ds.drop M.length).map Sl.fz := by
      rw [List.append_assoc, ← List.map_append, ← hsplit]
    rw [this, ← map_split]
    exact sr
  have lA : ((vs.take (M.length + n)).map some).length = (A0 ++ ((ds.drop M.length).take n).map Sl.fz).length := by
    rw [List.length_map, List.length_take, List.length_append, List.length_map, List.length_take, List.length_drop, a2, hvl]; omega
  have hdr : DrA K F (vs.drop (M.length + n)) (ds.drop (M.length + n)) := drA_fz (by rw [List.length_drop, List.length_drop, hvl]) fun i d hi => by
    obtain ⟨v, h1, h2⟩ := sr0.fz ((A0 ++ ((ds.drop M.length).take n).map Sl.fz).length + i) d (by rw [fget_appR]; exact fz_at hi)
    rw [← lA, List.getElem?_append_right (Nat.le_add_right _ _), Nat.add_sub_cancel_left, List.getElem?_map] at h1
    cases q : (vs.drop (M.length + n))[i]? with
    | none => rw [q] at h1; cases h1
    | some u => rw [q] at h1; cases h1; exact ⟨_, rfl, h2⟩
  have g := sr0.grow (o := .frz o (.tup (vs.drop (M.length + n)))) hp
  have eF : Ex F (upd F p (.frz o (.tup (vs.drop (M.length + n))))) := Ex.new (sr0.ex.none hp)
  have dT : Dr K (upd F p (.frz o (.tup (vs.drop (M.length + n))))) (.ref p) (.tup (ds.drop (M.length + n))) := .tup (Or.inl ⟨o, upd_same, ho⟩) (hdr.mono eF)
  obtain ⟨ft, hf⟩ := g.own
  have tagA : ∀ (C : Fm), (∀ i x, fget C i = x → x = .un ∨ ∃ d, x = .fz d) → ∀ i k d fs, fget ((A0 ++ ((ds.drop M.length).take n).map Sl.fz) ++ C) i = .ow (some k) d fs → k = 0 ∧ M ≠ [] := fun C hC i k d fs e => by
    rcases Nat.lt_or_ge i (A0 ++ ((ds.drop M.length).take n).map Sl.fz).length with q | q
    · rw [fget_appL _ _ q] at e
      rcases Nat.lt_or_ge i A0.length with q2 | q2
      · rw [fget_appL _ _ q2, a3] at e
        rcases hM with rfl | ⟨gs, rfl⟩
        · rw [a2] at q2; exact absurd q2 (Nat.not_lt_zero _)
        · cases hds : ds.take 1 with
          | nil => rw [show ds.take [some gs].length = [] from hds] at e; cases e
          | cons o r =>
            rw [show ds.take [some gs].length = o :: r from hds] at e
            cases i with
            | zero => cases e; exact ⟨rfl, fun z => nomatch z⟩
            | succ i => rw [a2] at q2; simp at q2
      · obtain ⟨j, rfl⟩ := Nat.exists_eq_add_of_le q2
        rw [fget_appR] at e
        rcases fz_only _ _ e with z | ⟨d, z⟩ <;> cases z
    · obtain ⟨j, rfl⟩ := Nat.exists_eq_add_of_le q
      rw [fget_appR] at e
      rcases hC _ _ e with z | ⟨d, z⟩ <;> cases z
  have par0 : ∀ (n0 : Nat), M ≠ [] → parOf (vs.take (M.length + n) ++ [V.ref p]) 0 = parOf vs 0 := fun _ hMn => by
    have hpos : 0 < M.length := by cases M with | nil => exact absurd rfl hMn | cons _ _ => exact Nat.succ_pos _
    unfold parOf
    rw [List.getElem?_append_left (by rw [List.length_take, hvl]; omega), List.getElem?_take_of_lt (by omega)]
  have s1 : SR K ⟨upd F p (.frz o (.tup (vs.drop (M.length + n)))), upd H p (.frz o (.tup (vs.drop (M.length + n)))), owned ((A0 ++ ((ds.drop M.length).take n).map .fz) ++ (ds.drop (M.length + n)).map .fz) ft, parOf (vs.take (M.length + n) ++ [V.ref p])⟩ (upd F p (.frz o (.tup (vs.drop (M.length + n))))) (upd H p (.frz o (.tup (vs.drop (M.length + n))))) ((vs.take (M.length + n)).map some ++ [some (.ref p)]) ((A0 ++ ((ds.drop M.length).take n).map .fz) ++ [.fz (.tup (ds.drop (M.length + n)))]) := by
    have z := ((g.rebase hf).tail (us' := [some (V.ref p)]) (C' := [.fz (.tup (ds.drop (M.length + n)))]) lA (fun i x e => by
      cases i with
      | zero => exact .inr ⟨_, _, e.symm, rfl, dT⟩
      | succ i => exact .inl e.symm) (fun i x e => fz_only i x e) rfl)
    refine SR.par z fun i k d fs e q hq => ?_
    obtain ⟨rfl, hMn⟩ := tagA [.fz (.tup (ds.drop (M.length + n)))] (fun i x e => by cases i with | zero => exact .inr ⟨_, e.symm⟩ | succ i => exact .inl e.symm) i k d fs e
    rw [par0 0 hMn]
    exact hq
  -- what is behind
  have back : ∀ {os : List D} {F' H' : Hp}, SR K ⟨upd F p (.frz o (.tup (vs.drop (M.length + n)))), upd H p (.frz o (.tup (vs.drop (M.length + n)))), owned ((A0 ++ ((ds.drop M.length).take n).map .fz) ++ (ds.drop (M.length + n)).map .fz) ft, parOf (vs.take (M.length + n) ++ [V.ref p])⟩ F' H' ((vs.take (M.length + n) ++ [V.ref p]).map some) (mkOuts os (M ++ mk0 (n + 1)) 0) →
      SR K ⟨F, H, ps, parOf vs⟩ F' H' (vs.map some) (mkOuts os (M ++ mk0 m) 0) := fun {os F' H'} r => by
    have hO : ∀ r0 : Nat, ∃ O0 : Fm, (∀ r1, mkOuts os (M ++ mk0 r1) 0 = O0 ++ List.replicate r1 .un) ∧ O0.length = M.length ∧ ∀ i k d fs, fget O0 i = .ow (some k) d fs → k = 0 ∧ M ≠ [] := fun _ => by
      rcases hM with rfl | ⟨fs, rfl⟩
      · exact ⟨[], fun r1 => outsx_rep os r1 0, rfl, fun i k d fs e => by cases i <;> cases e⟩
      · cases os with
        | nil => exact ⟨[.un], fun r1 => by show Sl.un :: mkOuts [] (mk0 r1) 1 = _; rw [outsx_rep]; rfl, rfl, fun i k d fs e => by cases i with | zero => cases e | succ i => cases i <;> cases e⟩
        | cons o os => exact ⟨[.ow (some 0) o fs], fun r1 => by show Sl.ow (some 0) o fs :: mkOuts os (mk0 r1) 1 = _; rw [outsx_rep]; rfl, rfl, fun i k d fs e => by cases i with | zero => cases e; exact ⟨rfl, fun z => nomatch z⟩ | succ i => cases i <;> cases e⟩
    obtain ⟨O0, o1, o2, o3⟩ := hO 0
    rw [o1] at r ⊢
    have tagO : ∀ (r1 : Nat) i k d fs, fget (O0 ++ List.replicate r1 Sl.un) i = .ow (some k) d fs → k = 0 ∧ M ≠ [] := fun r1 i k d fs e => by
      rcases Nat.lt_or_ge i O0.length with q | q
      · rw [fget_appL _ _ q] at e
        exact o3 i k d fs e
      · obtain ⟨j, rfl⟩ := Nat.exists_eq_add_of_le q
        rw [fget_appR] at e
        rcases rep_un _ _ _ e with z | ⟨d, z⟩ <;> cases z
    have r2 := SR.par (par' := parOf vs) r (fun i k d fs e q hq => by
      obtain ⟨rfl, hMn⟩ := tagO _ i k d fs e
      rw [par0 0 hMn] at hq
      exact hq)
    have r3 := g.unbase hf (fun _ _ h => h) r2
    have hv1 : (vs.take (M.length + n) ++ [V.ref p]).map some = (vs.take M.length).map some ++ (((vs.drop M.length).take n).map some ++ [some (V.ref p)]) := by
      rw [List.map_append, show vs.take (M.length + n) = vs.take M.length ++ (vs.drop M.length).take n from List.take_add, List.map_append, List.append_assoc]; rfl
    rw [hv1] at r3
    have hv2 : vs.map some = (vs.take M.length).map some ++ (vs.drop M.length).map some := map_split
    rw [hv2]
    refine r3.tail (by rw [List.length_map, List.length_take, o2, hvl]; omega) (fun i x e => ?_) (fun i x e => rep_un _ i x e) (by rw [List.length_map, List.length_drop, List.length_replicate, hvl]; omega)
    rcases rep_un _ i x e with z | ⟨d, z⟩
    · exact .inl z
    · rw [fget_rep] at e; subst e; cases z
  have hds : mkArgs (ds.take (M.length + n) ++ [.tup (ds.drop (M.length + n))]) (M ++ mk0 (n + 1)) 0 = (A0 ++ ((ds.drop M.length).take n).map .fz) ++ [.fz (.tup (ds.drop (M.length + n)))] := by
    have hlen : (ds.take (M.length + n) ++ [D.tup (ds.drop (M.length + n))]).length = M.length + (n + 1) := by rw [List.length_append, List.length_take]; simp; omega
    obtain ⟨A1, b1, b2, b3⟩ := hA _ (n + 1) hlen
    rw [b1, b3, a3, List.drop_append, List.length_take, List.drop_take, List.take_append, List.take_take]
    have e1 : min M.length (M.length + n) = M.length := by omega
    have e2 : M.length - min (M.length + n) ds.length = 0 := by omega
    rw [e1, List.length_take, e2]
    simp
  refine ⟨by rw [List.length_append, List.length_take, hvl, List.length_append, List.length_replicate]; simp; omega, _, ds.take (M.length + n) ++ [.tup (ds.drop (M.length + n))], _, by rw [List.length_append, List.length_take, List.length_append, List.length_replicate]; simp; omega, by rw [hds, List.map_append]; exact s1, ?_⟩
  generalize hmm : mL (ds.take (M.length + n) ++ [.tup (ds.drop (M.length + n))]) = mm at hq ⊢
  cases mm with
  | no => exact hq.elim
  | ex x os => exact fun c dd F' H' e1 s2 x2 => hq c dd F' H' (eF.trans e1) (back s2) x2
  | ok q =>
    obtain ⟨d, os⟩ := q
    exact fun v F' H' e1 s2 d2 => hq v F' H' (eF.trans e1) (back s2) d2
end
end DM

/-! Calls of defs and methods by place; fields; properties; making. -/
namespace DM
open PySem PySem.Spec PyProof.Rows L2 DL

/-! ### promises for any number of values -/
abbrev PrP (P : Program) (w : World) (K : PySem.W.Frag) (mg : Str → Option Value) (base : Heap) (k : Nat) (f : Addr) (nw : Option (List Str)) (mf : List D → R Unit D) : Prop := ∀ n, FnP P w K mg base k f (spM K (mk0 n) nw (Lp mf))
abbrev PrR (P : Program) (w : World) (K : PySem.W.Frag) (mg : Str → Option Value) (base : Heap) (k : Nat) (f : Addr) (fs : List Str) (mf : List D → R Unit (D × D)) : Prop := ∀ n, FnP P w K mg base k f (spM K (some fs :: mk0 n) none (L1e mf))
section
variable {P : Program} {w : World} {K : PySem.W.Frag} {mg : Str → Option Value} {base : Heap} {k j n : Nat} {f : Addr} {fd : FuncData} {ps : List Str} {nw : Option (List Str)} {fs : List Str}
theorem prP_plain {mf : List D → R Unit D} (F : FnG P w K mg base (L2.CX P w) k f fd ps (spM K (mk0 n) nw (Lp mf))) (hb : Binds K fd ps []) (hl : ∀ ds, mf ds ≠ .no → ds.length = n) : PrP P w K mg base k f nw mf := fun m =>
  (fnP_of F hb).to fun vs H Q E h => by
    have h0 := h
    obtain ⟨h1, F, ds, q, h2, h3, h4⟩ := h
    have hne : mf ds ≠ .no := fun z => by
      have : Lp mf ds = .no := by unfold Lp; rw [z]
      rw [this] at h4
      exact h4
    have := hl ds hne
    rw [List.length_replicate] at h2
    rw [← this, h2]
    exact h0
theorem prR_plain {mf : List D → R Unit (D × D)} (F : FnG P w K mg base (L2.CX P w) k f fd ps (spM K (some fs :: mk0 n) none (L1e mf))) (hb : Binds K fd ps []) (hl : ∀ ds, mf ds ≠ .no → ds.length = n + 1) : PrR P w K mg base k f fs mf := fun m =>
  (fnP_of F hb).to fun vs H Q E h => by
    have h0 := h
    obtain ⟨h1, F, ds, q, h2, h3, h4⟩ := h
    have hne : mf ds ≠ .no := fun z => by
      have : L1e mf ds = .no := by unfold L1e; rw [z]
      rw [this] at h4
      exact h4
    have := hl ds hne
    rw [List.length_cons, List.length_replicate] at h2
    have : n = m := by omega
    rw [this]
    exact h0
theorem lp_star (mf : List D → R Unit D) : Lp (starM n mf) = starM n (Lp mf) := funext fun ds => by
  unfold Lp starM
  split <;> rename_i h <;> split at h <;> simp_all
theorem l1_star (mf : List D → R Unit (D × D)) : L1e (starM n mf) = starM n (L1e mf) := funext fun ds => by
  unfold L1e starM
  split <;> rename_i h <;> split at h <;> simp_all
theorem prP_star {x qual : Str} {st : Stmt} {N : List Str} {pv : Str} {mf : List D → R Unit D} (Fn : Fun K x qual st f fd) (S : FnScope N (ps ++ [pv]) (defScope st)) (hn : ps.length = n)
    (hb : ∀ us rest : List Value, us.length = ps.length → bindArgs fd ⟨us ++ rest, []⟩ = (newTuple rest >>= fun t => pure (ps.zip us ++ [(pv, t)])))
    (hbody : Bod P w K mg base N qual st f k (spM K (mk0 (n + 1)) none (Lp mf))) : PrP P w K mg base (k + 1) f none (starM n mf) := fun m =>
  (fnP_star Fn S hb hbody).to fun vs H Q E h => by
    rw [lp_star] at h
    have := star_core (M := []) (n := n) (m := m) (Or.inl rfl) (by rw [show ([] : Mask).length + n = n by simp]; exact h)
    rw [show ([] : Mask).length + n = n by simp] at this
    rw [hn]
    exact this
theorem prR_star {x qual : Str} {st : Stmt} {N : List Str} {pv : Str} {mf : List D → R Unit (D × D)} (Fn : Fun K x qual st f fd) (S : FnScope N (ps ++ [pv]) (defScope st)) (hn : ps.length = n + 1)
    (hb : ∀ us rest : List Value, us.length = ps.length → bindArgs fd ⟨us ++ rest, []⟩ = (newTuple rest >>= fun t => pure (ps.zip us ++ [(pv, t)])))
    (hbody : Bod P w K mg base N qual st f k (spM K (some fs :: mk0 (n + 1)) none (L1e mf))) : PrR P w K mg base (k + 1) f fs (starM (n + 1) mf) := fun m =>
  (fnP_star Fn S hb hbody).to fun vs H Q E h => by
    rw [l1_star] at h
    have := star_core (M := [some fs]) (n := n) (m := m) (Or.inr ⟨fs, rfl⟩) (by rw [show ([some fs] : Mask).length + n = n + 1 by simp; omega]; exact h)
    rw [show ([some fs] : Mask).length + n = n + 1 by simp; omega] at this
    rw [hn]
    exact this
end

/-! ### the arguments of a call -/
def CallW (X : Cx) (es : List Expr) (t : TA) : Prop := ∀ (pos : Pos) (fv : Value) (first : List Value) (pins : List (Addr × Obj)) (s : Shared) (σ : L2.St) (H : Hp) (Q : List V → Hp → Prop) (Qf : Value → Shared → Prop), PySem.W.keepIn X.K fv = true → Inv X pins σ H s → t σ H Q →
  (∀ us vs H1 s1, Inv X pins σ H1 s1 → Vals vs us → Q vs H1 → wpAny (model X.prog X.w) X.A (call fv (first ++ us)) Qf X.xe s1) → wpAny (model X.prog X.w) X.A (callWith pos fv first (backTo pos (starEach es X.env)) []) Qf X.xe s
def tcC (X : Cx) (es : List Expr) : TA := fun σ H Q => ∃ t, CallW X es t ∧ t σ H Q
theorem cw_C {X : Cx} {es : List Expr} : CallW X es (tcC X es) := fun pos fv first pins s σ H Q Qf hk I ⟨_, h, ht⟩ hq => h pos fv first pins s σ H Q Qf hk I ht hq
def AC (X : Cx) (K : PySem.W.Frag) (E : XE) {β γ : Type} (xF : Fm) (xb : β) (env : Fm) (es : List Expr) (c : (List D → R β γ) → R β γ) : Prop := X.K = K ∧ AJ K E xF xb env (tcC X es) (fun _ F _ _ vs ds => DrA K F vs ds) c
section
variable {X : Cx} {K : PySem.W.Frag} {E : XE} {β γ : Type} {xF : Fm} {xb : β} {env : Fm} {e : Expr} {es : List Expr} {p pos : Pos} {k n : Nat} {x : Str} {c1 : (D → R β γ) → R β γ} {cs : (List D → R β γ) → R β γ}
theorem ac_nil (hK : X.K = K := by rfl) : AC X K E xF xb env [] (fun (k : List D → R β γ) => k []) :=
  ⟨hK, fun B F H σ Q k G s w gx hk hG => ⟨tNil, fun pos fv first pins s σ H Q Qf hkp I h hq => PySem.W.callWith_K0 I.kIn hkp (hq [] [] H s I .nil h), hk [] [] F H hG (Ex.refl F) (Ex.refl H) s .nil⟩⟩
theorem ac_pos (h : AA X K E xF xb env (e :: es) cs) (he : starEach (e :: es) X.env = (false, eval e X.env) :: starEach es X.env := by rfl) (hpl : ∀ pos, (backTo pos (starEach es X.env)).any (·.1) = false := by intro _; rfl) : AC X K E xF xb env (e :: es) cs :=
  ⟨h.1, fun B F H σ Q k G s w gx hk hG => ⟨taC X (e :: es), fun pos fv first pins s σ H Q Qf hkp I h1 hq => PySem.W.callWith_K (h₀ := X.base) I.ok.mod.kin hkp (thn (pa_C.run pos pins s σ H _ I h1) fun us s1 ⟨vs, H1, I1, r, q⟩ => ⟨I1.kIn, hq us vs H1 s1 I1 r q⟩) he (hpl pos), h.2 B F H σ Q k G s w gx hk hG⟩⟩
theorem ac_s2 (h : AA X K E xF xb env (e :: es) cs) (he : starEach (e :: es) X.env = (false, eval e X.env) :: starEach es X.env := by rfl) (hst : ∀ pos, (backTo pos (starEach es X.env)).any (·.1) = true := by intro _; rfl) : AC X K E xF xb env (e :: es) cs :=
  ⟨h.1, fun B F H σ Q k G s w gx hk hG => ⟨taC X (e :: es), fun pos fv first pins s σ H Q Qf hkp I h1 hq => PySem.W.callWith_S2 (h₀ := X.base) I.ok.mod.kin hkp (thn (pa_C.run pos pins s σ H _ I h1) fun us s1 ⟨vs, H1, I1, r, q⟩ => ⟨I1.kIn, hq us vs H1 s1 I1 r q⟩) he (hst pos), h.2 B F H σ Q k G s w gx hk hG⟩⟩
def tS1 (K : PySem.W.Frag) (te : TE) : TA := fun σ H Q => te σ H fun y H1 => ∃ a xs, y = V.ref a ∧ (SqT K H1 a xs ∨ SqL K H1 a xs) ∧ Q xs H1
theorem ac_s1 (h : AL X K E xF xb env e c1) (hst : starEach [.Starred e p] X.env = [(true, eval e X.env)] := by rfl) : AC X K E xF xb env [.Starred e p] (fun (k : List D → R β γ) => c1 fun d => R.asQ d k) :=
  ⟨h.1, fun B F H σ Q k G s w gx hk hG => ⟨tS1 X.K (teC X e), fun pos fv first pins s σ H Q Qf hkp I h1 hq => PySem.W.callWith_S (h₀ := X.base) I.ok.mod.kin hkp (thn (pe_C.run pins s σ H _ I h1) fun v s1 ⟨y, H1, I1, ry, a, xs, ey, hxs, q⟩ => by
      subst ey
      obtain rfl : v = Value.ref a := ry
      exact StX.star_any I1 hxs fun us s2 I2 rv => ⟨I2.kIn, hq us xs H1 s2 I2 rv q⟩) hst, h.2 B F H σ _ _ G s w gx (fun d v F1 H1 h1 e1 eh1 s1 d1 => by
    have hK := h.1
    subst hK
    cases d <;> first | exact (gx.no h1).elim | skip
    · obtain ⟨q, xs, rfl, h2, h3⟩ := d1.lstR s1.ex
      exact ⟨q, xs, rfl, .inr (.inl h2), hk _ xs F1 H1 h1 e1 eh1 s1 h3⟩
    · obtain ⟨q, xs, rfl, h2, h3⟩ := d1.tup s1.ex
      exact ⟨q, xs, rfl, .inl h2, hk _ xs F1 H1 h1 e1 eh1 s1 h3⟩) hG⟩⟩

/-! ### calls -/
theorem runP {f : Addr} {sp : Sp} {Ek : XK} {pins : List (Addr × Obj)} {σ : L2.St} {H : Hp} {s : Shared} {Q : VK} {us : List Value} {vs : List V} (F : FnP X.prog X.w X.K X.mg X.base k f sp) (hr : Room k X.A) (hG : Quiet X.A) (hx : PassesAt (L2.CX X.prog X.w) X σ Ek) (I : Inv X pins σ H s) (r : Vals vs us)
    (h : sp vs H Q Ek) : wpAny (model X.prog X.w) X.A (call (.ref f) us) (EP X pins σ Q) X.xe s := by
  refine wpAny_call (codeAny_mono (F X.A X.stack s H us vs Q Ek hr hG I.env0 r h) fun z s' hq => ?_)
  match z, hq with
  | .error e, hq => exact hx pins H s e s' I hq
  | .ok (.ret u), hq => exact I.after hq
  | .ok .next, hq | .ok .brk, hq | .ok .cont, hq => exact False.elim hq
/-- a def of the module, called by place -/
structure DfnC (P : Program) (w : World) (K : PySem.W.Frag) (mg : Str → Option Value) (base : Heap) (k : Nat) (x : Str) (nw : Option (List Str)) (mf : List D → R Unit D) : Prop where
  ex : ∃ f : Addr, PrP P w K mg base k f nw mf ∧ mg x = some (.ref f) ∧ PySem.W.keepIn K (.ref f) = true
theorem aj_callC {mf : List D → R Unit D} {nw : Option (List Str)} {f : Addr} (F : PrP X.prog X.w K X.mg X.base k f nw mf) (hm : X.mg x = some (.ref f)) (hkp : PySem.W.keepIn K (.ref f) = true) (ha : AC X K E xF xb env es cs) (hr : Room k X.A) (hG : Quiet X.A) (hx : ∀ σ, PassesAt (L2.CX X.prog X.w) X σ (E σ)) (hg : Gl X x)
    (hdb : (x == ("__debug__" : Str)) = false) : AJ K E xF xb env (teC X (.Call (.Name x p) es [] pos)) (fun B F H σ v d => rR K nw B F H σ env v d) (fun (k : D → R β γ) => cs fun ds => R.call (mf ds) xb k) := by
  have hK := ha.1
  subst hK
  intro B F0 H σ Q k2 G s w gx hk hG'
  refine ⟨fun σ' H' Q' => σ' = σ ∧ tcC X es σ H' fun vs H1 => ∃ n, spM X.K (mk0 n) nw (Lp mf) vs H1 Q' (E σ), ⟨fun pins s' σ' H' Q' I ⟨e1, h⟩ => ?_⟩, rfl, ?_⟩
  · subst e1
    refine wpAny_Call_Name_kw (ld_glob I hg hm ?_ hdb)
    exact cw_C pos (.ref f) [] pins s' _ H' _ _ hkp I h fun us vs H1 s1 I1 r ⟨n, q⟩ => runP (F n) hr hG (hx _) I1 r q
  · exact ha.2 B F0 H σ _ _ G s w gx (fun ds vs F1 H1 h1 e1 eh1 s1 d1 => ⟨ds.length, callP_core s1 w (gx.mono e1) d1 (fun _ => rfl) (fun d v F' H' g e2 eh2 s2 r2 => hk d v F' H' g (e1.trans e2) (eh1.trans eh2) s2 r2) h1⟩) hG'
theorem a_callC {mf : List D → R Unit D} (F : DfnC X.prog X.w K X.mg X.base k x none mf) (ha : AC X K E xF xb env es cs) (hr : Room k X.A) (hG : Quiet X.A) (hx : ∀ σ, PassesAt (L2.CX X.prog X.w) X σ (E σ)) (hg : Gl X x)
    (hdb : (x == ("__debug__" : Str)) = false := by decide) : AE X K E xF xb env (.Call (.Name x p) es [] pos) (fun (k : D → R β γ) => cs fun ds => R.call (mf ds) xb k) := by
  obtain ⟨f, h1, h2, h3⟩ := F.ex
  exact ⟨ha.1, aj_callC h1 h2 h3 ha hr hG hx hg hdb⟩
theorem a_callCW {mf : List D → R Unit D} {fs : List Str} (F : DfnC X.prog X.w K X.mg X.base k x (some fs) mf) (ha : AC X K E xF xb env es cs) (hr : Room k X.A) (hG : Quiet X.A) (hx : ∀ σ, PassesAt (L2.CX X.prog X.w) X σ (E σ)) (hg : Gl X x)
    (hdb : (x == ("__debug__" : Str)) = false := by decide) : AN X K E xF xb env fs (.Call (.Name x p) es [] pos) (fun (k : D → R β γ) => cs fun ds => R.call (mf ds) xb k) := by
  obtain ⟨f, h1, h2, h3⟩ := F.ex
  exact ⟨ha.1, aj_callC h1 h2 h3 ha hr hG hx hg hdb⟩
end
end DM

/-! Methods, static methods, fields, properties, making. -/
namespace DM
open PySem PySem.Spec PyProof.Rows L2 DL

def R.prop {β α γ : Type} (m : R Unit α) (k : α → R β γ) : R β γ := match m with
  | .ok a => k a
  | _ => .no
/-- an attribute of an object of one of the classes cs -/
def R.fld {β γ : Type} (cs : Str → Bool) (f : Str) (d : D) (k : D → R β γ) : R β γ := match d with
  | .obj C gs => if cs C then R.lft (gs.lookup f) k else .no
  | _ => .no
/-- a method of an object: mt: by class -/
def R.meth {β γ : Type} (mt : Str → Option (List D → R Unit D)) (m : Str) (d : D) (k : (List D → R Unit D) → R β γ) : R β γ := match d with
  | .obj C gs => if (gs.lookup m).isNone then R.lft (mt C) k else .no
  | _ => .no
def R.propOf {β γ : Type} (mt : Str → Option (List D → R Unit D)) (d : D) (k : D → R β γ) : R β γ := match d with
  | .obj C gs => R.lft (mt C) fun mf => R.prop (mf [.obj C gs]) k
  | _ => .no
def putD (f : Str) (d : D) : List (Str × D) → List (Str × D)
  | [] => [(f, d)]
  | (g, x) :: r => if g = f then (g, d) :: r else (g, x) :: putD f d r
/-- what of the text a class must have for its fields -/
structure FldC (K : PySem.W.Frag) (C f : Str) : Prop where
  ex : ∀ c, Cl K C c → Cls K c ∧ NoAttr K c f
structure MethC (P : Program) (w : World) (K : PySem.W.Frag) (mg : Str → Option Value) (base : Heap) (k : Nat) (C m : Str) (nw : Option (List Str)) (mf : List D → R Unit D) : Prop where
  ex : ∀ c, Cl K C c → Cls K c ∧ ∃ f, Meth K c m f ∧ PrP P w K mg base k f nw mf
structure PropC (P : Program) (w : World) (K : PySem.W.Frag) (mg : Str → Option Value) (base : Heap) (k : Nat) (C f : Str) (mf : List D → R Unit D) : Prop where
  ex : ∀ c, Cl K C c → Cls K c ∧ ∃ p g, PropOf K c f p g ∧ PrP P w K mg base k g none mf
structure StatC (P : Program) (w : World) (K : PySem.W.Frag) (mg : Str → Option Value) (base : Heap) (k : Nat) (C m : Str) (nw : Option (List Str)) (mf : List D → R Unit D) : Prop where
  ex : ∃ c mc p f rest, mg C = some (.ref c) ∧ ClX.CRead K c mc ∧ PySem.W.findCls K (.ref c) mc m = some (.get (.builtin "staticmethod.__get__") (.ref p) .none (.ref c)) ∧ PySem.W.recIn K p "staticmethod" = some (.ref f :: rest) ∧ PySem.W.keepIn K (.ref f) = true ∧ PrP P w K mg base k f nw mf
/-- making: the class, its __init__ -/
structure MakeC (P : Program) (w : World) (K : PySem.W.Frag) (mg : Str → Option Value) (base : Heap) (k : Nat) (C : Str) (fs : List Str) (mf : List D → R Unit (D × D)) : Prop where
  ex : ∃ c f, mg C = some (.ref c) ∧ Cl K C c ∧ Mk K c f ∧ PrR P w K mg base k f fs mf
section
variable {K : PySem.W.Frag} {F : Hp}
theorem fld_get {f : Str} : ∀ {fs : List (Str × V)} {gs : List (Str × D)} {d : D}, fs.map (·.1) = gs.map (·.1) → DrA K F (fs.map (·.2)) (gs.map (·.2)) → gs.lookup f = some d → ∃ v, fs.lookup f = some v ∧ Dr K F v d
  | [], [], d, _, _, h => by cases h
  | (n, v) :: fs, (n', d') :: gs, d, hn, ha, h => by
    simp only [List.map_cons, List.cons.injEq] at hn
    obtain ⟨rfl, hn⟩ := hn
    cases ha with
    | cons h1 h2 =>
      by_cases q : (f == n) = true
      · simp only [List.lookup, q] at h ⊢
        cases h
        exact ⟨v, rfl, h1⟩
      · simp only [Bool.not_eq_true] at q
        simp only [List.lookup, q] at h ⊢
        exact fld_get hn h2 h
  | [], _ :: _, _, h, _, _ => by cases h
  | _ :: _, [], _, h, _, _ => by cases h
theorem fld_none {f : Str} : ∀ {fs : List (Str × V)} {gs : List (Str × D)}, fs.map (·.1) = gs.map (·.1) → (gs.lookup f).isNone = true → fs.lookup f = none
  | [], [], _, _ => rfl
  | (n, v) :: fs, (n', d') :: gs, hn, h => by
    simp only [List.map_cons, List.cons.injEq] at hn
    obtain ⟨rfl, hn⟩ := hn
    by_cases q : (f == n) = true
    · simp only [List.lookup, q] at h; cases h
    · simp only [Bool.not_eq_true] at q
      simp only [List.lookup, q] at h ⊢
      exact fld_none hn h
  | [], _ :: _, h, _ => by cases h
  | _ :: _, [], h, _ => by cases h
theorem fld_put {f : Str} {v : V} {d : D} (hv : Dr K F v d) : ∀ {fs : List (Str × V)} {gs : List (Str × D)}, fs.map (·.1) = gs.map (·.1) → DrA K F (fs.map (·.2)) (gs.map (·.2)) → (putF f v fs).map (·.1) = (putD f d gs).map (·.1) ∧ DrA K F ((putF f v fs).map (·.2)) ((putD f d gs).map (·.2))
  | [], [], _, _ => ⟨rfl, .cons hv .nil⟩
  | (n, u) :: fs, (n', d') :: gs, hn, ha => by
    simp only [List.map_cons, List.cons.injEq] at hn
    obtain ⟨rfl, hn⟩ := hn
    cases ha with
    | cons h1 h2 =>
      show ((if n = f then (n, v) :: fs else (n, u) :: putF f v fs).map (·.1)) = ((if n = f then (n, d) :: gs else (n, d') :: putD f d gs).map (·.1)) ∧ DrA K F ((if n = f then (n, v) :: fs else (n, u) :: putF f v fs).map (·.2)) ((if n = f then (n, d) :: gs else (n, d') :: putD f d gs).map (·.2))
      by_cases q : n = f
      · rw [if_pos q, if_pos q]
        exact ⟨by simp [hn], .cons hv h2⟩
      · rw [if_neg q, if_neg q]
        obtain ⟨k1, k2⟩ := fld_put hv hn h2
        exact ⟨by simp [k1], .cons h1 k2⟩
  | [], _ :: _, h, _ => by cases h
  | _ :: _, [], h, _ => by cases h
end
section
variable {X : Cx} {K : PySem.W.Frag} {E : XE} {β γ : Type} {xF : Fm} {xb : β} {env : Fm} {e o : Expr} {es : List Expr} {p pos apos : Pos} {k n : Nat} {x m f : Str} {c1 : (D → R β γ) → R β γ} {cs : (List D → R β γ) → R β γ}
/-- e.f, a field -/
theorem a_fld {cl : Str → Bool} (hF : ∀ C, cl C = true → FldC K C f) (h : AL X K E xF xb env e c1) (hb : attributeBase e f X.env (eval e X.env) = eval e X.env := by rfl) : AE X K E xF xb env (.Attribute e f pos) (fun (k : D → R β γ) => c1 fun d => R.fld cl f d k) :=
  ⟨h.1, fun B F H σ Q k G s w gx hk hG => ⟨_, pe_fld pe_C hb, h.2 B F H σ _ _ G s w gx (fun d v F1 H1 h1 e1 eh1 s1 d1 => by
    have hK := h.1
    subst hK
    cases d <;> first | exact (gx.no h1).elim | skip
    rename_i C gs
    obtain ⟨a, c, dx, fs, rfl, g1, g2, g3, g4⟩ := d1.obj s1.ex
    have h1 : G (if cl C then R.lft (gs.lookup f) k else .no) := h1
    split at h1
    · rename_i hc
      cases hg : gs.lookup f with
      | none => rw [hg] at h1; exact (gx.no h1).elim
      | some y =>
        rw [hg] at h1
        obtain ⟨v, k1, k2⟩ := fld_get g3 g4 hg
        obtain ⟨k3, k4⟩ := (hF C hc).ex c g2
        exact ⟨a, c, dx, fs, v, rfl, g1, k3, k4, k1, hk y v F1 H1 h1 e1 eh1 s1 k2⟩
    · exact (gx.no h1).elim) hG⟩⟩
theorem runPG {g : Addr} {pins : List (Addr × Obj)} {σ : L2.St} {H : Hp} {s : Shared} {Q : VK} {b : Bool} {E' : Value → Shared → Prop} {a C dx pp : Addr} {fs : List (Str × V)} {sp : Sp} (I : Inv X pins σ H s) (ea : H a = some (.ins C dx fs)) (c : Cls X.K C) (hp : PropOf X.K C f pp g)
    (F : FnP X.prog X.w X.K X.mg X.base k g sp) (hr : Room (k + 1) X.A) (hG : Quiet X.A) (h : sp [.ref a] H Q (fun _ _ _ => False)) : wpAny (model X.prog X.w) X.A (getAttr (.ref a) f b) (EP X pins σ Q) E' s := by
  obtain ⟨mA, O, _, _, _, _⟩ := ins_get I.hok ea
  obtain ⟨od, J, _⟩ := O.look
  obtain ⟨rest, hrec⟩ := hp.rec_
  have I1 := I.tok (s.toks + 1)
  have hc : (PySem.W.clsIn X.K C).isSome = true := by
    obtain ⟨cd, hc, _⟩ := PySem.W.any_some c.hd
    rw [hc]
    rfl
  refine PySem.W.get_bind I.kIn J (PySem.W.plainGet_of (c.get f)).1 (PySem.W.findObj_data hc hp.at_ hp.get hp.tak) (PySem.W.plainGet_of (c.get f)).2 (wpAny_call (PySem.W.prop_get (s := { s with toks := s.toks + 1 }) I.kIn hrec ?_))
  refine codeAny_mono (F X.A.in1 X.stack { s with toks := s.toks + 1 } H [.ref a] [.ref a] Q (fun _ _ _ => False) hr.in1 hG I1.env0.in1 (.cons rfl .nil) h) fun r s' hq => ?_
  match r, hq with
  | .error er, hq =>
    obtain ⟨_, _, _, _, _, _, _, _, _, _, _, _, he⟩ := hq
    exact he.elim
  | .ok (.ret u), hq =>
    obtain ⟨v, H', I3, rv, q3⟩ := I1.after hq
    show wpAny _ _ (handedOut u) _ _ _
    rw [PySem.W.handedOut_of (handed_of rv)]
    exact wpAny_pure ⟨v, H', I3, rv, q3⟩
  | .ok .next, hq | .ok .brk, hq | .ok .cont, hq => exact False.elim hq
/-- e.f, a property -/
theorem a_prop {mt : Str → Option (List D → R Unit D)} (hF : ∀ C mf, mt C = some mf → PropC X.prog X.w K X.mg X.base k C f mf) (h : AE X K E xF xb env e c1) (hr : Room (k + 1) X.A) (hG : Quiet X.A) (hb : attributeBase e f X.env (eval e X.env) = eval e X.env := by rfl) :
    AE X K E xF xb env (.Attribute e f pos) (fun (k : D → R β γ) => c1 fun d => R.propOf mt d k) :=
  ⟨h.1, fun B F H σ Q k2 G s w gx hk hG' => by
    have hK := h.1
    subst hK
    refine ⟨fun σ' H' Q' => teC X e σ' H' fun v H1 => ∃ a c dx fs pp g mf, v = .ref a ∧ H1 a = some (.ins c dx fs) ∧ Cls X.K c ∧ PropOf X.K c f pp g ∧ PrP X.prog X.w X.K X.mg X.base k g none mf ∧ spM X.K (mk0 1) none (Lp mf) [.ref a] H1 Q' (fun _ _ _ => False), ⟨fun pins s' σ' H' Q' I ht => ?_⟩, ?_⟩
    · refine attr_of hb (thn (pe_C.run pins s' σ' H' _ I ht) fun u s1 ⟨v, H1, I1, rx, a, c, dx, fs, pp, g, mf, ex, ea, k1, k2, k3, k4⟩ => ?_)
      subst ex
      obtain rfl : u = Value.ref a := rx
      exact runPG I1 ea k1 k2 (k3 1) hr hG k4
    · refine h.2 B F H σ _ _ G s w gx (fun d v F1 H1 h1 e1 eh1 s1 d1 => ?_) hG'
      cases d <;> first | exact (gx.no h1).elim | skip
      rename_i C gs
      have d0 := d1
      obtain ⟨a, c, dx, fs, rfl, g1, g2, g3, g4⟩ := (Dh.obj s1.ex (.inl d1))
      unfold R.propOf at h1
      cases hm : mt C with
      | none => simp only [hm] at h1; exact (gx.no h1).elim
      | some mf =>
        simp only [hm] at h1
        obtain ⟨k1, pp, g, k3, k4⟩ := (hF C mf hm).ex c g2
        refine ⟨a, c, dx, fs, pp, g, mf, rfl, g1, k1, k3, k4, sp_pure (ds := [.obj C gs]) s1 (.cons d0 .nil) rfl (fun d os hq v F' H' e2 eh2 s2 r2 => ?_) (fun y os hq => ?_) fun z => ?_⟩
        · unfold Lp at hq
          cases hmm : mf [.obj C gs] with
          | ok d' =>
            rw [hmm] at hq; cases hq
            have h1' : G (R.prop (mf [.obj C gs]) k2) := h1
            rw [hmm] at h1'
            exact hk d v F' H' h1' (e1.trans e2) (eh1.trans eh2) s2 r2
          | ex _ _ => rw [hmm] at hq; cases hq
          | no => rw [hmm] at hq; cases hq
        · have h1' : G (R.prop (mf [.obj C gs]) k2) := h1
          unfold Lp at hq
          cases hmm : mf [.obj C gs] with
          | ok d' => rw [hmm] at hq; cases hq
          | no => rw [hmm] at hq; cases hq
          | ex _ _ => rw [hmm] at h1'; exact (gx.no h1').elim
        · have h1' : G (R.prop (mf [.obj C gs]) k2) := h1
          unfold Lp at z
          cases hmm : mf [.obj C gs] with
          | ok d' => rw [hmm] at z; cases z
          | no => rw [hmm] at h1'; exact (gx.no h1').elim
          | ex _ _ => rw [hmm] at z; cases z⟩
/-- o.m(..) -/
theorem aj_meth {pl : Sem Bool} {nw : Option (List Str)} {mt : Str → Option (List D → R Unit D)} (hF : ∀ C mf, mt C = some mf → MethC X.prog X.w K X.mg X.base k C m nw mf) (h : AE X K E xF xb env o c1) (ha : AC X K E xF xb env es cs) (hr : Room k X.A) (hG : Quiet X.A) (hx : ∀ σ, PassesAt (L2.CX X.prog X.w) X σ (E σ))
    (ht : eval (.Call (.Attribute o m apos) es [] pos) X.env = (do
      let ov ← eval o X.env
      standAt apos.atName
      let (f, first) ← holding [ov] (getMethod ov m pl)
      callWith pos f first (backTo pos (starEach es X.env)) (backToKw pos (keywordEach [] X.env)))) :
    AJ K E xF xb env (teC X (.Call (.Attribute o m apos) es [] pos)) (fun B F H σ v d => rR K nw B F H σ env v d) (fun (k : D → R β γ) => c1 fun d => R.meth mt m d fun mf => cs fun ds => R.call (mf (d :: ds)) xb k) := fun B F H σ Q k2 G s w gx hk hG' => by
  have hK := h.1
  subst hK
  refine ⟨fun σ' H' Q' => σ' = σ ∧ teC X o σ H' fun v H1 => ∃ a c dx fs g mf, v = .ref a ∧ H1 a = some (.ins c dx fs) ∧ fs.lookup m = none ∧ Cls X.K c ∧ Meth X.K c m g ∧ PrP X.prog X.w X.K X.mg X.base k g nw mf ∧ tcC X es σ H1 fun vs H2 => ∃ n, spM X.K (mk0 n) nw (Lp mf) (.ref a :: vs) H2 Q' (E σ), ⟨fun pins s' σ' H' Q' I ⟨e1, h1⟩ => ?_⟩, rfl, ?_⟩
  · subst e1
    refine PySem.W.methodCall_KW (pl := pl) (thn (pe_C.run pins s' _ H' _ I h1) fun u s1 ⟨v, H1, I1, rx, a, c, dx, fs, g, mf, ex, ea, l, k1, k2, k3, k4⟩ => ?_) ht
    subst ex
    obtain rfl : u = Value.ref a := rx
    refine getmeth_ok I1 ea k1 k2 l ?_
    exact cw_C pos (.ref g) [.ref a] pins s1 _ H1 _ _ k2.kp I1 k4 fun us vs H2 s2 I2 r ⟨n, q⟩ => runP (us := .ref a :: us) (vs := .ref a :: vs) (k3 n) hr hG (hx _) I2 (.cons rfl r) q
  · refine h.2 B F H σ _ _ G s w gx (fun d v F1 H1 h1 e1 eh1 s1 d1 => ?_) hG'
    cases d <;> first | exact (gx.no h1).elim | skip
    rename_i C gs
    have h1 : G (if (gs.lookup m).isNone then R.lft (mt C) fun mf => cs fun ds => R.call (mf (.obj C gs :: ds)) xb k2 else .no) := h1
    split at h1
    case isFalse => exact (gx.no h1).elim
    rename_i l
    cases hm : mt C with
    | none => rw [hm] at h1; exact (gx.no h1).elim
    | some mf =>
      rw [hm] at h1
      have d0 := d1
      obtain ⟨a, c, dx, fs, rfl, g1, g2, g3, g4⟩ := (Dh.obj s1.ex (.inl d1))
      obtain ⟨k1, g, k3, k4⟩ := (hF C mf hm).ex c g2
      refine ⟨a, c, dx, fs, g, mf, rfl, g1, fld_none g3 l, k1, k3, k4, ha.2 B F1 H1 σ _ _ G s1 w (gx.mono e1) (fun ds vs F2 H2 h2 e2 eh2 s2 d2 => ?_) h1⟩
      exact ⟨ds.length + 1, callP_core (ds := .obj C gs :: ds) s2 w (gx.mono (e1.trans e2)) (.cons (d0.mono e2) d2) (fun _ => rfl) (fun d v F' H' g e3 eh3 s3 r3 => hk d v F' H' g (e1.trans (e2.trans e3)) (eh1.trans (eh2.trans eh3)) s3 r3) h2⟩
theorem a_meth {pl : Sem Bool} {mt : Str → Option (List D → R Unit D)} (hF : ∀ C mf, mt C = some mf → MethC X.prog X.w K X.mg X.base k C m none mf) (h : AE X K E xF xb env o c1) (ha : AC X K E xF xb env es cs) (hr : Room k X.A) (hG : Quiet X.A) (hx : ∀ σ, PassesAt (L2.CX X.prog X.w) X σ (E σ))
    (ht : eval (.Call (.Attribute o m apos) es [] pos) X.env = (do
      let ov ← eval o X.env
      standAt apos.atName
      let (f, first) ← holding [ov] (getMethod ov m pl)
      callWith pos f first (backTo pos (starEach es X.env)) (backToKw pos (keywordEach [] X.env))) := by rfl) :
    AE X K E xF xb env (.Call (.Attribute o m apos) es [] pos) (fun (k : D → R β γ) => c1 fun d => R.meth mt m d fun mf => cs fun ds => R.call (mf (d :: ds)) xb k) := ⟨h.1, aj_meth (nw := none) hF h ha hr hG hx ht⟩
theorem a_methW {pl : Sem Bool} {fs : List Str} {mt : Str → Option (List D → R Unit D)} (hF : ∀ C mf, mt C = some mf → MethC X.prog X.w K X.mg X.base k C m (some fs) mf) (h : AE X K E xF xb env o c1) (ha : AC X K E xF xb env es cs) (hr : Room k X.A) (hG : Quiet X.A) (hx : ∀ σ, PassesAt (L2.CX X.prog X.w) X σ (E σ))
    (ht : eval (.Call (.Attribute o m apos) es [] pos) X.env = (do
      let ov ← eval o X.env
      standAt apos.atName
      let (f, first) ← holding [ov] (getMethod ov m pl)
      callWith pos f first (backTo pos (starEach es X.env)) (backToKw pos (keywordEach [] X.env))) := by rfl) :
    AN X K E xF xb env fs (.Call (.Attribute o m apos) es [] pos) (fun (k : D → R β γ) => c1 fun d => R.meth mt m d fun mf => cs fun ds => R.call (mf (d :: ds)) xb k) := ⟨h.1, aj_meth (nw := some fs) hF h ha hr hG hx ht⟩
/-- C.m(..), a static method -/
theorem aj_stat {pl : Sem Bool} {nw : Option (List Str)} {mf : List D → R Unit D} (hF : StatC X.prog X.w K X.mg X.base k x m nw mf) (ha : AC X K E xF xb env es cs) (hr : Room k X.A) (hG : Quiet X.A) (hx : ∀ σ, PassesAt (L2.CX X.prog X.w) X σ (E σ)) (hg : Gl X x) (hdb : (x == ("__debug__" : Str)) = false)
    (ht : eval (.Call (.Attribute (.Name x p) m apos) es [] pos) X.env = (do
      let ov ← eval (.Name x p) X.env
      standAt apos.atName
      let (f, first) ← holding [ov] (getMethod ov m pl)
      callWith pos f first (backTo pos (starEach es X.env)) (backToKw pos (keywordEach [] X.env)))) :
    AJ K E xF xb env (teC X (.Call (.Attribute (.Name x p) m apos) es [] pos)) (fun B F H σ v d => rR K nw B F H σ env v d) (fun (k : D → R β γ) => cs fun ds => R.call (mf ds) xb k) := fun B F H σ Q k2 G s w gx hk hG' => by
  have hK := ha.1
  subst hK
  obtain ⟨c, mc, pp, f, rest, h1, h2, h3, h4, h5, h6⟩ := hF.ex
  refine ⟨fun σ' H' Q' => σ' = σ ∧ tcC X es σ H' fun vs H2 => ∃ n, spM X.K (mk0 n) nw (Lp mf) vs H2 Q' (E σ), ⟨fun pins s' σ' H' Q' I ⟨e1, ht'⟩ => ?_⟩, rfl, ?_⟩
  · subst e1
    refine PySem.W.methodCall_KW (pl := pl) (ld_glob I hg h1 ?_ hdb) ht
    refine PySem.W.method_cls I.kIn h2.ga (PySem.W.cls_bind I.kIn h2.rd h3 (wpAny_call (PySem.W.sm_get (s := { s' with toks := s'.toks + 1 }) I.kIn h4 (PySem.W.handed_on rfl ?_))))
    exact cw_C pos (.ref f) [] pins _ _ H' _ _ h5 (I.tok _) ht' fun us vs H2 s2 I2 r ⟨n, q⟩ => runP (h6 n) hr hG (hx _) I2 r q
  · exact ha.2 B F H σ _ _ G s w gx (fun ds vs F1 H1 h1 e1 eh1 s1 d1 => ⟨ds.length, callP_core s1 w (gx.mono e1) d1 (fun _ => rfl) (fun d v F' H' g e2 eh2 s2 r2 => hk d v F' H' g (e1.trans e2) (eh1.trans eh2) s2 r2) h1⟩) hG'
theorem a_stat {pl : Sem Bool} {mf : List D → R Unit D} (hF : StatC X.prog X.w K X.mg X.base k x m none mf) (ha : AC X K E xF xb env es cs) (hr : Room k X.A) (hG : Quiet X.A) (hx : ∀ σ, PassesAt (L2.CX X.prog X.w) X σ (E σ)) (hg : Gl X x) (hdb : (x == ("__debug__" : Str)) = false := by decide)
    (ht : eval (.Call (.Attribute (.Name x p) m apos) es [] pos) X.env = (do
      let ov ← eval (.Name x p) X.env
      standAt apos.atName
      let (f, first) ← holding [ov] (getMethod ov m pl)
      callWith pos f first (backTo pos (starEach es X.env)) (backToKw pos (keywordEach [] X.env))) := by rfl) :
    AE X K E xF xb env (.Call (.Attribute (.Name x p) m apos) es [] pos) (fun (k : D → R β γ) => cs fun ds => R.call (mf ds) xb k) := ⟨ha.1, aj_stat (nw := none) hF ha hr hG hx hg hdb ht⟩
theorem a_statW {pl : Sem Bool} {fs : List Str} {mf : List D → R Unit D} (hF : StatC X.prog X.w K X.mg X.base k x m (some fs) mf) (ha : AC X K E xF xb env es cs) (hr : Room k X.A) (hG : Quiet X.A) (hx : ∀ σ, PassesAt (L2.CX X.prog X.w) X σ (E σ)) (hg : Gl X x) (hdb : (x == ("__debug__" : Str)) = false := by decide)
    (ht : eval (.Call (.Attribute (.Name x p) m apos) es [] pos) X.env = (do
      let ov ← eval (.Name x p) X.env
      standAt apos.atName
      let (f, first) ← holding [ov] (getMethod ov m pl)
      callWith pos f first (backTo pos (starEach es X.env)) (backToKw pos (keywordEach [] X.env))) := by rfl) :
    AN X K E xF xb env fs (.Call (.Attribute (.Name x p) m apos) es [] pos) (fun (k : D → R β γ) => cs fun ds => R.call (mf ds) xb k) := ⟨ha.1, aj_stat (nw := some fs) hF ha hr hG hx hg hdb ht⟩

/-! ### making -/
theorem sp_own {B : Bs} {F H : Hp} {σ : L2.St} {vs : List V} {ds : List D} {Q : VK} {Ek : XK} {mf : List D → R Unit (D × D)} {C : Str} {c q dx : Addr} {fs : List Str} (s : SR K B F H σ env) (hq : H q = none) (hdx : H dx = none) (hne : dx ≠ q) (hC : Cl K C c) (hA : DrA K F vs ds) (hn : ds.length = n)
    (hok : ∀ d o', mf (.obj C [] :: ds) = .ok (d, o') → ∀ v F' H', Ex F F' → Ex H H' → SR K B F' H' σ env → Dr K F' v d → rN K B F' H' σ env (.ref q) o' fs → Q v H')
    (hex : ∀ x u, mf (.obj C [] :: ds) = .ex x u → ∀ cl dd F' H', Ex F F' → SR K B F' H' σ env → XR K F' x cl dd → Ek cl dd H') (hno : mf (.obj C [] :: ds) ≠ .no) : spM K (some fs :: mk0 n) none (L1e mf) (.ref q :: vs) (upd (upd H dx (.own q)) q (.ins c dx [])) Q Ek := by
  have hq1 : (upd H dx (HO.own q)) q = none := by rw [upd_ne (Ne.symm hne)]; exact hq
  have s1 := (s.growH (o := .own q) hdx).growH (o := .ins c dx []) hq1
  generalize hH1 : upd (upd H dx (.own q)) q (.ins c dx []) = H1 at s1 ⊢
  have hHq : H1 q = some (.ins c dx []) := by rw [← hH1, upd_same]
  have hFq : F q = none := s.ex.none hq
  have e01 : Ex H H1 := fun a o h => by
    have n1 : a ≠ q := fun z => by rw [z, hq] at h; cases h
    have n2 : a ≠ dx := fun z => by rw [z, hdx] at h; cases h
    rw [← hH1, upd_ne n1, upd_ne n2]
    exact h
  have sa := SR.args (B' := ⟨F, H1, fun a => a = q, parOf (.ref q :: vs)⟩) s1.ex hA rfl rfl
  have hargs : mkArgs (.obj C [] :: ds) (some fs :: mk0 n) 0 = .ow (some 0) (.obj C []) fs :: ds.map .fz := by
    show .ow (some 0) (.obj C []) fs :: mkArgs ds (mk0 n) 1 = _
    rw [mk0_fz hn]
  have s0 : SR K ⟨F, H1, fun a => a = q, parOf (.ref q :: vs)⟩ F H1 ((V.ref q :: vs).map some) (.ow (some 0) (.obj C []) fs :: ds.map .fz) := by
    refine ⟨s1.ex, Ex.refl F, fun _ _ h _ => h, fun a o h => Or.inl fun z => ?_, by simp [hA.length], fun j d h => ?_, fun j a d gs h => ?_, fun j => if j = 0 then [q] else [], fun j t' d f' h => ?_, fun j k t1 t2 d1 d2 f1 f2 hjk g1 g2 a a1 a2 => ?_⟩
    · have z' : F a = none := z
      rw [h] at z'; cases z'
    · cases j with
      | zero => cases h
      | succ j => exact sa.fz j d h
    · cases j with
      | zero => cases h
      | succ j => exact sa.xc j a d gs h
    · cases j with
      | zero =>
        cases h
        refine ⟨q, rfl, ?_, fun a ha => ?_, fun k hk => by cases hk; rfl⟩
        · exact Own.ob hHq hC OwF.nil
        · have ha : a ∈ [q] := ha
          cases ha with
          | head => exact ⟨hFq, Or.inr rfl⟩
          | tail _ h => cases h
      | succ j =>
        obtain ⟨d', _, z⟩ := fz_get (show fget (ds.map Sl.fz) j = _ from h) fun z => nomatch z
        cases z
    · cases j with
      | zero =>
        cases k with
        | zero => exact hjk rfl
        | succ k => simp at a2
      | succ j => simp at a1
  have hSq : ∀ a ∈ [q], F a = none ∧ (B.H0 a = none ∨ B.ps a) := fun a ha => by
    cases ha with
    | head => exact ⟨hFq, s.new_b hq⟩
    | tail _ h => cases h
  have hnq : ∀ ft, Hs K B F H1 σ env ft → ∀ a ∈ [q], ¬ owned env ft a := fun ft hf a ha z => by
    cases ha with
    | tail _ h => cases h
    | head =>
      obtain ⟨ft0, hf0⟩ := s.own
      obtain ⟨i, t, d2, f2, g1, g2⟩ := z
      obtain ⟨q0, q1, q2, _⟩ := hf0.ow i t d2 f2 g1
      obtain ⟨q', r1, r2, _⟩ := hf.ow i t d2 f2 g1
      rw [q1] at r1
      cases r1
      exact foot_eq q2 e01 r2 _ g2 hq
  have back : ∀ {F' H' : Hp} {as : Fm}, SR K ⟨F, H1, fun a => a = q, parOf (.ref q :: vs)⟩ F' H' ((V.ref q :: vs).map some) as → SR K B F' H' σ env := fun {F' H' as} r =>
    s1.afterS (S := [q]) hSq hnq r rfl rfl fun a z => by cases z; exact List.mem_cons_self
  have exH : ∀ {F' H' : Hp} {as : Fm}, SR K ⟨F, H1, fun a => a = q, parOf (.ref q :: vs)⟩ F' H' ((V.ref q :: vs).map some) as → Ex H H' := fun {F' H' as} r a o h => r.keep a o (e01 a o h) fun z => by
    have z : a = q := z
    rw [z, hq] at h; cases h
  refine ⟨by simp [hA.length, hn], F, .obj C [] :: ds, fun a => a = q, by simp [hn], by rw [hargs]; exact s0, ?_⟩
  cases hm : mf (.obj C [] :: ds) with
  | no => exact absurd hm hno
  | ex y u =>
    have : L1e mf (.obj C [] :: ds) = .ex y [] := by unfold L1e; rw [hm]
    rw [this]
    exact fun cl dd F' H' e1 r x1 => hex y u hm cl dd F' H' e1 (back r) x1
  | ok w =>
    obtain ⟨d, o'⟩ := w
    have : L1e mf (.obj C [] :: ds) = .ok (d, [o']) := by unfold L1e; rw [hm]
    rw [this]
    intro v F' H' e1 r d1
    have r' : SR K ⟨F, H1, fun a => a = q, parOf (.ref q :: vs)⟩ F' H' ((V.ref q :: vs).map some) (.ow (some 0) o' fs :: mkOuts [] (mk0 n) 1) := r
    refine hok d o' hm v F' H' e1 (exH r) (back r) d1 ?_
    obtain ⟨ft', hf'⟩ := r'.own
    obtain ⟨p3, g1, g2, g3, g4⟩ := hf'.ow 0 (some 0) o' fs rfl
    have : some (some (V.ref q)) = some (some (V.ref p3)) := g1
    cases this
    have hnew : ∀ a ∈ ft' 0, H a = none := fun a ha => by
      rcases (g3 a ha).2 with z | z
      · exact e01.none z
      · have z : a = q := z
        rw [z]; exact hq
    refine ⟨q, ft' 0, rfl, g2, fun a ha => ⟨(g3 a ha).1, s.new_b (hnew a ha)⟩, fun ft hf a ha z => ?_⟩
    obtain ⟨ft0, hf0⟩ := s.own
    obtain ⟨i, t, d2, f2, k1, k2⟩ := z
    obtain ⟨q0, q1, q2, _⟩ := hf0.ow i t d2 f2 k1
    obtain ⟨q', r1, r2, _⟩ := hf.ow i t d2 f2 k1
    rw [q1] at r1
    cases r1
    exact foot_eq q2 (exH r) r2 a k2 (hnew a ha)
theorem runM {C f : Addr} {sp : Sp} {Ek : XK} {pins : List (Addr × Obj)} {σ : L2.St} {H : Hp} {s : Shared} {Q : VK} {us : List Value} {vs : List V} (M : Mk X.K C f) (F : FnP X.prog X.w X.K X.mg X.base k f sp) (hr : Room (k + 1) X.A) (hG : Quiet X.A) (hx : PassesAt (L2.CX X.prog X.w) X σ Ek) (I : Inv X pins σ H s) (r : Vals vs us)
    (h : ∀ q dx, H q = none → H dx = none → dx ≠ q → sp (V.ref q :: vs) (upd (upd H dx (.own q)) q (.ins C dx [])) (fun v H2 => v = .non ∧ Q (.ref q) H2) Ek) : wpAny (model X.prog X.w) X.A (call (.ref C) us) (EP X pins σ Q) X.xe s := by
  have hq := h (s.heap.objs.size + 1) s.heap.objs.size (I.hok.fresh (Nat.le_succ _)) (I.hok.fresh (Nat.le_refl _)) (Nat.ne_of_lt (Nat.lt_succ_self _))
  have I2 := Inv.made (C := C) I
  refine wpAny_call (make_map (f := f) I.kIn M.makes M.init (beq_iff_eq.mp M.fn) (codeAny_mono (F _ X.stack _ _ (Value.ref (s.heap.objs.size + 1) :: us) (V.ref (s.heap.objs.size + 1) :: vs) _ Ek (hr.make C us []) hG (I2.env0.make C us []) (.cons rfl r) hq) fun r s' hq' => ?_))
  match r, hq' with
  | .error e, hq' => exact hx pins _ _ e s' I2 hq'
  | .ok (.ret u), hq' =>
    obtain ⟨v, H', I3, rv, ev, q3⟩ := I2.after hq'
    subst ev
    exact ⟨rv, ⟨V.ref (s.heap.objs.size + 1), H', I3, rfl, q3⟩⟩
  | .ok .next, hq' | .ok .brk, hq' | .ok .cont, hq' => exact False.elim hq'
/-- C(..): an object is made -/
theorem a_make {fs : List Str} {mf : List D → R Unit (D × D)} (hF : MakeC X.prog X.w K X.mg X.base k x fs mf) (ha : AC X K E xF xb env es cs) (hr : Room (k + 1) X.A) (hG : Quiet X.A) (hx : ∀ σ, PassesAt (L2.CX X.prog X.w) X σ (E σ)) (hg : Gl X x)
    (hdb : (x == ("__debug__" : Str)) = false := by decide) : AN X K E xF xb env fs (.Call (.Name x p) es [] pos) (fun (k : D → R β γ) => cs fun ds => R.make (mf (.obj x [] :: ds)) xb k) :=
  ⟨ha.1, fun B F H σ Q k2 G s w gx hk hG' => by
    have hK := ha.1
    subst hK
    obtain ⟨c, f, h1, h2, h3, h4⟩ := hF.ex
    refine ⟨fun σ' H' Q' => σ' = σ ∧ tcC X es σ H' fun vs H1 => ∃ n, ∀ q dx, H1 q = none → H1 dx = none → dx ≠ q → spM X.K (some fs :: mk0 n) none (L1e mf) (V.ref q :: vs) (upd (upd H1 dx (.own q)) q (.ins c dx [])) (fun v H2 => v = .non ∧ Q' (.ref q) H2) (E σ), ⟨fun pins s' σ' H' Q' I ⟨e1, h⟩ => ?_⟩, rfl, ?_⟩
    · subst e1
      refine wpAny_Call_Name_kw (ld_glob I hg h1 ?_ hdb)
      exact cw_C pos (.ref c) [] pins s' _ H' _ _ h3.kp I h fun us vs H1 s1 I1 r ⟨n, q⟩ => runM h3 (h4 n) hr hG (hx _) I1 r q
    · refine ha.2 B F H σ _ _ G s w gx (fun ds vs F1 H1 g1 e1 eh1 s1 d1 => ⟨ds.length, fun q dx hq hdx hne => ?_⟩) hG'
      refine sp_own s1 hq hdx hne h2 d1 rfl (fun d o' hm v F' H' e2 eh2 s2 d2 r2 => ?_) (fun y u hm cl dd F' H' e2 s2 x2 => ?_) fun z => ?_
      · have g1' : G (R.make (mf (.obj x [] :: ds)) xb k2) := g1
        rw [hm] at g1'
        cases d <;> first | exact (gx.no g1').elim | skip
        cases d2
        exact ⟨rfl, hk o' _ F' H' g1' (e1.trans e2) (eh1.trans eh2) s2 r2⟩
      · have g1' : G (R.make (mf (.obj x [] :: ds)) xb k2) := g1
        rw [hm] at g1'
        exact gx.ex y g1' cl dd F' H' (e1.trans e2) (s2.wk w) x2
      · have g1' : G (R.make (mf (.obj x [] :: ds)) xb k2) := g1
        rw [z] at g1'
        exact gx.no g1'⟩
end
section
variable {X : Cx} {K : PySem.W.Frag} {E : XE} {β ω : Type} {κ : Kt β ω} {env : Fm} {pos : Pos} {rest : List Stmt} {tag : Option Nat} {e : Expr}
def R.putF (cl : Str → Bool) (f : Str) (d y : D) (k : D → R β ω) : R β ω := match d with
  | .obj C gs => if cl C && decide (gs.length < 1000) then k (.obj C (putD f y gs)) else .no
  | _ => .no
/-- x.f = e, x the slot's own object -/
theorem ab_fld (i : Nat) {x f : Str} {d : D} (hi : fget env i = .ow tag d []) {c : (D → R β ω) → R β ω} {m : D → R β ω} {p1 p2 : Pos} (xb : β) {cl : Str → Bool} (hF : ∀ C, cl C = true → FldC K C f) (he : AE X K E (κ.fx xb) xb env e c) (hx : Wk env (κ.fx xb)) (hr : ∀ d, AB X K E κ (fput env i (.ow tag d [])) rest (m d))
    (hN : X.N[i]? = some x := by rfl) (hv : Vis X.env.scope x := by first | exact Or.inl rfl | exact Or.inr (Or.inl rfl) | exact Or.inr (Or.inr rfl)) (hd : (x == ("__debug__" : Str)) = false := by decide) (hcd : (x == ("__classdict__" : Str)) = false := by decide)
    (hs : swapsWith e (some (.Attribute (.Name x p1) f p2)) pos.line X.env = pure false := by rfl) :
    AB X K E κ env (.Assign [.Attribute (.Name x p1) f p2] e pos :: rest) (c fun y => R.putF cl f d y m) := by
  refine ⟨he.1, fun B F H σ Dn G sr gs hG => ⟨_, pss_cons (ps_fld (pe_var hN hv hd hcd) pe_C hs) ps_C, ?_⟩⟩
  have hK := he.1
  subst hK
  refine he.2 B F H σ _ _ G sr hx (gs.gx xb) (fun y v F1 H1 g1 e1 eh1 s1 d1 => ?_) hG
  obtain ⟨p, o, q1, q2, q3⟩ := s1.cell0 hi
  refine ⟨.ref p, q1, ?_⟩
  cases q3 with
  | lst _ => exact (gs.no g1).elim
  | dct _ _ => exact (gs.no g1).elim
  | obj hC hn hA =>
    rename_i c0 dx C fs gs'
    have g1 : G (if cl C && decide (gs'.length < 1000) then m (.obj C (putD f y gs')) else .no) := g1
    split at g1
    case isFalse => exact (gs.no g1).elim
    rename_i hc
    rw [Bool.and_eq_true] at hc
    obtain ⟨k1, k2⟩ := (hF C hc.1).ex c0 hC
    obtain ⟨t1, t2⟩ := fld_put (f := f) d1 hn hA
    obtain ⟨p4, o4, k4, k5, k6, k7⟩ := s1.cell (d' := .obj C (putD f y gs')) (o' := .ins c0 dx (L2.putF f v fs)) hi (.obj hC t1 t2)
    rw [q1] at k4
    cases k4
    have hlen : fs.length = gs'.length := by simpa using congrArg List.length hn
    exact ⟨p, c0, dx, fs, rfl, q2, k1, k2, by rw [hlen]; exact of_decide_eq_true hc.2, (hr _).2 B F1 _ σ Dn G k7 (gs.mono e1) g1⟩
/-- a statement of which nothing is told -/
theorem ab_no {st : List Stmt} (hK : X.K = K := by rfl) : AB X K E κ env st (.no : R β ω) := ⟨hK, fun B F H σ Dn G sr gs hG => (gs.no hG).elim⟩
end
end DM

/-! Own errors: super().__init__(p), self.f = p. -/
namespace DX
open PySem PySem.W PySem.Calls PyProof.Rows PySem.HandSPX
section
variable {prog : Program} {w : World} {A : Around} {E : Value → Shared → Prop} {h : Heap} {g : Array GenState} {d : Drawn} {t : Nat} {os : OsState} {K : Frag} {mg : Str → Option Value} {C D x f cc cda L : Addr}
/-- super() in the __init__ of the class at D, for the object at x of the class at C -/
theorem superAt {body : List Stmt} {qn : Str} {sc : Scope} {p0 p1 : Pos} {whole : Sem Value} {fd : FuncData} {ar : Arg} {vs : Array Value} {file : Str} {tf : Tok} {of oc ox oD : Obj} {cdD : ClassData} {m mb : Str → Option Value} {Q : Value → Shared → Prop}
    (hn : h.Ns L m) (hv : m ar.arg = some (.ref x)) (hf : h.get? f = some of) (hfd : of.data = .func fd) (hp : (fd.params.posonlyargs ++ fd.params.args).head? = some ar) (hcc : h.get? cda = some oc) (hoc : oc.data = .fields vs) (hvs : vs[2]? = some (.str file tf))
    (hfile : ((prog.main.file : Str) == file) = true) (htop : (prog.main.scope.names.lookup ("super" : Str)).isSome = false) (hG : h.Ns mainGlobals mg) (hms : mg "super" = none) (hB : h.Ns builtinsNs mb) (hbs : mb "super" = some (.type "super"))
    (hcell : ∃ o, h.get? cc = some o ∧ o.data = .cell (some (.ref D))) (hD : h.get? D = some oD) (hDd : oD.data = .cls cdD) (hx : h.get? x = some ox) (hxc : ox.cls = .ref C) (hnc : ∀ c, ox.data ≠ .cls c) (hsub : Looks (model prog w) h (isSubtype (.ref C) (.ref D)) true)
    (hk : sc.kind = .function) (k1 : sc.names.lookup ("super" : Str) = some .globalImplicit) (k2 : sc.names.lookup ("__class__" : Str) = some .free) (k3 : sc.names.lookup ar.arg = some .local)
    (hq : ∀ h', h'.get? h.objs.size = some (ks_superObj D x C) → (∀ b o, h.get? b = some o → h'.get? b = some o) → Q (.ref h.objs.size) ⟨h', g, d, t, os⟩) :
    _root_.PySem.wpAt (model prog w) A (.func body (ksEnv qn sc L f (.ref cda) cc)) (attributeBase (.Call (.Name "super" p0) [] [] p1) "__init__" (ksEnv qn sc L f (.ref cda) cc) whole) Q E ⟨h, g, d, t, os⟩ := by
  refine ks_wpAt_super_base (env := ksEnv qn sc L f (.ref cda) cc) k1 k2 (by decide) rfl hf hfd hp rfl hcc hoc hvs hfile htop ?_
  refine ks_loadName_global hk k1 (loadGlobal_builtin (env := ksEnv qn sc L f (.ref cda) cc) hG hms hB hbs ⟨rfl, ?_⟩)
  refine wpAny_loadName_free hk k2 rfl ⟨_, hcell.choose_spec.1, hcell.choose_spec.2⟩ ?_
  refine wpAny_loadName_local hk k3 hn hv ?_
  refine ks_wpAny_isType_cls hD hDd ⟨rfl, ?_⟩
  exact ks_wpAny_call_super hD hDd hx hxc hnc hsub fun h' e k => hq h' e k

/-- the wrapper called: the base's __init__ lays the arguments anew -/
theorem mwCall {B i newId : String} {bmB : List Value} {u t0 : Addr} {nm q : Str} {N : Addr} {bs bm : List Value} {hdct : Bool} {sn : List Str} {sub : List Value} {ab : Bool} {col : Option Bool} {dd : Option Addr} {k0 k1 k2 k3 k5 : Option Value} {rest : List Value} {Q : Value → Shared → Prop} (FB : ExcBaseFacts B newId i bmB)
    (hC : h.get? C = some (excClassObj nm q C N bs bm hdct sn sub ab col dd k0 k1 k2 k3 k5 newId)) (he : h.get? x = some (excO C t0)) (hu : h.get? u = some (kxs_mw i x)) (hz : rest.length ≤ sizeLine)
    (hq : ∀ h' t1, (∀ b o, b ≠ x → h.get? b = some o → h'.get? b = some o) → h'.get? x = some (excO C t1) → Q .none ⟨h', g, d, t, os⟩) :
    wpAny (model prog w) A (call (.ref u) rest) Q E ⟨h, g, d, t, os⟩ := by
  refine wpAny_call (codeAny_of_tree ?_)
  show wpAny _ A.in1 (callAny (.ref u) ⟨rest, []⟩) _ _ _
  simp only [callAny]
  refine wpAny_bind (wpAny_load hu ?_)
  simp only [kxs_mw, show (Value.type "method-wrapper" == Value.type "method" || Value.type "method-wrapper" == Value.type "builtin_function_or_method" || Value.type "method-wrapper" == Value.type "method-wrapper") = true by decide, if_true]
  refine KFB.if_so (by decide) ?_
  refine wpAny_bind (check_bound_init FB.toExcCallFacts hC he rfl (wpAny_bind (wpAny_pure (wpAny_pure ?_))))
  refine ⟨plainId_quiet FB.init.plain _, codeAny_builtin FB.initEntry ?_⟩
  exact exc_init_tree (cls := .ref C) (t0 := t0) (dv := none) (c2 := .none) (c3 := .none) (b4 := .bool false) he hz fun h' k e1 _ => hq h' _ k e1


theorem ne_fresh {hh : Heap} {u : Addr} {o : Obj} (h1 : hh.get? u = some o) : u ≠ hh.objs.size := Nat.ne_of_lt (Heap.lt_size h1)
/-- super().__init__(..) -/
theorem superInit {B i newId : String} {bmB : List Value} {t0 : Addr} {nm q : Str} {N : Addr} {bs bm : List Value} {sn : List Str} {sub : List Value} {ab : Bool} {col : Option Bool} {dd : Option Addr} {k0 k1 k2 k3 k5 : Option Value} {body : List Stmt} {qn : Str} {e : Expr} {es : List Expr} {sc : Scope} {q1 q2 q3 q5 : Pos} {fd : FuncData} {ar : Arg} {vs : Array Value} {file : Str} {tf : Tok} {of oc oD : Obj} {cdD cdC : ClassData} {m mb : Str → Option Value} {us : List Value} {Q : Value → Shared → Prop}
    (FB : ExcBaseFacts B newId i bmB) (KF : KxsFacts B i) (X : K.In h) (hC : K.lookup C = some (excClassObj nm q C N bs bm true sn sub ab col dd k0 k1 k2 k3 k5 newId)) (he : h.get? x = some (excO C t0))
    (hn : h.Ns L m) (hv : m ar.arg = some (.ref x)) (hf : h.get? f = some of) (hfd : of.data = .func fd) (hp : (fd.params.posonlyargs ++ fd.params.args).head? = some ar) (hcc : h.get? cda = some oc) (hoc : oc.data = .fields vs) (hvs : vs[2]? = some (.str file tf))
    (hfile : ((prog.main.file : Str) == file) = true) (htop : (prog.main.scope.names.lookup ("super" : Str)).isSome = false) (hG : h.Ns mainGlobals mg) (hms : mg "super" = none) (hB : h.Ns builtinsNs mb) (hbs : mb "super" = some (.type "super"))
    (hcell : ∃ o, h.get? cc = some o ∧ o.data = .cell (some (.ref D))) (hD : h.get? D = some oD) (hDd : oD.data = .cls cdD) (hsub : subIn K (.ref C) (.ref D) = some true) (hsB : subIn K (.ref C) (.type B) = some true) (hop : nsIn K cStatics "thirdparty.any" = some none) (hcl : clsIn K C = some cdC) (hsu : ks_superIn K C D "__init__" = some (some (.builtin i)))
    {pl : Sem Bool} (hev : eval (.Call (.Attribute (.Call (.Name "super" q1) [] [] q2) "__init__" q3) (e :: es) [] q5) (ksEnv qn sc L f (.ref cda) cc) = (do
      let ov ← attributeBase (.Call (.Name "super" q1) [] [] q2) "__init__" (ksEnv qn sc L f (.ref cda) cc) (eval (.Call (.Name "super" q1) [] [] q2) (ksEnv qn sc L f (.ref cda) cc))
      standAt q3.atName
      let (fn, first) ← holding [ov] (getMethod ov "__init__" pl)
      callWith q5 fn first (backTo q5 (starEach (e :: es) (ksEnv qn sc L f (.ref cda) cc))) []))
    (hargs : ∀ (h' : Heap) (t' : Nat) (Q' : List Value → Shared → Prop), (∀ b o, h.get? b = some o → h'.get? b = some o) → Q' us ⟨h', g, d, t', os⟩ → wpAny (model prog w) A (spliced (backTo q5 (starEach (e :: es) (ksEnv qn sc L f (.ref cda) cc)))) Q' E ⟨h', g, d, t', os⟩)
    (hst : starEach (e :: es) (ksEnv qn sc L f (.ref cda) cc) = (false, eval e (ksEnv qn sc L f (.ref cda) cc)) :: starEach es (ksEnv qn sc L f (.ref cda) cc)) (hpl : (backTo q5 (starEach es (ksEnv qn sc L f (.ref cda) cc))).any (·.1) = false)
    (hk : sc.kind = .function) (n1 : sc.names.lookup ("super" : Str) = some .globalImplicit) (n2 : sc.names.lookup ("__class__" : Str) = some .free) (n3 : sc.names.lookup ar.arg = some .local) (hz : us.length ≤ sizeLine)
    (hq : ∀ h' t' t1, (∀ b o, b ≠ x → h.get? b = some o → h'.get? b = some o) → h'.get? x = some (excO C t1) → Q .none ⟨h', g, d, t', os⟩) :
    _root_.PySem.wpAt (model prog w) A (.func body (ksEnv qn sc L f (.ref cda) cc)) (eval (.Call (.Attribute (.Call (.Name "super" q1) [] [] q2) "__init__" q3) (e :: es) [] q5) (ksEnv qn sc L f (.ref cda) cc)) Q E ⟨h, g, d, t, os⟩ := by
  refine ks_wpAt_MethodCall (superAt hn hv hf hfd hp hcc hoc hvs hfile htop hG hms hB hbs hcell hD hDd he rfl (fun c z => by cases z) (looks_subIn X hsub) hk n1 n2 n3 fun h2 e2 k2 => ?_) hev
  have X2 : K.In h2 := X.keeps k2
  have he2 := k2 _ _ he
  have I2 : InstAt h2 x (excO C t0) C none := ⟨he2, rfl, rfl, trivial⟩
  have hm2 : alongIn K "__init__" ((cdC.mro.dropWhile (· != .ref D)).drop 1) = some (some (.builtin i)) := by unfold ks_superIn at hsu; rw [hcl] at hsu; exact hsu
  refine kxs_getMethod KF e2 (looks_opaque X2 hop) (l₀ := cdC.mro) (fun A Q E s k z => wpAny_bind ((looks_clsIn X2 hcl) A _ E s k (wpAny_pure z))) rfl X2 hm2 (I2.type.andThen (looks_subIn X2 hsB)) (ks_ne X2 I2 hcl) (by decide) ?_
  have k3 : ∀ b o, h2.get? b = some o → (h2.push (kxs_mw i x)).get? b = some o := fun b o z => Heap.get?_push_of_some _ z
  have hu : (h2.push (kxs_mw i x)).get? h2.objs.size = some (kxs_mw i x) := Heap.get?_push_at rfl rfl
  have hx3 := k3 _ _ he2
  have hne : h2.objs.size ≠ x := Nat.ne_of_gt (Heap.lt_size he2)
  show wpAny (model prog w) A (callWith q5 (.ref h2.objs.size) [] (backTo q5 (starEach (e :: es) (ksEnv qn sc L f (.ref cda) cc))) []) Q E _
  have hargs2 := hargs (h2.push (kxs_mw i x)) (t + 1) (fun vs s₁ => KxsAt i h2.objs.size x s₁.heap ∧ wpAny (model prog w) A (call (.ref h2.objs.size) vs) Q E s₁) (fun b o z => k3 b o (k2 b o z)) ⟨hu, mwCall FB ((X2.keeps k3) _ _ hC) hx3 hu hz fun h' t1 k4 hx4 => hq h' _ t1 (fun b o hb z => k4 b o hb (k3 b o (k2 b o z))) hx4⟩
  rw [hst] at hargs2 ⊢
  refine kxs_callWith (i := i) (x := x) (by show (false || (backTo q5 (starEach es (ksEnv qn sc L f (.ref cda) cc))).any (·.1)) = false; rw [hpl]; rfl) ?_
  exact evalArgs_plain hargs2
end

/-! ### an error's mro: own classes, then the base's -/
def refsB (bmB : List Value) : List Value → Bool
  | .ref _ :: r => refsB bmB r
  | l => l == bmB
theorem refsB_type {bmB : List Value} (X : String) : ∀ {l : List Value}, refsB bmB l = true → l.contains (.type X) = bmB.contains (.type X)
  | [], h => by rw [show ([] : List Value) = bmB from beq_iff_eq.mp h]
  | v :: r, h => by
    cases v with
    | ref a =>
      have h : refsB bmB r = true := h
      rw [List.contains_cons, refsB_type X h]
      rfl
    | _ => rw [← show _ = bmB from beq_iff_eq.mp h]
theorem refsB_pass {bmB : List Value} (self : Value) (what : Str) : ∀ {l : List Value}, refsB bmB l = true → refuseLoop self what l = refuseLoop self what bmB
  | [], h => by rw [show ([] : List Value) = bmB from beq_iff_eq.mp h]
  | v :: r, h => by
    cases v with
    | ref a =>
      have h : refsB bmB r = true := h
      rw [refuseLoop_ref, refsB_pass self what h]
    | _ => rw [← show _ = bmB from beq_iff_eq.mp h]
/-- what is known of a base -/
structure BaseF (B newId i : String) (bmB : List Value) : Prop where
  eb : ExcBaseFacts B newId i bmB
  kx : KxsFacts B i
  st : StoreFacts B bmB "object.__setattr__" "object"
  ob : bmB.contains (.type "object") = true
theorem base_VE : BaseF "ValueError" "ValueError.__new__" "ValueError.__init__" [.type "ValueError", .type "Exception", .type "BaseException", .type "object"] := ⟨PySem.F.excBase_ValueError, kxs_ValueError, PySem.F.store_ValueError, by decide +kernel⟩
theorem base_LE : BaseF "LookupError" "LookupError.__new__" "LookupError.__init__" [.type "LookupError", .type "Exception", .type "BaseException", .type "object"] := ⟨PySem.F.excBase_LookupError, kxs_LookupError, PySem.F.store_LookupError, by decide +kernel⟩
theorem base_OE : BaseF "OverflowError" "OverflowError.__new__" "OverflowError.__init__" [.type "OverflowError", .type "ArithmeticError", .type "Exception", .type "BaseException", .type "object"] := ⟨PySem.F.excBase_OverflowError, kxs_OverflowError, PySem.F.store_OverflowError, by decide +kernel⟩
theorem base_RE : BaseF "RuntimeError" "RuntimeError.__new__" "RuntimeError.__init__" [.type "RuntimeError", .type "Exception", .type "BaseException", .type "object"] := ⟨PySem.F.excBase_RuntimeError, kxs_RuntimeError, PySem.F.store_RuntimeError, by decide +kernel⟩
section
open Builtin Builtin.ObjectAttr
variable {prog : Program} {w : World} {A : Around} {E : Value → Shared → Prop} {R : Result → Shared → Prop} {hp : Heap} {g : Array GenState} {d : Drawn} {t : Nat} {os : OsState}
theorem osa_gen {B newId i : String} {bmB bm : List Value} (BF : BaseF B newId i bmB) {K : Frag} {name : Str} {tk : Tok} {v : Value} {x C : Addr} {ox : Obj} {od : Option Obj} {cd : ClassData}
    (X : K.In hp) (I : InstAt hp x ox C od) (hcd : clsIn K C = some cd) (hm : cd.mro = .ref C :: bm) (hr : refsB bmB bm = true) (ha : findIn K (.ref C) name = some none)
    (hq : wpAny (model prog w) A.in1 (storeInOwnDict (.ref x) (.ref C) (.str name tk) name v false)
      (fun fin s' => match fin with | .done f => R (.ok f) s' | .again c' => c'.quiet = true ∧ codeAny (model prog w) A c' R s') (fun e s' => R (.error e) s') ⟨hp, g, d, t, os⟩) :
    codeAny (model prog w) A (.call (.builtin "object.__setattr__") ⟨[.ref x, .str name tk, v], []⟩) R ⟨hp, g, d, t, os⟩ := by
  have SF := PySem.F.store_object
  have hc : (Value.ref C :: bm).contains (.type "object") = true := by rw [List.contains_cons, refsB_type _ hr, BF.ob, Bool.or_true]
  have hmo : mroIn K C (.type "object") = some true := by
    unfold mroIn
    rw [hcd, Option.bind_some, hm, if_neg (show ¬ (List.isEmpty (Value.ref C :: bm) = true) from Bool.false_ne_true), hc]
  have hpass : refuseLoop (.ref x) "__setattr__" cd.mro = pure () := by
    rw [hm, refuseLoop_ref, refsB_pass _ _ hr]
    exact BF.st.passes _
  refine codeAny_call_builtin SF.slot.plain SF.entry (@check_slot (model prog w) _ _ ⟨hp, g, d, t, os⟩ "object.__setattr__" "object" "__setattr__" (.ref x) [.str name tk, v] [] _ SF.kind SF.split (I.type.andThen (looks_mroIn X hmo)) (SF.args (.ref x) (.str name tk) v) ?_)
  rw [osa_eq, refuse_eq]
  refine wpAny_bind (wpAny_bind (I.type.at (wpAny_bind (((looks_clsIn X hcd).andThen .now : Looks (model prog w) hp (mroOf (.ref C)) cd.mro).at ?_))))
  rw [hpass]
  exact wpAny_pure (wpAny_bind (I.type.at (wpAny_bind ((looks_findIn X ha).at (wpAny_bind ((.now : Looks (model prog w) hp (storeTaker? none) none).at hq))))))
/-- the first field: the dict is laid -/
theorem osa_new {B newId i : String} {bmB bm : List Value} (BF : BaseF B newId i bmB) {K : Frag} {name : Str} {tk : Tok} {v : Value} {x C : Addr} {fv : Array Value} {cd : ClassData}
    (X : K.In hp) (hx : hp.get? x = some { cls := .ref C, data := .fields fv }) (hcd : clsIn K C = some cd) (hm : cd.mro = .ref C :: bm) (hr : refsB bmB bm = true) (hh : cd.hasDict = true) (ha : findIn K (.ref C) name = some none)
    (hq : ∀ h' tk' dx, (∀ b o, b ≠ x → hp.get? b = some o → h'.get? b = some o) → hp.objs.size ≤ dx → dx ≠ x → h'.get? x = some { cls := .ref C, dict := some dx, data := .fields fv } →
      h'.Ns1 dx (fun y => if y = name then some v else none) → R (.ok (.ret .none)) ⟨h', g, d, tk', os⟩) :
    codeAny (model prog w) A (.call (.builtin "object.__setattr__") ⟨[.ref x, .str name tk, v], []⟩) R ⟨hp, g, d, t, os⟩ := by
  have hxs : x ≠ hp.objs.size := Nat.ne_of_lt (Heap.lt_size hx)
  refine osa_gen BF X (ox := { cls := .ref C, data := .fields fv }) (od := none) ⟨hx, rfl, rfl, trivial⟩ hcd hm hr ha ?_
  have hcls : Looks (model prog w) hp (classData C) cd := looks_clsIn X hcd
  obtain ⟨nm, bs, mro, ns, qn, hd, sn, sb, ab, col, del⟩ := cd
  dsimp only at hh
  subst hh
  unfold storeInOwnDict ownDictForStores
  repeat (first | with_reducible refine store_in_new ?_ ?_ | with_reducible refine wpAny_loadPart_at hx ?_ | with_reducible refine hcls.at ?_ | wp_step)
  · exact ⟨_, #[], _, (Heap.get?_update_ne _ _ _ _ hxs.symm).trans (Heap.get?_push_at rfl rfl), rfl, fun e he => absurd he (by simp), fun _ => rfl⟩
  · intro h' tk' hn' hs
    refine hq h' tk' hp.objs.size (fun b o hb ho => ?_) (Nat.le_refl _) hxs.symm ?_ hn'
    · exact (hs.2 b (Nat.ne_of_lt (Heap.lt_size ho))).trans ((Heap.get?_update_ne _ _ _ _ hb).trans (Heap.get?_push_of_some _ ho))
    · exact (hs.2 x hxs).trans (Heap.get?_update_self _ (Heap.get?_push_of_some _ hx) rfl)
/-- a further field -/
theorem osa_old {B newId i : String} {bmB bm : List Value} (BF : BaseF B newId i bmB) {K : Frag} {name : Str} {tk : Tok} {v : Value} {x C dx : Addr} {fv : Array Value} {cd : ClassData} {m0 : Str → Option Value} {nl : List Str}
    (X : K.In hp) (hx : hp.get? x = some { cls := .ref C, dict := some dx, data := .fields fv }) (hns : hp.Ns1 dx m0) (hw : Within m0 nl) (hz : nl.length ≤ 1000) (hcd : clsIn K C = some cd) (hm : cd.mro = .ref C :: bm) (hr : refsB bmB bm = true) (hh : cd.hasDict = true)
    (ha : findIn K (.ref C) name = some none)
    (hq : ∀ h' tk', (∀ b o, b ≠ dx → hp.get? b = some o → h'.get? b = some o) → h'.Ns1 dx (fun y => if y = name then some v else m0 y) → R (.ok (.ret .none)) ⟨h', g, d, tk', os⟩) :
    codeAny (model prog w) A (.call (.builtin "object.__setattr__") ⟨[.ref x, .str name tk, v], []⟩) R ⟨hp, g, d, t, os⟩ := by
  obtain ⟨oD, esD, epD, hoD, hdD, _⟩ := hns.count hw
  refine osa_gen BF X (ox := { cls := .ref C, dict := some dx, data := .fields fv }) (od := some oD) ⟨hx, rfl, rfl, hoD⟩ hcd hm hr ha ?_
  have hcls : Looks (model prog w) hp (classData C) cd := looks_clsIn X hcd
  obtain ⟨nm, bs, mro, ns, qn, hd, sn, sb, ab, col, del⟩ := cd
  dsimp only at hh
  subst hh
  unfold storeInOwnDict ownDictForStores
  repeat (first | with_reducible refine PySem.ESX.store_in_old hns hw hz ?_ | with_reducible refine wpAny_loadPart_at hx ?_ | with_reducible refine hcls.at ?_ | wp_step)
  intro h' tk' hn' hs
  exact hq h' tk' (fun b o hb ho => (hs.2 b hb).trans ho) hn'
end

/-! ### the two texts of __init__ -/
def pars (ps : List (Str × Pos)) : Arguments := { posonlyargs := [], args := ps.map fun q => { arg := q.1, annotation := none, pos := q.2 }, vararg := none, kwonlyargs := [], kw_defaults := [], kwarg := none, defaults := [] }
def scp (ps : List Str) : Scope := { kind := .function, names := ((("self" : Str), NameKind.local) :: ps.map fun p => (p, NameKind.local)) ++ [(("__class__" : Str), NameKind.free), (("super" : Str), NameKind.globalImplicit)], isGenerator := false, isCoroutine := false, more := [] }
def bd1 (p : Str) (q1 q2 q3 q4 q5 q6 q7 q8 q9 q10 : Pos) : List Stmt :=
  [.Expr (.Call (.Attribute (.Call (.Name "super" q1) [] [] q2) "__init__" q3) [.Name p q4] [] q5) q6, .Assign [.Attribute (.Name "self" q7) p q8] (.Name p q9) q10]
def bd2 (p r : Str) (q1 q2 q3 q4 q4' q5 q6 q7 q8 q9 q10 r7 r8 r9 r10 : Pos) : List Stmt :=
  [.Expr (.Call (.Attribute (.Call (.Name "super" q1) [] [] q2) "__init__" q3) [.Name p q4, .Name r q4'] [] q5) q6, .Assign [.Attribute (.Name "self" q7) p q8] (.Name p q9) q10, .Assign [.Attribute (.Name "self" r7) r r8] (.Name r r9) r10]
/-- how the call of the base's __init__ is read (a matter of lines) -/
def Hev (qn : Str) (sc : Scope) (f cda cc : Addr) (q1 q2 q3 q5 : Pos) (es : List Expr) : Prop := ∀ L : Addr, ∃ pl : Sem Bool, eval (.Call (.Attribute (.Call (.Name "super" q1) [] [] q2) "__init__" q3) es [] q5) (ksEnv qn sc L f (.ref cda) cc) = (do
  let ov ← attributeBase (.Call (.Name "super" q1) [] [] q2) "__init__" (ksEnv qn sc L f (.ref cda) cc) (eval (.Call (.Name "super" q1) [] [] q2) (ksEnv qn sc L f (.ref cda) cc))
  standAt q3.atName
  let (fn, first) ← holding [ov] (getMethod ov "__init__" pl)
  callWith q5 fn first (backTo q5 (starEach es (ksEnv qn sc L f (.ref cda) cc))) [])
/-- what the text says of an own error -/
structure ErrT (P : Program) (K : Frag) (mg : Str → Option Value) (x : Str) (ps : List Str) (C fI : Addr) : Prop where
  gC : mg x = some (.ref C)
  cls : ∃ B newId i bmB nm q N bs bm sn sub ab col dd k0 k1 k2 k3 k5, BaseF B newId i bmB ∧ K.lookup C = some (excClassObj nm q C N bs bm true sn sub ab col dd k0 k1 k2 k3 k5 newId) ∧ refsB bmB bm = true ∧ subIn K (.ref C) (.type B) = some true ∧ ks_superIn K C C "__init__" = some (some (.builtin i))
  sa : findIn K (.ref C) "__setattr__" = some (some (.builtin "object.__setattr__"))
  no : ∀ p ∈ ps, findIn K (.ref C) p = some none
  iC : findIn K (.ref C) "__init__" = some (some (.ref fI))
  tC : typeIn K (.ref fI) = some (.type "function")
  kC : keepIn K (.ref C) = true
  sub : subIn K (.ref C) (.ref C) = some true
  exC : subIn K (.ref C) (.type "BaseException") = some true
  tyC : typeIn K (.ref C) = some (.type "type")
  top : nsIn K cStatics "thirdparty.any" = some none
  hs : mg "super" = none
  tp : (P.main.scope.names.lookup ("super" : Str)).isSome = false
  n1 : (scp ps).names.lookup ("super" : Str) = some .globalImplicit
  n2 : (scp ps).names.lookup ("__class__" : Str) = some .free
  n3 : (scp ps).names.lookup ("self" : Str) = some .local
  np : ∀ p ∈ ps, (scp ps).names.lookup p = some .local ∧ (p == ("__debug__" : Str)) = false ∧ p ≠ "self"
  fn : ∃ (oc : Value) (od : Option Addr) (doc pm : Value) (an : Option Addr) (cda cc : Addr) (ct : Value) (osl : Array (Option Value)) (qn : Str) (pp : List Pos) (body : List Stmt) (ocd oce : Obj) (vs : Array Value) (file : Str) (tf : Tok),
    K.lookup fI = some ⟨oc, od, .func (ksFn "__init__" qn (pars ((("self" : Str) :: ps).zip pp)) body (scp ps) .none .none doc pm an (.ref cda) ct cc), osl⟩ ∧ L2.Binds K (ksFn "__init__" qn (pars ((("self" : Str) :: ps).zip pp)) body (scp ps) .none .none doc pm an (.ref cda) ct cc) (("self" : Str) :: ps) [] ∧ codeIn K (.ref cda) qn = true ∧ pp.length = ps.length + 1 ∧
    K.lookup cc = some oce ∧ oce.data = .cell (some (.ref C)) ∧ K.lookup cda = some ocd ∧ ocd.data = .fields vs ∧ vs[2]? = some (.str file tf) ∧ ((P.main.file : Str) == file) = true ∧
    ((∃ p, ps = [p] ∧ ∃ q1 q2 q3 q4 q5 q6 q7 q8 q9 q10, body = bd1 p q1 q2 q3 q4 q5 q6 q7 q8 q9 q10 ∧ Hev qn (scp ps) fI cda cc q1 q2 q3 q5 [.Name p q4]) ∨ ∃ p r, ps = [p, r] ∧ p ≠ r ∧ ∃ q1 q2 q3 q4 q4' q5 q6 q7 q8 q9 q10 r7 r8 r9 r10, body = bd2 p r q1 q2 q3 q4 q4' q5 q6 q7 q8 q9 q10 r7 r8 r9 r10 ∧ Hev qn (scp ps) fI cda cc q1 q2 q3 q5 [.Name p q4, .Name r q4'])

def fdm : List Str → List Value → Str → Option Value
  | p :: ps, v :: vs, y => if y = p then some v else fdm ps vs y
  | _, _, _ => none
/-- what __init__ leaves of a fresh error at x -/
structure ErrEnd (h h' : Heap) (x C dx : Addr) (ps : List Str) (us : List Value) : Prop where
  keep : ∀ b o, b ≠ x → h.get? b = some o → h'.get? b = some o
  obj : ∃ t1, h'.get? x = some { cls := .ref C, dict := some dx, data := .fields #[.ref t1, .none, .none, .none, .bool false, .none] }
  dbig : h.objs.size ≤ dx
  dne : dx ≠ x
  ns : ∃ m, h'.Ns1 dx m ∧ ∀ y, m y = fdm ps us y
section
variable {prog : Program} {w : World} {A : Around} {E : Value → Shared → Prop} {R : Result → Shared → Prop} {s : Shared} {K : Frag} {mg mb : Str → Option Value} {C fI : Addr} {x0 : Str} {ps : List Str}
theorem keep_in {h h' : Heap} {x : Addr} (X : K.In h) (hx : K.lookup x = none) (k : ∀ b o, b ≠ x → h.get? b = some o → h'.get? b = some o) : K.In h' := fun a o e =>
  k a o (fun z => by rw [z, hx] at e; cases e) (X a o e)
theorem ldK {M : Model} {s : Shared} {name : Str} {scope : Scope} {L a cc : Addr} {cd : Value} {m : Str → Option Value} {x : Str} {pos : Pos} {v : Value} {Q : Value → Shared → Prop} {A : Around} {E : Value → Shared → Prop} (hn : s.heap.Ns L m) (hv : m x = some v) (h : Q v s)
    (hk : scope.kind = .function) (hl : scope.names.lookup x = some .local) (hd : (x == ("__debug__" : Str)) = false) :
    wpAny M A (eval (.Name x pos) (ksEnv name scope L a cd cc)) Q E s := wpAny_Name (wpAny_loadName_local hk hl hn hv h) hd
theorem errInit (T : ErrT prog K mg x0 ps C fI) {x t0 : Addr} {us : List Value} (hul : us.length = ps.length) (X : K.In s.heap) (hlim : s.heap.NoLimit) (hG : s.heap.Ns mainGlobals mg) (hB : s.heap.Ns builtinsNs mb) (hbs : mb "super" = some (.type "super")) (hx : s.heap.get? x = some (excO C t0)) (hnx : K.lookup x = none) (hroom : A.depth < recursionLimit)
    (hq : ∀ h' tk dx, ErrEnd s.heap h' x C dx ps us → R (.ok (.ret .none)) { s with heap := h', toks := tk }) :
    codeAny (model prog w) A (.call (.ref fI) ⟨.ref x :: us, []⟩) R s := by
  obtain ⟨oc, od, doc, pm, an, cda, cc, ct, osl, qn, pp, body, ocd, oce, vs, file, tf, ho, hbd, hcd, hpp, hcc, hce, hcda, hcdd, hvs, hfile, hshape⟩ := T.fn
  obtain ⟨B, newId, i, bmB, nm, q, N, bs, bm, sn, sub, ab, col, dd, k0, k1, k2, k3, k5, BF, hC, hrb, hsB, hsu⟩ := T.cls
  have hcl : clsIn K C = some { name := nm, bases := bs, mro := .ref C :: bm, ns := N, qualname := q, hasDict := true, slotNames := sn, subclasses := sub, abstract := ab, collection := col, hasDel := false } := by unfold clsIn; rw [hC] <;> rfl
  have hlen : ((Value.ref x :: us) ++ []).length = ((("self" : Str)) :: ps).length := by rw [List.append_nil, List.length_cons, List.length_cons, hul]
  have hbind := hbd s (.ref x :: us) X hlen
  rw [List.append_nil] at hbind
  refine ks_codeAny_call_defAt (fd := ksFn "__init__" qn (pars ((("self" : Str) :: ps).zip pp)) body (scp ps) .none .none doc pm an (.ref cda) ct cc) (body := body) (binds := ((("self" : Str)) :: ps).zip (.ref x :: us)) hroom (X _ _ ho) rfl hlim (codeRec_of X hcd) rfl hbind ?_ ?_ (fun h1 hns hk1 => ?_)
  · intro y hy
    simp only [scp, List.mem_append, List.mem_cons, List.mem_map, List.not_mem_nil, or_false] at hy
    rcases hy with (rfl | ⟨_, _, rfl⟩) | rfl | rfl <;> exact fun z => nomatch z
  · intro y hy
    have : y.1 ∈ (("self" : Str)) :: ps := (List.of_mem_zip hy).1
    rcases List.mem_cons.mp this with z | z
    · rw [z]; exact T.n3
    · exact (T.np _ z).1
  have hxL : s.heap.objs.size ≠ x := Nat.ne_of_gt (Heap.lt_size hx)
  have X1 : K.In h1 := X.keeps hk1
  have nsk : ∀ {h2 h3 : Heap} {m : Str → Option Value}, h2.Ns s.heap.objs.size m → (∀ b o, b ≠ x → h2.get? b = some o → h3.get? b = some o) → h3.Ns s.heap.objs.size m := fun {h2 h3 m} hn k => by
    obtain ⟨o, es, ep, g1, g2, g3⟩ := hn
    exact ⟨o, es, ep, k _ _ hxL g1, g2, g3⟩
  have hk1' : ∀ {b : Addr} {m : Str → Option Value}, s.heap.Ns b m → h1.Ns b m := fun {b m} hn => by
    obtain ⟨o, es, ep, g1, g2, g3⟩ := hn
    exact ⟨o, es, ep, hk1 _ _ g1, g2, g3⟩
  have tb : bm.length = bm.length := rfl
  have big : s.heap.objs.size < h1.objs.size := hns.lt
  rcases hshape with ⟨p, rfl, q1, q2, q3, q4, q5, q6, q7, q8, q9, q10, rfl, hev⟩ | ⟨p, r, rfl, hpr, q1, q2, q3, q4, q4', q5, q6, q7, q8, q9, q10, r7, r8, r9, r10, rfl, hev⟩
  · obtain ⟨pl, hev⟩ := hev s.heap.objs.size
    obtain ⟨v, rfl⟩ : ∃ v, us = [v] := by
      match us, hul with
      | [v], _ => exact ⟨v, rfl⟩
    obtain ⟨np1, np2, np3⟩ := T.np p List.mem_cons_self
    have hm1 : (List.reverse ((("self" : Str) :: [p]).zip [Value.ref x, v])).lookup ("self" : Str) = some (.ref x) := by
      have : (("self" : Str) == p) = false := by simpa using Ne.symm np3
      simp [List.lookup, this]
    have hm2 : (List.reverse ((("self" : Str) :: [p]).zip [Value.ref x, v])).lookup p = some v := by simp [List.lookup]
    obtain ⟨pp0, pp1, rfl⟩ : ∃ a b, pp = [a, b] := by
      match pp, hpp with
      | [a, b], _ => exact ⟨a, b, rfl⟩
    refine ks_wpAt_execs_cons (ks_wpAt_Expr_any (superInit (D := C) (fd := ksFn "__init__" qn (pars ((("self" : Str) :: [p]).zip [pp0, pp1])) _ (scp [p]) .none .none doc pm an (.ref cda) ct cc) (ar := { arg := "self", annotation := none, pos := pp0 }) (us := [v]) (cc := cc) (cda := cda) (f := fI) (L := s.heap.objs.size) (qn := qn) (sc := scp [p]) BF.eb BF.kx X1 hC (hk1 _ _ hx) hns hm1 (X1 _ _ ho) rfl rfl (X1 _ _ hcda) hcdd hvs hfile T.tp (hk1' hG) T.hs (hk1' hB) hbs ⟨_, X1 _ _ hcc, hce⟩ (X1 _ _ hC) rfl T.sub hsB T.top hcl hsu hev (fun h' t' Q' k hQ => ?_) rfl rfl rfl T.n1 T.n2 T.n3 (by simp [sizeLine_eq]) fun h2 t2 t1 k2 hx2 => ?_) rfl rfl)
    · refine spliced_cons (ldK (m := fun x_1 => (List.reverse ((("self" : Str) :: [p]).zip [Value.ref x, v])).lookup x_1) (by obtain ⟨o, es, ep, g1, g2, g3⟩ := hns; exact ⟨o, es, ep, k _ _ g1, g2, g3⟩) hm2 ?_ rfl np1 np2)
      exact spliced_nil hQ
    · have hn2 := nsk hns k2
      have X2 := keep_in X1 hnx k2
      refine ks_wpAt_execs_cons (ks_wpAt_Assign_Attr (wpAt_of_wpAny (ldK hn2 hm2 (ldK hn2 hm1 ?_ rfl T.n3 (by decide)) rfl np1 np2)) rfl)
      refine set_plain X2 (ox := excO C t1) (od := none) ⟨hx2, rfl, rfl, trivial⟩ T.sa ?_
      refine osa_new BF X2 hx2 hcl rfl hrb rfl (T.no p List.mem_cons_self) (fun h3 tk3 dx k3 dn dne hx3 hn3 => ?_)
      refine wpAt_of_wpAny (wpAny_execs_nil (hq h3 tk3 dx ⟨fun b o hb e => k3 b o hb (k2 b o hb (hk1 b o e)), ⟨t1, hx3⟩, ?_, dne, _, hn3, fun y => rfl⟩))
      exact Nat.le_of_lt (Nat.lt_of_lt_of_le (show s.heap.objs.size < h2.objs.size from hn2.lt) dn)
  · obtain ⟨pl, hev⟩ := hev s.heap.objs.size
    obtain ⟨v, u, rfl⟩ : ∃ v u, us = [v, u] := by
      match us, hul with
      | [v, u], _ => exact ⟨v, u, rfl⟩
    obtain ⟨np1, np2, np3⟩ := T.np p List.mem_cons_self
    obtain ⟨nr1, nr2, nr3⟩ := T.np r (List.mem_cons_of_mem _ List.mem_cons_self)
    have b1 : (("self" : Str) == p) = false := by simpa using Ne.symm np3
    have b2 : (("self" : Str) == r) = false := by simpa using Ne.symm nr3
    have b3 : (p == r) = false := by simpa using hpr
    have hm1 : (List.reverse ((("self" : Str) :: [p, r]).zip [Value.ref x, v, u])).lookup ("self" : Str) = some (.ref x) := by simp [List.lookup, b1, b2]
    have hm2 : (List.reverse ((("self" : Str) :: [p, r]).zip [Value.ref x, v, u])).lookup p = some v := by simp [List.lookup, b3]
    have hm3 : (List.reverse ((("self" : Str) :: [p, r]).zip [Value.ref x, v, u])).lookup r = some u := by simp [List.lookup]
    obtain ⟨pp0, pp1, pp2, rfl⟩ : ∃ a b c, pp = [a, b, c] := by
      match pp, hpp with
      | [a, b, c], _ => exact ⟨a, b, c, rfl⟩
    refine ks_wpAt_execs_cons (ks_wpAt_Expr_any (superInit (D := C) (fd := ksFn "__init__" qn (pars ((("self" : Str) :: [p, r]).zip [pp0, pp1, pp2])) _ (scp [p, r]) .none .none doc pm an (.ref cda) ct cc) (ar := { arg := "self", annotation := none, pos := pp0 }) (us := [v, u]) (cc := cc) (cda := cda) (f := fI) (L := s.heap.objs.size) (qn := qn) (sc := scp [p, r]) BF.eb BF.kx X1 hC (hk1 _ _ hx) hns hm1 (X1 _ _ ho) rfl rfl (X1 _ _ hcda) hcdd hvs hfile T.tp (hk1' hG) T.hs (hk1' hB) hbs ⟨_, X1 _ _ hcc, hce⟩ (X1 _ _ hC) rfl T.sub hsB T.top hcl hsu hev (fun h' t' Q' k hQ => ?_) rfl rfl rfl T.n1 T.n2 T.n3 (by simp [sizeLine_eq]) fun h2 t2 t1 k2 hx2 => ?_) rfl rfl)
    · have hn' : h'.Ns s.heap.objs.size (fun x_1 => (List.reverse ((("self" : Str) :: [p, r]).zip [Value.ref x, v, u])).lookup x_1) := by obtain ⟨o, es, ep, g1, g2, g3⟩ := hns; exact ⟨o, es, ep, k _ _ g1, g2, g3⟩
      refine spliced_cons (ldK hn' hm2 ?_ rfl np1 np2)
      refine spliced_cons (ldK hn' hm3 ?_ rfl nr1 nr2)
      exact spliced_nil hQ
    · have hn2 := nsk hns k2
      have X2 := keep_in X1 hnx k2
      have sz2 : s.heap.objs.size < h2.objs.size := hn2.lt
      refine ks_wpAt_execs_cons (ks_wpAt_Assign_Attr (wpAt_of_wpAny (ldK hn2 hm2 (ldK hn2 hm1 ?_ rfl T.n3 (by decide)) rfl np1 np2)) rfl)
      refine set_plain X2 (ox := excO C t1) (od := none) ⟨hx2, rfl, rfl, trivial⟩ T.sa ?_
      refine osa_new BF X2 hx2 hcl rfl hrb rfl (T.no p List.mem_cons_self) (fun h3 tk3 dx k3 dn dne hx3 hn3 => ?_)
      have hn3' := nsk hn2 k3
      have X3 := keep_in X2 hnx k3
      have wi : Within (fun y => if y = p then some v else none) [p] := fun y hy => by
        by_cases q : y = p
        · rw [q]; exact List.mem_cons_self
        · exact absurd (if_neg q) hy
      obtain ⟨oD, hoD, _⟩ := hn3.count wi
      refine ks_wpAt_execs_cons (ks_wpAt_Assign_Attr (wpAt_of_wpAny (ldK hn3' hm3 (ldK hn3' hm1 ?_ rfl T.n3 (by decide)) rfl nr1 nr2)) rfl)
      obtain ⟨esD, hoD1, hoD2, _⟩ := ‹_›
      refine set_plain X3 (ox := { cls := .ref C, dict := some dx, data := .fields #[.ref t1, .none, .none, .none, .bool false, .none] }) (od := some oD) ⟨hx3, rfl, rfl, hoD1⟩ T.sa ?_
      refine osa_old BF X3 hx3 hn3 wi (by simp) hcl rfl hrb rfl (T.no r (List.mem_cons_of_mem _ List.mem_cons_self)) (fun h4 tk4 k4 hn4 => ?_)
      have dL : s.heap.objs.size < dx := Nat.lt_of_lt_of_le sz2 dn
      refine wpAt_of_wpAny (wpAny_execs_nil (hq h4 tk4 dx ⟨fun b o hb e => ?_, ⟨t1, k4 _ _ (Ne.symm dne) hx3⟩, Nat.le_of_lt dL, dne, _, hn4, fun y => ?_⟩))
      · have hbd : b ≠ dx := fun z => by rw [z] at e; exact absurd (Heap.lt_size e) (Nat.lt_asymm dL)
        exact k4 b o hbd (k3 b o hb (k2 b o hb (hk1 b o e)))
      · show (if y = r then some u else if y = p then some v else none) = fdm [p, r] [v, u] y
        show _ = if y = p then some v else if y = r then some u else none
        by_cases q : y = p
        · rw [if_neg (fun z => hpr (q.symm.trans z))]; rw [if_pos q, if_pos q]
        · rw [if_neg q, if_neg q]
end

/-- a made error -/
structure ErrMade (h h' : Heap) (e C d : Addr) (ps : List Str) (us : List Value) : Prop where
  keep : ∀ b o, h.get? b = some o → h'.get? b = some o
  new : h.objs.size ≤ e
  obj : ∃ oe vs, h'.get? e = some oe ∧ oe.cls = .ref C ∧ oe.dict = some d ∧ oe.data = .fields vs ∧ vs[1]? = some .none
  dbig : h.objs.size ≤ d
  dne : d ≠ e
  ns : ∃ m, h'.Ns1 d m ∧ ∀ y, m y = fdm ps us y
section
variable {prog : Program} {w : World} {A : Around} {R : Result → Shared → Prop} {s : Shared} {K : Frag} {mg mb : Str → Option Value} {C fI : Addr} {x0 : Str} {ps : List Str}
theorem errMade (T : ErrT prog K mg x0 ps C fI) {us : List Value} (hul : us.length = ps.length) (X : K.In s.heap) (hlim : s.heap.NoLimit) (hG : s.heap.Ns mainGlobals mg) (hB : s.heap.Ns builtinsNs mb) (hbs : mb "super" = some (.type "super")) (hroom : A.depth + 1 < recursionLimit) (hz : us.length ≤ sizeLine)
    (hq : ∀ h' tk e d, ErrMade s.heap h' e C d ps us → R (.ok (.ret (.ref e))) { s with heap := h', toks := tk }) : codeAny (model prog w) A (.call (.ref C) ⟨us, []⟩) R s := by
  obtain ⟨B, newId, i, bmB, nm, q, N, bs, bm, sn, sub, ab, col, dd, k0, k1, k2, k3, k5, BF, hC, hrb, hsB, hsu⟩ := T.cls
  obtain ⟨hp, g, dr, tk, os⟩ := s
  have k : ∀ b o, hp.get? b = some o → ((hp.push (kdv_tup us)).push (excO C hp.objs.size)).get? b = some o := fun b o e => Heap.get?_push_of_some _ (Heap.get?_push_of_some _ e)
  have nsk : ∀ {b : Addr} {m : Str → Option Value}, hp.Ns b m → ((hp.push (kdv_tup us)).push (excO C hp.objs.size)).Ns b m := fun {b m} hn => by
    obtain ⟨o, es, ep, g1, g2, g3⟩ := hn
    exact ⟨o, es, ep, k _ _ g1, g2, g3⟩
  have hget : ((hp.push (kdv_tup us)).push (excO C hp.objs.size)).get? (hp.objs.size + 1) = some (excO C hp.objs.size) := by
    have := Heap.get?_push_size (hp.push (kdv_tup us)) (o := excO C hp.objs.size) rfl
    rwa [Heap.size_push] at this
  have hnx : K.lookup (hp.objs.size + 1) = none := by
    cases e : K.lookup (hp.objs.size + 1) with
    | none => rfl
    | some o => exact absurd (Nat.lt_of_succ_lt (Heap.lt_size (X _ _ e : hp.get? (hp.objs.size + 1) = some o))) (Nat.lt_irrefl _)
  refine call_own BF.eb (fun Z => refsB_type Z hrb) (X _ _ hC) (looks_findIn X T.iC) (fun self => bind_fn X self T.tC) hz ?_
  refine errInit (s := ⟨(hp.push (kdv_tup us)).push (excO C hp.objs.size), g, dr, tk, os⟩) T hul (X.keeps k) (hlim.keeps k) (nsk hG) (nsk hB) hbs hget hnx hroom fun h' tk' dx ⟨k', ⟨t1, hx⟩, dn, dne, hns⟩ => ?_
  have old : ∀ b o, hp.get? b = some o → h'.get? b = some o := fun b o e => k' b o (Nat.ne_of_lt (Nat.lt_succ_of_lt (Heap.lt_size e))) (k b o e)
  have dn : ((hp.push (kdv_tup us)).push (excO C hp.objs.size)).objs.size ≤ dx := dn
  rw [Heap.size_push, Heap.size_push] at dn
  exact ⟨rfl, hq h' tk' (hp.objs.size + 1) dx ⟨old, Nat.le_succ _, ⟨_, _, hx, rfl, rfl, rfl, rfl⟩, show hp.objs.size ≤ dx by omega, dne, hns⟩⟩
end
end DX
namespace DM
open PySem PySem.Spec PyProof.Rows L2 DL
theorem relO_fd : ∀ {ps : List Str} {vs : List V} {us : List Value}, Vals vs us → vs.length = ps.length → ∀ f, RelO (List.lookup f (ps.zip vs)) (DX.fdm ps us f)
  | [], [], [], _, _, f => trivial
  | p :: ps, v :: vs, u :: us, .cons h r, hl, f => by
    show RelO (List.lookup f ((p, v) :: ps.zip vs)) (if f = p then some u else DX.fdm ps us f)
    by_cases q : f = p
    · rw [if_pos q, q, List.lookup_cons_self]
      exact h
    · rw [if_neg q]
      have : (f == p) = false := by simpa using q
      simp only [List.lookup, this]
      exact relO_fd r (by simpa using hl) f
  | [], _ :: _, _, _, hl, _ => by cases hl
  | _ :: _, [], _, _, hl, _ => by cases hl
/-- C(..), an own error is made -/
theorem pmk_err {X : Cx} {C fI : Addr} {x : Str} {ps : List Str} {es : List Expr} {t : TA} {p pos : Pos} {k : Nat} (T : DX.ErrT X.prog X.K X.mg x ps C fI) (hr : Room (k + 1) X.A) (ha : CallW X es t) (hg : Gl X x) (hdb : (x == ("__debug__" : Str)) = false) :
    PMk X (.Call (.Name x p) es [] pos) (fun σ H Q => t σ H fun vs H1 => vs.length = ps.length ∧ vs.length ≤ sizeLine ∧ ∀ d, H1 d = none → Q (.ref C) (some d) (upd H1 d (.xd (ps.zip vs)))) := by
  intro pins s σ H Q I h
  refine wpAny_Call_Name_kw (ld_glob I hg T.gC ?_ hdb)
  refine ha pos (.ref C) [] pins s σ H _ _ T.kC I h fun us vs H1 s1 I1 r ⟨hl, hz, q1⟩ => ?_
  show wpAny _ _ (call (.ref C) us) _ _ _
  obtain ⟨mb, hB, hmb⟩ := I1.mod.blt
  have hlim := I1.nolimit
  have nsb : ∀ {b : Addr} {m : Str → Option Value}, X.base.Ns b m → s1.heap.Ns b m := fun {b m} hn => by
    obtain ⟨o, es, ep, g1, g2, g3⟩ := hn
    exact ⟨o, es, ep, I1.bk _ _ g1, g2, g3⟩
  have hG := nsb I1.mod.glob
  have hBs := nsb hB
  have hbs : mb "super" = some (.type "super") := (hmb "super" (by decide)).trans (by rfl)
  obtain ⟨hp, g, dr, tk, os⟩ := s1
  refine wpAny_call (DX.errMade T (by rw [← r.length]; exact hl) I1.kIn hlim hG hBs hbs (by have := hr.dp; omega) (by rw [← r.length]; exact hz) fun h' tk' e d M => ?_)
  show MkP X pins σ Q (.ref e) ⟨h', g, dr, tk', os⟩
  obtain ⟨oe, fv, hoe, hc, hd, hdat, h1⟩ := M.obj
  obtain ⟨m, hns, hm⟩ := M.ns
  obtain ⟨G', g1, g2⟩ := restrict h' fun b => decide (b ≠ e)
  have gk : ∀ b, b ≠ e → G'.get? b = h'.get? b := fun b hb => g1 b (decide_eq_true hb)
  have ge : G'.get? e = none := g2 e (by simp)
  have old : ∀ b o, hp.get? b = some o → G'.get? b = some o := fun b o q => (gk b (Nat.ne_of_lt (Nat.lt_of_lt_of_le (Heap.lt_size q) M.new))).trans (M.keep b o q)
  have ob : ObjOk X.prog X.w (upd H1 d (.xd (ps.zip vs))) G' d (.xd (ps.zip vs)) := by
    refine ⟨m, hns.at (fun o q => (gk d M.dne).trans q), fun f => ?_⟩
    rw [hm f]
    exact relO_fd r hl f
  have J : Inv X pins σ (upd H1 d (.xd (ps.zip vs))) ⟨G', g, dr, tk', os⟩ := I1.laid (t' := tk') old M.dbig ob
  refine ⟨e, oe, fv, ⟨G', g, dr, tk', os⟩, _, .ref C, some d, rfl, J, fun b o q => ?_, ge, hoe, ⟨hc, hd⟩, hdat, h1, ?_, rfl, I1.bare, raises_own T.exC T.tyC, q1 d (I1.hok.fresh M.dbig)⟩
  · by_cases hb : b = e
    · have q' : G'.get? b = some o := q
      rw [hb, ge] at q'; cases q'
    · exact (gk b hb).symm.trans q
  · rw [upd_ne (Ne.symm M.dne)]
    exact I1.hok.fresh M.new
end DM

/-! Errors: raise, try, e.f. -/
namespace DM
open PySem PySem.Spec PyProof.Rows L2 DL

/-- an own error of the module -/
structure ErrC (P : Program) (K : PySem.W.Frag) (mg : Str → Option Value) (x : Str) (ps : List Str) : Prop where
  ex : ∃ C fI, DX.ErrT P K mg x ps C fI ∧ Cl K x C
/-- the fields of an error -/
def R.raise {β α : Type} (x : Str) (ps : List Str) (ds : List D) (xb : β) : R β α := if ds.length = ps.length ∧ DM.few ds.length = true then .ex ⟨x, ps.zip ds⟩ xb else .no
theorem zip_fst : ∀ {ps : List Str} {α : Type} {vs : List α}, vs.length = ps.length → (ps.zip vs).map (·.1) = ps
  | [], _, [], _ => rfl
  | p :: ps, _, v :: vs, h => by rw [List.zip_cons_cons, List.map_cons, zip_fst (by simpa using h)]
  | [], _, _ :: _, h => by cases h
  | _ :: _, _, [], h => by cases h
theorem zip_snd : ∀ {ps : List Str} {α : Type} {vs : List α}, vs.length = ps.length → (ps.zip vs).map (·.2) = vs
  | [], _, [], _ => rfl
  | p :: ps, _, v :: vs, h => by rw [List.zip_cons_cons, List.map_cons, zip_snd (by simpa using h)]
  | [], _, _ :: _, h => by cases h
  | _ :: _, _, [], h => by cases h
/-- how a block inside a try ends -/
inductive TOut (S Sb Sc Sr : Type) where
  | nx (s : S) | bk (s : Sb) | ct (s : Sc) | rt (d : D) (s : Sr)
section
variable {X : Cx} {K : PySem.W.Frag} {E : XE} {β ω : Type} {κ : Kt β ω} {env : Fm} {pos : Pos} {rest : List Stmt}
/-- raise C(..) -/
theorem ab_raise {x : Str} {ps : List Str} {es : List Expr} {p p2 : Pos} {k : Nat} {cs : (List D → R β ω) → R β ω} (xb : β) (T : ErrC X.prog K X.mg x ps) (ha : AC X K E (κ.fx xb) xb env es cs) (hx : Wk env (κ.fx xb)) (hc : X.calm = true) (tk : TakesE X E) (hr : Room (k + 1) X.A) (hg : Gl X x) (hdb : (x == ("__debug__" : Str)) = false := by decide) :
    AB X K E κ env (.Raise (some (.Call (.Name x p) es [] p2)) none pos :: rest) (cs fun ds => R.raise x ps ds xb) := by
  have hK := ha.1
  subst hK
  obtain ⟨C, fI, T1, T2⟩ := T.ex
  refine ⟨rfl, fun B F H σ Dn G sr gs hG => ⟨_, pss_cons (ps_raise hc tk (pmk_err T1 hr cw_C hg hdb)) ps_C, ?_⟩⟩
  refine ha.2 B F H σ _ _ G sr hx (gs.gx xb) (fun ds vs F1 H1 h1 e1 eh1 s1 d1 => ?_) hG
  have h1 : G (if ds.length = ps.length ∧ DM.few ds.length = true then .ex ⟨x, ps.zip ds⟩ xb else .no) := h1
  split at h1
  case isFalse => exact (gs.no h1).elim
  rename_i hl
  have hvl : vs.length = ps.length := by rw [d1.length]; exact hl.1
  refine ⟨hvl, by rw [d1.length]; exact of_decide_eq_true hl.2, fun d hd => ?_⟩
  have hFd : F1 d = none := s1.ex.none hd
  refine gs.ex _ xb h1 _ _ (upd F1 d (.xd (ps.zip vs))) _ σ (e1.trans (Ex.new hFd)) ((s1.grow hd).wk hx) ⟨C, d, ps.zip vs, rfl, T2, rfl, upd_same, ?_, ?_⟩
  · show _ = (ps.zip ds).map (·.1)
    rw [zip_fst hvl, zip_fst hl.1]
  · show DrA X.K _ ((ps.zip vs).map (·.2)) ((ps.zip ds).map (·.2))
    rw [zip_snd hvl, zip_snd hl.1]
    exact d1.mono (Ex.new hFd)

def Kt.tryK (κ : Kt β ω) {βB : Type} (fxB : βB → Fm) (S : Type) (f : S → Fm) : Kt βB (TOut S κ.Sb κ.Sc κ.Sr) := { fx := fxB, Sn := S, fn := f, kn := fun s => .ok (.nx s), Sb := κ.Sb, fb := κ.fb, kb := fun s => .ok (.bk s), Sc := κ.Sc, fc := κ.fc, kc := fun s => .ok (.ct s), Sr := κ.Sr, fr := κ.fr, kr := fun d s => .ok (.rt d s), nw := κ.nw }
def R.out {S Sb Sc Sr : Type} (k : S → R β ω) (kb : Sb → R β ω) (kc : Sc → R β ω) (kr : D → Sr → R β ω) : TOut S Sb Sc Sr → R β ω
  | .nx s => k s
  | .bk s => kb s
  | .ct s => kc s
  | .rt d s => kr d s
def R.fin {α : Type} (m : R Unit α) (o : α → R β ω) : R β ω := match m with
  | .ok a => o a
  | _ => .no
/-- an except clause: mt: does it name the class -/
def R.clause {α : Type} (mt : Str → Option Bool) (x : Exn) (yes : R Unit α) (o : α → R β ω) (no : R β ω) : R β ω := match mt x.C with
  | some true => R.fin yes o
  | some false => no
  | none => .no
/-- try: o: what comes behind -/
def R.try' {α βB : Type} (o : α → R β ω) (m : R βB α) (h : Exn → βB → R β ω) : R β ω := match m with
  | .ok a => o a
  | .ex x b => h x b
  | .no => .no
abbrev xget (gs : List (Str × D)) (f : Str) : Option D := gs.lookup f
/-- .. with one clause -/
def R.tryc {α : Type} (o : α → R β ω) (m : R Unit α) (mt : Str → Option Bool) (mS : Exn → R Unit α) (xb : β) : R β ω := R.try' o m fun y _ => R.clause mt y (mS y) o (.ex y xb)
/-- what a class of errors is named by -/
structure MtC (X : Cx) (K : PySem.W.Frag) (x : Str) (mt : Str → Option Bool) : Prop where
  ex : ∃ c, Names X x c ∧ ∀ C b, mt C = some b → ∀ c', Cl K C c' → PySem.W.exmOne K (.ref c') c = some b
abbrev E0s : XE := fun _ _ _ _ => False
theorem te0 {X : Cx} : TakesE X E0s := takes0
theorem tkS {X : Cx} : ∀ σ, PassesAt (L2.CX X.prog X.w) X σ (E0s σ) := fun σ => passAt takes0 σ
/-- .. as a fact of the module -/
structure MtK (K : PySem.W.Frag) (mg : Str → Option Value) (x : Str) (mt : Str → Option Bool) : Prop where
  ex : ∃ c, (mg x = some c ∨ (mg x = none ∧ bootBuiltins x = some c ∧ x ≠ "__name__")) ∧ ∀ C b, mt C = some b → ∀ c', Cl K C c' → PySem.W.exmOne K (.ref c') c = some b
theorem MtK.at {X : Cx} {K : PySem.W.Frag} {x : Str} {mt : Str → Option Bool} (h : MtK K X.mg x mt) (hg : Gl X x) (hd : (x == ("__debug__" : Str)) = false := by decide) : MtC X K x mt := by
  obtain ⟨c, h1, h2⟩ := h.ex
  exact ⟨c, ⟨hg, hd, h1⟩, h2⟩
theorem fput_un {env : Fm} {i : Nat} (h : fput env i .un = env) {B : Bs} {F H : Hp} {σ : L2.St} (s : SR K B F H σ env) : SR K B F H (σ.set i none) env := by
  have := s.setU i none
  rwa [h] at this
theorem SR.setX {B : Bs} {F H : Hp} {σ : L2.St} (s : SR K B F H σ env) {i : Nat} {a d : Addr} {gs : List (Str × D)} {fs : List (Str × V)} (h1 : F d = some (.xd fs)) (h2 : fs.map (·.1) = gs.map (·.1)) (h3 : DrA K F (fs.map (·.2)) (gs.map (·.2))) : SR K B F H (σ.set i (some (.ref a))) (fput env i (.xc a d gs)) := by
  have s0 := s.setU i (some (.ref a))
  have hl := s.len
  by_cases hi : i < env.length
  · refine ⟨s0.ex, s0.ex0, s0.keep, s0.newF, by rw [List.length_set, fput_length]; exact hl, fun j e hj => ?_, fun j a' d' gs' hj => ?_, ?_⟩
    · by_cases q : i = j
      · subst q; rw [fget_self hi] at hj; cases hj
      · refine s0.fz j e ?_
        rw [fget_ne _ _ q] at hj ⊢
        exact hj
    · by_cases q : i = j
      · subst q
        rw [fget_self hi] at hj
        cases hj
        exact ⟨by rw [List.getElem?_set_self (by rw [hl]; exact hi)], fs, h1, h2, h3⟩
      · refine s0.xc j a' d' gs' ?_
        rw [fget_ne _ _ q] at hj ⊢
        exact hj
    · obtain ⟨ft, hf⟩ := s0.own
      have tr : ∀ {j : Nat} {t : Option Nat} {e : D} {f' : List Str}, fget (fput env i (.xc a d gs)) j = .ow t e f' → fget (fput env i .un) j = .ow t e f' := fun {j t e f'} hj => by
        by_cases q : i = j
        · subst q; rw [fget_self hi] at hj; cases hj
        · rw [fget_ne _ _ q] at hj ⊢; exact hj
      exact ⟨ft, fun j t e f' hj => hf.ow j t e f' (tr hj), fun j k t u e g f1 f2 hjk e1 e2 => hf.dis j k t u e g f1 f2 hjk (tr e1) (tr e2)⟩
  · have hsame : ∀ (y : Sl), fput env i y = env := by
      intro y
      have : ∀ (l : Fm) (n : Nat), ¬ n < l.length → fput l n y = l := by
        intro l
        induction l with
        | nil => intro n _; rfl
        | cons z l ih => intro n hn; cases n with
          | zero => exact absurd (Nat.succ_pos _) hn
          | succ n => show z :: fput l n y = z :: l; rw [ih n (by simpa using hn)]
      exact this env i hi
    rw [hsame, List.set_eq_of_length_le (by rw [hl]; omega)]
    exact s
/-- try: .. except x as n: .. -/
theorem ab_try {body suite : List Stmt} {b₀ : Stmt} {x n : Str} {np pos' : Pos} (i : Nat) (uF : Fm) {S βB : Type} (f : S → Fm) (fxB : βB → Fm) (xo : βB → β) {mt : Str → Option Bool} {mB : R βB (TOut S κ.Sb κ.Sc κ.Sr)} {mS : βB → List (Str × D) → R Unit (TOut S κ.Sb κ.Sc κ.Sr)} {k : S → R β ω}
    (hm : MtC X K x mt) (tk : TakesE X E) (hs : X.stack = X.env :: X.outer) (hf : X.env.frame = some X.env.locals) (hN : X.N.Nodup) (hi : X.N[i]? = some n) (hln : X.env.kindOf n = some .local)
    (hb : ∀ (E' : XE) (pn : List (Addr × Obj)) (xe : Value → Shared → Prop), TakesE (X.tr pn xe) E' → PassesOwn (model X.prog X.w) X.A X.env xe → AB (X.tr pn xe) K E' (κ.tryK fxB S f) env body mB)
    (hS : ∀ (a d : Addr) (oe : Obj) (C : Str) (c : Addr) (pn : List (Addr × Obj)) (b : βB) (gs : List (Str × D)), mt C = some true → Cl K C c → Zc (.ref c) (some d) oe → (∃ vs, oe.data = .fields vs) → AB (X.suite a ((a, oe) :: pn)) K E0s (κ.tryK (fun _ : Unit => uF) S f) (fput (fxB b) i (.xc a d gs)) (b₀ :: suite) (mS b gs))
    (hw : ∀ b, Wk (fxB b) (κ.fx (xo b))) (hfi : ∀ s, fput (f s) i .un = f s) (hbi : ∀ s, fput (κ.fb s) i .un = κ.fb s) (hci : ∀ s, fput (κ.fc s) i .un = κ.fc s) (hr : ∀ s, AB X K E κ (f s) rest (k s)) (hK : X.K = K := by rfl) :
    AB X K E κ env (.Try body [.ExceptHandler (some (.Name x np)) (some n) (b₀ :: suite) pos'] [] [] pos :: rest) (R.try' (R.out k κ.kb κ.kc κ.kr) mB fun y b => R.clause mt y (mS b y.fs) (R.out k κ.kb κ.kc κ.kr) (.ex y (xo b))) := by
  subst hK
  obtain ⟨c, hc1, hc2⟩ := hm.ex
  refine ⟨rfl, fun B F H σ Dn G sr gs hG => ⟨_, pss_cons (ps_try_as (tb := fun W => fun D σ H => ∀ pn xe, Takes (X.tr pn xe) W → PassesOwn (model X.prog X.w) X.A X.env xe → tsC (X.tr pn xe) body D σ H)
    (ts := fun a cls d => fun D σ H => ∀ oe pn, Zc cls d oe → (∃ vs, oe.data = .fields vs) → tsC (X.suite a ((a, oe) :: pn)) (b₀ :: suite) D σ H) hs hf hN hi hln hc1 tk
    (fun W pn xe t1 t2 => ⟨fun pins s σ H D I h => ps_C.run pins s σ H D I (h pn xe t1 t2)⟩) (fun a oe cls d pn hz hv => ⟨fun pins s σ H D I h => ps_C.run pins s σ H D I (h oe pn hz hv)⟩)) ps_C, fun pn xe t1 t2 => ?_⟩⟩
  have gs1 := gs.join (S := S) (f := f) (k := k) hr
  refine (hb _ pn xe t1 t2).2 B F H σ { Dn with nx := tsC X rest Dn } (fun m => G (R.try' (R.out k κ.kb κ.kc κ.kr) m fun y b => R.clause mt y (mS b y.fs) (R.out k κ.kb κ.kc κ.kr) (.ex y (xo b)))) sr ⟨gs.no, fun y b hy cls dd F' H' σ' e1 s1 x1 => ?_, fun s h F' H' σ' e1 s1 => gs1.nx s h F' H' σ' e1 s1, fun s h F' H' σ' e1 s1 => gs.bk s h F' H' σ' e1 s1, fun s h F' H' σ' e1 s1 => gs.ct s h F' H' σ' e1 s1, fun d s h v F' H' σ' e1 s1 r1 => gs.rt d s h v F' H' σ' e1 s1 r1⟩ hG
  obtain ⟨c', d, fs, rfl, hcl, rfl, h1, h2, h3⟩ := x1
  have hy : G (R.clause mt y (mS b y.fs) (R.out k κ.kb κ.kc κ.kr) (.ex y (xo b))) := hy
  unfold R.clause at hy
  split at hy
  · rename_i hmt
    refine ⟨true, hc2 _ _ hmt c' hcl, fun _ a ha oe pn' hz hv => ?_, fun z => by cases z⟩
    refine (hS a d oe y.C c' pn' b y.fs hmt hcl hz hv).2 B F' H' _ _ (fun m => G (R.fin m (R.out k κ.kb κ.kc κ.kr))) (s1.setX h1 h2 h3) ⟨gs.no, fun y b hy => (gs.no hy).elim, fun s h F2 H2 σ2 e2 s2 => gs1.nx s h F2 H2 _ (e1.trans e2) (fput_un (hfi s) s2), fun s h F2 H2 σ2 e2 s2 => gs.bk s h F2 H2 _ (e1.trans e2) (fput_un (hbi s) s2), fun s h F2 H2 σ2 e2 s2 => gs.ct s h F2 H2 _ (e1.trans e2) (fput_un (hci s) s2), fun d s h v F2 H2 σ2 e2 s2 r2 => gs.rt d s h v F2 H2 _ (e1.trans e2) s2 r2⟩ hy
  · rename_i hmt
    exact ⟨false, hc2 _ _ hmt c' hcl, fun z => absurd z Bool.false_ne_true, fun _ => gs.ex y _ hy _ _ F' H' σ' e1 (s1.wk (hw b)) ⟨c', d, fs, rfl, hcl, rfl, h1, h2, h3⟩⟩
  · exact (gs.no hy).elim
end
section
variable {X : Cx} {K : PySem.W.Frag} {E : XE} {β γ : Type} {xF : Fm} {xb : β} {env : Fm} {pos p : Pos}
/-- the fields of the classes of errors -/
structure XfD (K : PySem.W.Frag) (mt : Str → Option Bool) (f : Str) : Prop where
  ex : ∀ C, mt C = some true → ∀ c, Cl K C c → XfC K c ∧ PySem.W.findIn K (.ref c) f = some none
/-- e.f, e the error that the suite holds -/
theorem a_xf {mt : Str → Option Bool} {a d c : Addr} {oe : Obj} {pn : List (Addr × Obj)} {gs : List (Str × D)} {f n C : Str} (i : Nat) (T : XfD K mt f) (hmt : mt C = some true) (hC : Cl K C c) (hz : Zc (.ref c) (some d) oe) (hf : ∃ vs, oe.data = .fields vs) (hi : fget env i = .xc a d gs) (hK : X.K = K := by rfl) (hN : X.N[i]? = some n := by rfl)
    (hv : Vis X.env.scope n := by first | exact Or.inl rfl | exact Or.inr (Or.inl rfl) | exact Or.inr (Or.inr rfl)) (hd : (n == ("__debug__" : Str)) = false := by decide) (hcd : (n == ("__classdict__" : Str)) = false := by decide)
    (hb : attributeBase (.Name n p) f X.env (eval (.Name n p) X.env) = eval (.Name n p) X.env := by rfl) :
    AE (X.suite a ((a, oe) :: pn)) K E xF xb env (.Attribute (.Name n p) f pos) (fun (k : D → R β γ) => R.lft (gs.lookup f) k) := by
  subst hK
  obtain ⟨t1, t2⟩ := T.ex C hmt c hC
  refine ⟨rfl, fun B F H σ Q k G s w gx hk hG => ⟨_, pe_xf t1 t2 hz hf (pe_var (X := X.suite a ((a, oe) :: pn)) hN hv hd hcd) hb, ?_⟩⟩
  obtain ⟨h1, fs, h2, h3, h4⟩ := s.xc i a d gs hi
  cases hl : gs.lookup f with
  | none => simp only [hl] at hG; exact (gx.no hG).elim
  | some y =>
    simp only [hl] at hG
    obtain ⟨v, k1, k2⟩ := fld_get h3 h4 hl
    exact ⟨.ref a, h1, rfl, rfl, d, fs, v, rfl, s.ex _ _ h2, k1, hk y v F H hG (Ex.refl F) (Ex.refl H) s k2⟩
end
end DM

/-! More of the built-ins: index. -/
namespace DM
open PySem PySem.Spec PyProof.Rows L2 DL

theorem slot_tuple_index : Slot "tuple" "index" "tuple.index" :=
  .of (owner := "tuple") (n := "index") (by rw [typeLookup_type, builtinLookup_eq_fast]; kernel_rfl) (by decide +kernel) (by decide +kernel) (by decide +kernel) (by first | exact .inl (by decide +kernel) | exact .inr (by decide +kernel)) (by rw [isSubtype_type]; kernel_rfl)
theorem entry_tuple_index : entryFor table "tuple.index" = some Builtin.«tuple.index» := entryFor_of_tree (by kernel_rfl)
theorem args_tuple_index (a b : Value) : argsOk "tuple.index" ⟨[a, b], []⟩ := by unfold argsOk; kernel_rfl
theorem type_tuple_index : typeOf (.builtin "tuple.index") = pure (.type "method_descriptor") := by show builtinType _ = _; rw [builtinType_eq_fast]; kernel_rfl
theorem type_list_index : typeOf (.builtin "list.index") = pure (.type "method_descriptor") := by show builtinType _ = _; rw [builtinType_eq_fast]; kernel_rfl
section
variable {X : Cx}
def rIndexT (K : PySem.W.Frag) : V → List V → Hp → VK → Prop := fun x xs H Q => ∃ (a : Addr) (y : V) (d : PyData) (ds : List PyData) (j : Nat) (z : PyData), x = V.ref a ∧ xs = [y] ∧ Dp K H (V.ref a) (.tuple ds) ∧ Dp K H y d ∧
  SeqAt.shaped (.tuple ds) = true ∧ SeqAt.shaped d = true ∧ ds[j]? = some z ∧ PyData.eqv z d = true ∧ (∀ (m : Nat) (z' : PyData), m < j → ds[m]? = some z' → PyData.eqv z' d = false) ∧ Q (.int (j : Nat)) H
theorem mt_indexT (hu : X.A.units + 65 < cLine) : MtR X "tuple.index" (rIndexT X.K) := by
  intro pins s σ H x xs v us Q I rx rxs h
  obtain ⟨a, y, d, ds, j, z, rfl, rfl, hl, hy, sl, sd, hz, hzj, hno, q⟩ := h
  cases rx
  cases rxs with
  | cons ry rt =>
    rename_i uy ut
    cases rt
    obtain ⟨bs, r1⟩ := Dp.reads I d y uy hy ry
    have hxs : PyData.canLayAll0 ds = true := SeqAt.canLay_of_shaped sl
    have hroom : X.A.units + 1 + min (PyData.depthAll ds) d.depth < cLine := room_in_shaped sd hu
    cases hl with
    | tup hs ha =>
      obtain ⟨its, rv, ⟨⟨cls, dd, data, sls⟩, ho, hc, n, hdt⟩, hlen⟩ := I.tuple hs
      simp only at hc hdt
      subst hc hdt
      obtain ⟨as, h4⟩ := Dp.readsAll I ds _ its ha rv
      have hn : its.length = ds.length := SeqAt.ReadsAll.length ds its as h4
      have hmap : its.map (SeqAt.readOf s.heap) = ds := SeqAt.readsAll_map ds its as hxs h4
      obtain ⟨hjd, _⟩ := List.getElem?_eq_some_iff.mp hz
      have hj : j < its.toArray.size := by rw [List.size_toArray]; omega
      have eqj : ∀ (m : Nat) (hm : m < its.toArray.size) (z' : PyData), ds[m]? = some z' → SeqAt.readOf s.heap its.toArray[m] = z' := fun m hm z' hz' => by
        have hml : m < its.length := by rwa [List.size_toArray] at hm
        rw [← hmap, List.getElem?_map, List.getElem?_eq_getElem hml] at hz'
        exact Option.some.inj hz'
      have eqs := SeqAt.items_eqAt (vs := its.toArray) (show ReadsAll s.heap its.toArray.toList ds as from h4) r1 hxs (SeqAt.canLay_of_shaped sd) hroom
      refine call_meets slot_tuple_index ⟨_, ho, rfl⟩ entry_tuple_index (args_tuple_index _ _)
        (SeqAt.tuple_index2_found a its.toArray n dd sls uy (fun m => PyData.eqv (SeqAt.readOf s.heap (its.toArray.getD m .none)) d) j hj (Nat.zero_le _) hj ?_ ?_) ⟨ho, fun m hm => ?_, ?_⟩
      · show PyData.eqv (SeqAt.readOf s.heap (its.toArray.getD j .none)) d = true
        rw [Array.getD_eq_getD_getElem?, Array.getElem?_eq_getElem hj, Option.getD_some, eqj j hj z hz]
        exact hzj
      · intro m hm _ hmj
        have hmd : m < ds.length := by rw [List.size_toArray] at hm; omega
        show PyData.eqv (SeqAt.readOf s.heap (its.toArray.getD m .none)) d = false
        rw [Array.getD_eq_getD_getElem?, Array.getElem?_eq_getElem hm, Option.getD_some, eqj m hm _ (List.getElem?_eq_getElem hmd)]
        exact hno m _ hmj (List.getElem?_eq_getElem hmd)
      · have := eqs its.toArray[m] (Array.getElem_mem hm)
        simp only [Array.getD_eq_getD_getElem?, Array.getElem?_eq_getElem hm, Option.getD_some]
        exact this
      · exact ⟨.int (j : Nat), H, I.tok _, ⟨_, rfl⟩, q⟩
end

theorem tq_is {X : Cx} {pins : List (Addr × Obj)} {σ : L2.St} {H : Hp} {s : Shared} {a : Addr} {xs : List V} (I : Inv X pins σ H s) (h : TqT X.K H a xs) : s.TypeIs (.ref a) "tuple" ∧ ∀ b, Value.ref a = .ref b → ∃ ob, s.heap.get? b = some ob ∧ ob.dict = none := by
  rcases h with ⟨o, h, hd⟩ | ⟨o, its, n, h1, h2, h3, _⟩
  · obtain ⟨g, _, us, _, o', g', hc, _⟩ := (show ObjOk X.prog X.w H s.heap a (.frz o (.tup xs)) from I.hok a _ h)
    rw [g] at g'
    cases g'
    exact ⟨⟨o, g, hc⟩, fun b e => by cases e; exact ⟨o, g, hd⟩⟩
  · exact ⟨⟨o, I.kIn _ _ h1, h2⟩, fun b e => by cases e; exact ⟨o, I.kIn _ _ h1, h3⟩⟩
/-- a method of one of two built-in types -/
theorem pe_bm2 {X : Cx} {o e : Expr} {es : List Expr} {to : TE} {t : TA} {name : Str} {apos cpos : Pos} {T id id' : String} {r r' : V → List V → Hp → VK → Prop}
    (p1 : PlainAttrs T) (s1 : Slot T name id) (t1 : typeOf (.builtin id) = pure (.type "method_descriptor")) (m1 : MtR X id r) (p2 : PlainAttrs "tuple") (s2 : Slot "tuple" name id') (t2 : typeOf (.builtin id') = pure (.type "method_descriptor")) (m2 : MtR X id' r') (ho : PE X o to) (ha : PA X (e :: es) t)
    (hbase : attributeBase o name X.env (eval o X.env) = eval o X.env) (hfew : ((backTo cpos (starEach (e :: es) X.env)).all (fun x => !x.1) && (backToKw cpos (keywordEach [] X.env)).all (fun x => x.1.isSome)
      && decide ((e :: es).length + ([] : List Keyword).length + (if ([] : List Keyword).isEmpty then 0 else 1) < 30)) = true) (hline : (apos.endLine == cpos.line) = true) (hs : starEach (e :: es) X.env = (false, eval e X.env) :: starEach es X.env) (hplain : (backTo cpos (starEach es X.env)).any (·.1) = false) :
    PE X (.Call (.Attribute o name apos) (e :: es) [] cpos) (fun σ H Q => to σ H fun x H1 => (tyV X.K T x H1 ∧ t σ H1 fun xs H2 => r x xs H2 Q) ∨ ((∃ a xs, x = .ref a ∧ TqT X.K H1 a xs) ∧ t σ H1 fun xs H2 => r' x xs H2 Q)) := by
  refine ⟨fun pins s σ H Q I h => wpAny_Call_method_late hbase hfew hline rfl (thn (ho.run pins s σ H _ I h) fun v q ⟨x, H1, I1, r1, hor⟩ => ?_)⟩
  have go : ∀ {T0 id0 : String} {r0 : V → List V → Hp → VK → Prop}, MtR X id0 r0 → (t σ H1 fun xs H2 => r0 x xs H2 Q) → wpAny (model X.prog X.w) X.A (callWith cpos (.builtin id0) [v] (backTo cpos (starEach (e :: es) X.env)) []) (EP X pins σ Q) X.xe q := fun {T0 id0 r0} hm q1 => by
    have hA := ha.run cpos pins q σ H1 _ I1 q1
    rw [hs] at hA ⊢
    exact Calls.callWith_builtin (by show (false || (backTo cpos (starEach es X.env)).any (·.1)) = false; rw [hplain] <;> rfl) (Calls.evalArgs_plain (thn hA fun us s2 ⟨vs, H2, I2, r2, q2⟩ => hm pins s2 σ H2 x vs v us Q I2 r1 r2 q2))
  rcases hor with ⟨ty, q1⟩ | ⟨ty, q1⟩
  · obtain ⟨h1, h2⟩ := tyV_is I1 r1 ty
    exact ⟨T, id, p1, s1, t1, h1, h2, go (T0 := T) m1 q1⟩
  · obtain ⟨a, xs, rfl, ty⟩ := ty
    cases r1
    obtain ⟨h1, h2⟩ := tq_is I1 ty
    exact ⟨"tuple", id', p2, s2, t2, h1, h2, go (T0 := "tuple") m2 q1⟩
def idxD (y : D) (ds : List D) : Option Nat := (pds ds).findIdx? fun z => PyData.eqv z (pd y)
def idxG : D → List D → Option D := fun x as => match x, as with
  | .lst ds, [y] => if shp y && shp (.lst ds) then (idxD y ds).map fun j => .int (j : Nat) else none
  | .tup ds, [y] => if shp y && shp (.tup ds) then (idxD y ds).map fun j => .int (j : Nat) else none
  | _, _ => none
theorem idx_core {y : D} {ds : List D} {j : Nat} (h : idxD y ds = some j) : ∃ z, (pds ds)[j]? = some z ∧ PyData.eqv z (pd y) = true ∧ ∀ (m : Nat) (z' : PyData), m < j → (pds ds)[m]? = some z' → PyData.eqv z' (pd y) = false := by
  unfold idxD at h
  obtain ⟨hj, h1, h2⟩ := List.findIdx?_eq_some_iff_getElem.mp h
  refine ⟨_, List.getElem?_eq_getElem hj, h1, fun m z' hm hz => ?_⟩
  obtain ⟨hl, rfl⟩ := List.getElem?_eq_some_iff.mp hz
  simpa using h2 m hm
theorem dpAll_of {K : PySem.W.Frag} {F H : Hp} (e : Ex F H) {ys : List V} {ds : List D} (h : DrA K F ys ds) : PyData.canLayAll0 (pds ds) = true → DpAll K H ys (pds ds) := by
  induction h using DrA.rec (motive_1 := fun _ _ _ => True) with
  | nil => intro _; rw [pds]; exact .nil
  | cons h1 h2 _ ih =>
    intro hc
    rw [pds] at hc ⊢
    rw [PyData.canLayAll0, Bool.and_eq_true] at hc
    exact .cons ((h1.mono e).pd hc.1) (ih hc.2)
  | _ => trivial
section
variable {X : Cx} {K : PySem.W.Frag} {E : XE} {β γ : Type} {xF : Fm} {xb : β} {env : Fm} {e o : Expr} {p pos apos : Pos} {c1 : (D → R β γ) → R β γ} {cs : (List D → R β γ) → R β γ}
/-- x.index(y) -/
theorem a_idx (hu : X.A.units + 65 < cLine) (h : AL X K E xF xb env o c1) (ha : AAL X K E xF xb env [e] cs) (hbase : attributeBase o "index" X.env (eval o X.env) = eval o X.env := by rfl)
    (hfew : ((backTo pos (starEach [e] X.env)).all (fun x => !x.1) && (backToKw pos (keywordEach [] X.env)).all (fun x => x.1.isSome)
      && decide (([e] : List Expr).length + ([] : List Keyword).length + (if ([] : List Keyword).isEmpty then 0 else 1) < 30)) = true := by rfl) (hline : (apos.endLine == pos.line) = true := by rfl) (hs : starEach [e] X.env = (false, eval e X.env) :: starEach [] X.env := by rfl) :
    AE X K E xF xb env (.Call (.Attribute o "index" apos) [e] [] pos) (fun (k : D → R β γ) => c1 fun x => R.asQ x fun _ => cs fun as => R.lft (idxG x as) k) := by
  have hK := h.1
  subst hK
  refine ⟨rfl, fun B F H σ Q k G s w gx hk hG => ⟨_, pe_bm2 PySem.F.plainAttrs_list PySem.F.slot_list_index type_list_index (mt_indexD hu) PySem.F.plainAttrs_tuple slot_tuple_index type_tuple_index (mt_indexT hu) pe_C pa_C hbase hfew hline hs rfl, ?_⟩⟩
  refine h.2 B F H σ _ _ G s w gx (fun x v F1 H1 h1 e1 eh1 s1 d1 => ?_) hG
  cases x <;> first | exact (gx.no h1).elim | skip
  · rename_i ds
    obtain ⟨a, xs, rfl, g1, g2⟩ := d1.lst s1.ex
    refine Or.inl ⟨Or.inl ⟨rfl, xs, g1⟩, ha.2 B F1 H1 σ _ _ G s1 w (gx.mono e1) (fun as vs F2 H2 h2 e2 eh2 s2 d2 => ?_) h1⟩
    match as, vs, d2, h2 with
    | [y], [u], d2, h2 =>
      have h2 : G (R.lft (if shp y && shp (.lst ds) then (idxD y ds).map fun j => D.int (j : Nat) else none) k) := h2
      split at h2
      · rename_i hc
        rw [Bool.and_eq_true] at hc
        cases hi : idxD y ds with
        | none => rw [hi] at h2; exact (gx.no h2).elim
        | some j =>
          rw [hi] at h2
          obtain ⟨z, z1, z2, z3⟩ := idx_core hi
          have hsl : SeqAt.shaped (.list (pds ds)) = true := by have := hc.2; unfold shp at this; rwa [pd] at this
          exact ⟨a, u, pd y, pds ds, j, z, rfl, rfl, .lst (eh2.sl g1) (dpAll_of s2.ex (g2.mono e2) (SeqAt.canLay_of_shaped hsl)), (d2.1.all s2.ex).pd (SeqAt.canLay_of_shaped hc.1), hsl, hc.1, z1, z2, z3, hk _ _ F2 H2 h2 (e1.trans e2) (eh1.trans eh2) s2 (.int _)⟩
      · exact (gx.no h2).elim
    | [], _, _, h2 => exact (gx.no h2).elim
    | _ :: _ :: _, _, _, h2 => exact (gx.no h2).elim
    | [_], [], d2, _ => exact d2.elim
    | [_], _ :: _ :: _, d2, _ => exact d2.2.elim
  · rename_i ds
    obtain ⟨a, xs, rfl, g0, g2⟩ := d1.tupZ s1.ex
    have g1 := g0.sq
    refine Or.inr ⟨⟨a, xs, rfl, g0⟩, ha.2 B F1 H1 σ _ _ G s1 w (gx.mono e1) (fun as vs F2 H2 h2 e2 eh2 s2 d2 => ?_) h1⟩
    match as, vs, d2, h2 with
    | [y], [u], d2, h2 =>
      have h2 : G (R.lft (if shp y && shp (.tup ds) then (idxD y ds).map fun j => D.int (j : Nat) else none) k) := h2
      split at h2
      · rename_i hc
        rw [Bool.and_eq_true] at hc
        cases hi : idxD y ds with
        | none => rw [hi] at h2; exact (gx.no h2).elim
        | some j =>
          rw [hi] at h2
          obtain ⟨z, z1, z2, z3⟩ := idx_core hi
          have hsl : SeqAt.shaped (.tuple (pds ds)) = true := by have := hc.2; unfold shp at this; rwa [pd] at this
          exact ⟨a, u, pd y, pds ds, j, z, rfl, rfl, .tup (eh2.st g1) (dpAll_of s2.ex (g2.mono e2) (SeqAt.canLay_of_shaped hsl)), (d2.1.all s2.ex).pd (SeqAt.canLay_of_shaped hc.1), hsl, hc.1, z1, z2, z3, hk _ _ F2 H2 h2 (e1.trans e2) (eh1.trans eh2) s2 (.int _)⟩
      · exact (gx.no h2).elim
    | [], _, _, h2 => exact (gx.no h2).elim
    | _ :: _ :: _, _, _, h2 => exact (gx.no h2).elim
    | [_], [], d2, _ => exact d2.elim
    | [_], _ :: _ :: _, d2, _ => exact d2.2.elim
end

/-! ### sorted, whole numbers -/
def intsOf : List D → Option (List Int)
  | [] => some []
  | .int i :: ds => (intsOf ds).map fun ns => i :: ns
  | _ :: _ => none
theorem intsOf_eq : ∀ {ds : List D} {ns : List Int}, intsOf ds = some ns → ds = ns.map .int
  | [], ns, h => by cases h; rfl
  | d :: ds, ns, h => by
    cases d <;> try cases h
    rename_i i
    unfold intsOf at h
    cases q : intsOf ds with
    | none => rw [q] at h; cases h
    | some ms => rw [q] at h; cases h; rw [intsOf_eq q]; rfl
theorem drA_ints {K : PySem.W.Frag} {F : Hp} : ∀ {xs : List V} {ns : List Int}, DrA K F xs (ns.map .int) → xs = ns.map V.int
  | _, [], h => by cases h; rfl
  | _, n :: ns, h => by
    cases h with
    | cons h1 h2 =>
      cases h1
      rw [drA_ints h2]; rfl
theorem ints_drA {K : PySem.W.Frag} {F : Hp} : ∀ (ns : List Int), DrA K F (ns.map V.int) (ns.map .int)
  | [] => .nil
  | n :: ns => .cons (.int n) (ints_drA ns)
abbrev sortL (ns : List Int) : List Int := PySem.W.sortI ns
theorem sortL_is {ns ms : List Int} (hp : ms.Perm ns) (hs : ms.Pairwise (· ≤ ·)) : ms = sortL ns := PySem.W.eq_sortI hp hs
def sortG : List D → Option D
  | [.lst ds] => (intsOf ds).map fun ns => .lst ((sortL ns).map .int)
  | _ => none
theorem cn_sorted {K : PySem.W.Frag} : CallN K (rSortedI K) sortG := by
  intro B F H σ env xs as c Q s hx hg q
  unfold sortG at hg
  split at hg
  · rename_i ds
    cases hn : intsOf ds with
    | none => rw [hn] at hg; cases hg
    | some ns =>
      rw [hn] at hg
      cases hg
      obtain ⟨v, rfl, hv⟩ := hx.one
      obtain ⟨a, ys, rfl, h1, h2⟩ := hv.lst s.ex
      rw [intsOf_eq hn] at h2
      rw [drA_ints h2] at h1
      refine ⟨a, ns, rfl, h1, fun ms p hp hs hl => ?_⟩
      rw [sortL_is hp hs]
      exact q _ F _ (Ex.refl F) (Ex.new hl) (s.newN hl (Do.lst (ints_drA _))).1 (s.newN hl (Do.lst (ints_drA _))).2
  · cases hg
section
variable {X : Cx} {K : PySem.W.Frag} {E : XE} {β γ : Type} {xF : Fm} {xb : β} {env : Fm} {e : Expr} {es : List Expr} {p pos : Pos} {cs : (List D → R β γ) → R β γ} {id : String} {x : Str} {r : List V → Hp → VK → Prop} {g : List D → Option D}
theorem a_callBN (hc : CallR X (.builtin id) r) (hd : CallN K r g) (hv : bootBuiltins x = some (.builtin id)) (hm : X.mg x = none) (hg : Gl X x) (ha : AAL X K E xF xb env (e :: es) cs) (hn : x ≠ "__name__" := by decide) (hdb : (x == ("__debug__" : Str)) = false := by decide)
    (he : starEach (e :: es) X.env = (false, eval e X.env) :: starEach es X.env := by rfl) (hpl : (backTo pos (starEach es X.env)).any (·.1) = false := by rfl) : AN X K E xF xb env [] (.Call (.Name x p) (e :: es) [] pos) (fun (k : D → R β γ) => cs fun ds => R.lft (g ds) k) :=
  ⟨ha.1, fun B F H σ Q k G s w gx hk hG => ⟨_, pe_callB hc hg hm hv pa_C hn hdb he hpl, aj_callN hd ha B F H σ Q k G s w gx hk hG⟩⟩
theorem cr_sorted' (hK : X.K = K := by rfl) : CallR X (.builtin "sorted") (rSortedI K) := hK ▸ cr_sortedI
end

/-! ### x in a dict of the module -/
def R.asS {β γ : Type} (d : D) (k : Str → R β γ) : R β γ := match d with
  | .str z => k z
  | _ => .no
structure KdC (K : PySem.W.Frag) (w : World) (mg : Str → Option Value) (x : Str) (ks : List Str) : Prop where
  ex : ∃ d es n, mg x = some (.ref d) ∧ KDict K w d es n ∧ ∀ z, ∃ r, PySem.W.nsIn K d z = some r ∧ r.isSome = ks.contains z
section
variable {X : Cx} {E : XE} {β γ : Type} {xF : Fm} {xb : β} {env : Fm} {e : Expr} {p pos : Pos} {x : Str} {ks : List Str} {c1 : (D → R β γ) → R β γ}
theorem a_inK (g : KdC X.K X.w X.mg x ks) (hg : Gl X x) (ha : AL X X.K E xF xb env e c1) (hdb : (x == ("__debug__" : Str)) = false := by decide) :
    AE X X.K E xF xb env (.Compare e [.In] [.Name x p] pos) (fun (k : D → R β γ) => c1 fun d => R.asS d fun z => k (.bl (ks.contains z))) :=
  ⟨rfl, fun B F H σ Q k G s w gx hk hG => by
    obtain ⟨d, es, n, h1, h2, h3⟩ := g.ex
    refine ⟨_, pe_cmpR (op_in_kd h2) pe_C (pe_glob (v := .ref d) hg h1 rfl hdb) rfl, ha.2 B F H σ _ _ G s w gx (fun d' v F1 H1 g1 e1 eh1 s1 d1 => ?_) hG⟩
    cases d' <;> first | exact (gx.no g1).elim | skip
    rename_i z
    obtain ⟨r, r1, r2⟩ := h3 z
    exact ⟨z, r, d1.str, rfl, r1, by rw [r2]; exact hk _ _ F1 H1 g1 e1 eh1 s1 (.bl _)⟩⟩
theorem a_notInK (g : KdC X.K X.w X.mg x ks) (hg : Gl X x) (ha : AL X X.K E xF xb env e c1) (hdb : (x == ("__debug__" : Str)) = false := by decide) :
    AE X X.K E xF xb env (.Compare e [.NotIn] [.Name x p] pos) (fun (k : D → R β γ) => c1 fun d => R.asS d fun z => k (.bl (!ks.contains z))) :=
  ⟨rfl, fun B F H σ Q k G s w gx hk hG => by
    obtain ⟨d, es, n, h1, h2, h3⟩ := g.ex
    refine ⟨_, pe_cmpR (op_notIn_kd h2) pe_C (pe_glob (v := .ref d) hg h1 rfl hdb) rfl, ha.2 B F H σ _ _ G s w gx (fun d' v F1 H1 g1 e1 eh1 s1 d1 => ?_) hG⟩
    cases d' <;> first | exact (gx.no g1).elim | skip
    rename_i z
    obtain ⟨r, r1, r2⟩ := h3 z
    exact ⟨z, r, d1.str, rfl, r1, by rw [r2]; exact hk _ _ F1 H1 g1 e1 eh1 s1 (.bl _)⟩⟩
theorem at_inK (g : KdC X.K X.w X.mg x ks) (hg : Gl X x) (ha : AL X X.K E xF xb env e c1) (hdb : (x == ("__debug__" : Str)) = false := by decide) :
    AT X X.K E xF xb env (.Compare e [.In] [.Name x p] pos) (fun (k : Bool → R β γ) => c1 fun d => R.asS d fun z => k (ks.contains z)) :=
  ⟨rfl, fun B F H σ Q k G s w gx hk hG => by
    obtain ⟨d, es, n, h1, h2, h3⟩ := g.ex
    refine ⟨_, pt_cmpR (op_in_kd h2) pe_C (pe_glob (v := .ref d) hg h1 rfl hdb) rfl, ha.2 B F H σ _ _ G s w gx (fun d' v F1 H1 g1 e1 eh1 s1 d1 => ?_) hG⟩
    cases d' <;> first | exact (gx.no g1).elim | skip
    rename_i z
    obtain ⟨r, r1, r2⟩ := h3 z
    exact ⟨z, r, d1.str, rfl, r1, ⟨_, rfl, hk _ _ F1 H1 g1 e1 eh1 s1 (by rw [r2])⟩⟩⟩
theorem at_notInK (g : KdC X.K X.w X.mg x ks) (hg : Gl X x) (ha : AL X X.K E xF xb env e c1) (hdb : (x == ("__debug__" : Str)) = false := by decide) :
    AT X X.K E xF xb env (.Compare e [.NotIn] [.Name x p] pos) (fun (k : Bool → R β γ) => c1 fun d => R.asS d fun z => k (!ks.contains z)) :=
  ⟨rfl, fun B F H σ Q k G s w gx hk hG => by
    obtain ⟨d, es, n, h1, h2, h3⟩ := g.ex
    refine ⟨_, pt_cmpR (op_notIn_kd h2) pe_C (pe_glob (v := .ref d) hg h1 rfl hdb) rfl, ha.2 B F H σ _ _ G s w gx (fun d' v F1 H1 g1 e1 eh1 s1 d1 => ?_) hG⟩
    cases d' <;> first | exact (gx.no g1).elim | skip
    rename_i z
    obtain ⟨r, r1, r2⟩ := h3 z
    exact ⟨z, r, d1.str, rfl, r1, ⟨_, rfl, hk _ _ F1 H1 g1 e1 eh1 s1 (by rw [r2])⟩⟩⟩
end
end DM

/-! enumerate of a tuple. -/
namespace DM
open PySem PySem.Spec PyProof.Rows L2 DL
theorem meets_enum_tup (l : Addr) (items : Array Value) (n : Nat) (dct : Option Addr) (sl : Array (Option Value)) :
    Meets (Builtin.«enumerate.__new__» ⟨[.type "enumerate", .ref l], []⟩) (fun _ R s => s.heap.get? l = some { cls := .type "tuple", dict := dct, data := .seq items n, slots := sl } ∧
      R (.ok (.ret (.ref (s.heap.push { cls := .type "tuple_iterator", data := .fields #[.ref l, .int 0 0] }).objs.size)))
        { s with heap := (s.heap.push { cls := .type "tuple_iterator", data := .fields #[.ref l, .int 0 0] }).push { cls := .type "enumerate", data := .fields #[.none, .bool false, .ref s.heap.objs.size, rawInt 0, .none, .none] } }) :=
  .of_wp fun prog w A R s h => by
    obtain ⟨hp, g, d, tk, os⟩ := s; obtain ⟨hl, h⟩ := h
    have hsub := sub_enumerate
    have hL : Heap.IsTuple (Shared.heap ⟨hp, g, d, tk, os⟩) l items := ⟨_, hl, rfl, n, rfl⟩
    wp_walk using wpAny_loadPart' hl
    refine wpAny_stack_any fun st => wpAny_pure ?_
    split
    · rename_i c _ _ _ _ _
      cases (c == Value.type "enumerate") <;> (wp_walk using wpAny_loadPart' hl, wpAny_pyIter_tuple hL; exact ⟨_, rfl, h⟩)
    · wp_walk using wpAny_loadPart' hl, wpAny_pyIter_tuple hL
      exact ⟨_, rfl, h⟩
theorem call_enum_tup {prog : Program} {w : World} {A : Around} {E : Value → Shared → Prop} {s : Shared} {l : Addr} {items : Array Value} {Q : Value → Shared → Prop} (hL : s.heap.IsTuple l items)
    (h : ∀ h', IsEnum h' (s.heap.objs.size + 1) s.heap.objs.size 0 .none → h'.IsTupleIter s.heap.objs.size l 0 → h'.IsTuple l items → (∀ b o, s.heap.get? b = some o → h'.get? b = some o) → Q (.ref (s.heap.objs.size + 1)) { s with heap := h' }) :
    wpAny (model prog w) A (call (.type "enumerate") [.ref l]) Q E s := by
  have hL0 := hL
  obtain ⟨⟨c, dct, dt, sl⟩, hl, hc, n, hd⟩ := hL
  simp only at hc hd
  subst hc hd
  refine callType_new F.called_enumerate (by decide) (F.typeCall_enumerate_1 _) (F.newCall_enumerate_1 _) (fun obj => F.args_object_init_2 obj _) F.entry_enumerate_new (meets_enum_tup l items n dct sl) ⟨hl, ?_⟩
  have kp : ∀ b o, s.heap.get? b = some o → ((s.heap.push { cls := .type "tuple_iterator", data := .fields #[.ref l, .int 0 0] }).push { cls := .type "enumerate", data := .fields #[.none, .bool false, .ref s.heap.objs.size, rawInt 0, .none, .none] }).get? b = some o := fun b o e => Heap.get?_push_of_some _ (Heap.get?_push_of_some _ e)
  have hz : (s.heap.push { cls := .type "tuple_iterator", data := .fields #[.ref l, .int 0 0] }).objs.size = s.heap.objs.size + 1 := Heap.size_push ..
  have he : IsEnum ((s.heap.push { cls := .type "tuple_iterator", data := .fields #[.ref l, .int 0 0] }).push { cls := .type "enumerate", data := .fields #[.none, .bool false, .ref s.heap.objs.size, rawInt 0, .none, .none] }) (s.heap.objs.size + 1) s.heap.objs.size 0 .none := by
    have q := Heap.get?_push_size (s.heap.push { cls := .type "tuple_iterator", data := .fields #[.ref l, .int 0 0] }) (o := { cls := .type "enumerate", data := .fields #[.none, .bool false, .ref s.heap.objs.size, rawInt 0, .none, .none] }) rfl
    rwa [hz] at q
  show _ ∧ _
  rw [hz]
  exact ⟨⟨_, he, rfl⟩, h _ he ⟨_, Heap.get?_push_of_some _ (Heap.get?_push_size _ rfl), rfl, rfl⟩ ⟨_, kp _ _ hl, rfl, n, rfl⟩ kp⟩
def ItU (K : PySem.W.Frag) (a : Addr) (xs : List V) : It where
  go := fun i H => SqT K H a xs ∧ ∃ x, xs[i]? = some x
  yld := fun i H v H' => ∃ T o x, v = .ref T ∧ H T = none ∧ o.dict = none ∧ H' = upd H T (.frz o (.tup [.int (i : Nat), x])) ∧ xs[i]? = some x
  stop := fun i H => SqT K H a xs ∧ xs.length ≤ i
theorem turn_enumU {P : Program} {w : World} {K : PySem.W.Frag} {elts : List Expr} {kk : Nat} {tpos : Pos} (a e it : Addr) (xs : List V) :
    Turn P w K (.Tuple elts kk tpos) (ItU K a xs) [e, it] e (fun i h => (∃ old, IsEnum h e it ((i : Nat) : Int) old) ∧ h.IsTupleIter it a i ∧ e ≠ it ∧ a ≠ it ∧ e ≠ a ∧ i ≤ xs.length) where
  mem := List.mem_cons_self
  obj := fun i h st b hb => by
    obtain ⟨⟨old, he⟩, ⟨o, ho, hc, hd⟩, _⟩ := st
    rcases List.mem_cons.mp hb with z | z
    · rw [z]; exact ⟨_, he, fun v q => nomatch q⟩
    · rw [List.mem_singleton.mp z]; exact ⟨o, ho, fun v q => by rw [hd] at q; cases q⟩
  keep := fun i h h' st k => ⟨let ⟨old, he⟩ := st.1; ⟨old, k e List.mem_cons_self _ he⟩, st.2.1.at fun o q => k it (by simp) o q, st.2.2⟩
  item := by
    intro X hP hw hK hc i pins s σ H E I hf st hg
    subst hP hw hK
    obtain ⟨⟨old, he⟩, hit, hne, hai, hea, hle⟩ := st
    obtain ⟨hq, x, hx⟩ := hg
    obtain ⟨its, rv, pl, hz⟩ := I.tuple hq
    obtain ⟨u, hu, ru⟩ := rv.get hx
    have hlt : i < its.toArray.size := by rw [List.size_toArray]; exact (List.getElem?_eq_some_iff.mp hu).1
    have big : ∀ b ∈ [e, it], b < s.heap.objs.size := fun b hb => by
      rcases List.mem_cons.mp hb with z | z
      · rw [z]; exact Heap.lt_size he
      · obtain ⟨_, q, _⟩ := hit
        rw [List.mem_singleton.mp z]; exact Heap.lt_size q
    refine wpAny_pyNext_enum_itemD (PySem.Draws.tuple (A := X.A.in1) (I.ok.hd hc) it a hai its.toArray) he ⟨hit, pl⟩ hlt hne (by simp [hne, hea]) fun y h1 tk hy ho hst hT hsz hk => ?_
    have hyu : y = u := by
      rw [List.getElem?_toArray, hu] at hy
      exact (Option.some.inj hy).symm
    subst hyu
    refine ⟨_, rfl, wpAny_letOwnedTupleGo_enum (s := { s with heap := h1, toks := tk + 1 }) ho fun h2 he' sb => ?_⟩
    have hT2 := (sb.2 _ (Nat.ne_of_gt (big e List.mem_cons_self))).trans hT
    refine ⟨.ref s.heap.objs.size, upd H s.heap.objs.size (.frz _ (.tup [.int (i : Nat), x])), I.turnedNew (ch := [e, it]) (fun b ob hb q => (sb.2 b (fun z => hb (by simp [z]))).trans (hk b ob (fun z => hb (by simp [z])) (fun z => hb (by simp [z])) q)) hf (Nat.le_refl _)
      (show _ = _ ∧ _ from ⟨hT2, (by decide : 2 ≤ sizeLine), [.int i tk, y], .cons ⟨_, rfl⟩ (.cons ru .nil), _, hT2, rfl, _, rfl⟩), rfl, ⟨_, _, x, rfl, I.hok.fresh (Nat.le_refl _), rfl, rfl, hx⟩, ⟨⟨y, by push_cast; exact he'⟩, hst.1.at fun o q => (sb.2 it (Ne.symm hne)).trans q, hne, hai, hea, (List.getElem?_eq_some_iff.mp hx).1⟩, fun b hb => ?_⟩
    rw [upd_ne (Nat.ne_of_lt (big b hb))]
    exact (hf b hb).1
  done := by
    intro X hP hw hK hc i pins s σ H E I hf st hg
    subst hP hw hK
    obtain ⟨⟨old, he⟩, hit, hne, hai, hea, hle⟩ := st
    obtain ⟨hq, hx⟩ := hg
    obtain ⟨its, rv, pl, hz⟩ := I.tuple hq
    obtain ⟨f0, f1, f2, f3, f4, f5⟩ := hf it (by simp)
    have hsz : its.toArray.size = i := by rw [List.size_toArray, ← rv.length]; exact Nat.le_antisymm hx hle
    have D := PySem.Draws.tuple (prog := X.prog) (w := X.w) (A := X.A.in1) (I.ok.hd hc) it a hai its.toArray
    exact wpAny_pyNext_enum_endD D he (by rw [hsz]; exact ⟨hit, pl⟩) fun h' eb => ⟨rfl, I.turned (t' := s.toks) (fun b o hb q => eb b o hb q) f0 f1 f3 f4 f5⟩
  self := fun A i s Q E st h => let ⟨⟨_, he⟩, _⟩ := st; wpAny_pyIter_enum he h
section
variable {X : Cx} {K : PySem.W.Frag} {E : XE} {β γ : Type} {xF : Fm} {xb : β} {env : Fm} {tg e a b : Expr} {pos p : Pos} {c1 c2 : (D → R β γ) → R β γ}
theorem fp2 {pins : List (Addr × Obj)} {σ : L2.St} {H : Hp} {s : Shared} (I : Inv X pins σ H s) : ∀ b ∈ [s.heap.objs.size + 1, s.heap.objs.size], FpOk X pins H b := fun b hb => by
  have hle : s.heap.objs.size ≤ b := by
    rcases List.mem_cons.mp hb with z | z
    · rw [z]; exact Nat.le_succ _
    · rw [List.mem_singleton.mp z]; exact Nat.le_refl _
  exact I.fpOk hle (I.hok.fresh hle)
theorem pi_enumA {ta : TA} {elts : List Expr} {kk : Nat} {tpos : Pos} (hg : Gl X "enumerate") (hm : X.mg "enumerate" = none) (ha : PA X [e] ta) (hs : starEach [e] X.env = [(false, eval e X.env)] := by rfl) :
    PI X (.Tuple elts kk tpos) (.Call (.Name "enumerate" p) [e] [] pos) (fun σ H R => ta σ H fun vs H1 => ∃ a xs, vs = [.ref a] ∧ ((SqL X.K H1 a xs ∧ R (ItE X.K a) H1) ∨ (SqT X.K H1 a xs ∧ R (ItU X.K a xs) H1))) := by
  refine ⟨fun pins s σ H R I h => Call_ (ld_blt I hg hm boot_enumerate (PyProof.Rows.callWith_type1 (thn (ha.run pos pins s σ H _ I h) fun us s1 ⟨vs, H1, I1, r1, q1⟩ => ?_) hs rfl))⟩
  obtain ⟨a, xs, rfl, hor⟩ := q1
  obtain ⟨u, rfl, ru⟩ := vals1 r1
  cases ru
  rcases hor with ⟨hq, q⟩ | ⟨hq, q⟩
  · obtain ⟨its, rv, pl, hz⟩ := I1.list hq
    exact call_enumerate_list pl.isList fun h' he hit hsz hk => wpAny_pyIter_enum he ⟨s1.heap.objs.size + 1, [s1.heap.objs.size + 1, s1.heap.objs.size], _, _, H1, rfl, I1.kept (t' := s1.toks) hk, turn_enumZ a (s1.heap.objs.size + 1) s1.heap.objs.size, ⟨⟨.none, he⟩, hit, Nat.succ_ne_self _⟩, fp2 I1, q⟩
  · obtain ⟨its, rv, pl, hz⟩ := I1.tuple hq
    have hlt : a < s1.heap.objs.size := by obtain ⟨o, ho, _⟩ := pl; exact Heap.lt_size ho
    exact call_enum_tup pl fun h' he hit _ hk => wpAny_pyIter_enum he ⟨s1.heap.objs.size + 1, [s1.heap.objs.size + 1, s1.heap.objs.size], _, _, H1, rfl, I1.kept (t' := s1.toks) hk, turn_enumU a (s1.heap.objs.size + 1) s1.heap.objs.size xs, ⟨⟨.none, he⟩, hit, Nat.succ_ne_self _, Nat.ne_of_lt hlt, Nat.ne_of_gt (Nat.lt_succ_of_lt hlt), Nat.zero_le _⟩, fp2 I1, q⟩
theorem rI_enumU {F : Hp} {q : Addr} {xs : List V} {ds : List D} (h1 : SqT K F q xs) (h2 : DrA K F xs ds) : rI K F (ItU K q xs) (enumD ds) := by
  intro F2 H2 e2 e3
  have hqq := (e2.trans e3).st h1
  refine ⟨fun i hi => ?_, fun i hi => ⟨hqq, by rw [h2.length]; rw [enumD_length] at hi; exact hi⟩, fun i x H3 d hd hy => Or.inr ?_⟩
  · rw [enumD_length] at hi
    obtain ⟨v, e, _⟩ := h2.get (List.getElem?_eq_getElem hi)
    exact ⟨hqq, v, e⟩
  · obtain ⟨T, o, x', rfl, hT, ho, rfl, hx⟩ := hy
    obtain ⟨e, he, rfl⟩ := enumD_get hd
    obtain ⟨v, ev, hv⟩ := h2.get he
    rw [ev] at hx
    cases hx
    have hF : F2 T = none := e3.none hT
    exact ⟨T, _, hT, rfl, .tup (Or.inl ⟨o, upd_same, ho⟩) (.cons (.int _) (.cons ((hv.mono e2).mono (Ex.new hF)) .nil))⟩
def R.enumA (d : D) (k : List D → R β γ) : R β γ := match d with
  | .lst ds => k (enumD ds)
  | .tup ds => k (enumD ds)
  | _ => .no
theorem ai_enumA {elts : List Expr} {kk : Nat} {tpos : Pos} (hm : X.mg "enumerate" = none) (hg : Gl X "enumerate") (ha : AE X K E xF xb env a c1) (hs : starEach [a] X.env = [(false, eval a X.env)] := by rfl) :
    AI X K E xF xb env (.Tuple elts kk tpos) (.Call (.Name "enumerate" p) [a] [] pos) (fun (k : List D → R β γ) => c1 fun d => R.enumA d k) := by
  have hK := ha.1
  subst hK
  exact ⟨rfl, fun B F H σ Q k G s w gx hk hG => ⟨_, pi_enumA hg hm (pa_cons pe_C pa_nil hs) hs, ha.2 B F H σ _ _ G s w gx (fun d v F1 H1 h1 e1 eh1 s1 d1 => by
    cases d <;> first | exact (gx.no h1).elim | skip
    · cases d1 with
      | lst h2 h3 => exact ⟨_, _, rfl, .inl ⟨.inl (s1.ex.rd h2), hk _ _ F1 H1 h1 e1 eh1 s1 (rI_enum h2 h3)⟩⟩
    · cases d1 with
      | tup h2 h3 => exact ⟨_, _, rfl, .inr ⟨s1.ex.st h2.sq, hk _ _ F1 H1 h1 e1 eh1 s1 (rI_enumU h2.sq h3)⟩⟩) hG⟩⟩
end
end DM

/-! The end: facts of the module's top in the form that the rules want. -/
namespace DM
open PySem PySem.Spec PyProof.Rows L2 DL

/-- a written value of the module is d -/
def DK (K : PySem.W.Frag) (u : Value) (d : D) : Prop := ∃ v, RelV v u ∧ ∀ F, Dr K F v d
def DKs (K : PySem.W.Frag) (us : List Value) (ds : List D) : Prop := ∃ vs, Vals vs us ∧ ∀ F, DrA K F vs ds
section
variable {K : PySem.W.Frag} {u : Value} {us : List Value} {d : D} {ds : List D}
theorem dk_str {x : Str} {t : Tok} : DK K (.str x t) (.str x) := ⟨.str x, ⟨t, rfl⟩, fun _ => .str x⟩
theorem dk_int {x : Int} {t : Tok} : DK K (.int x t) (.int x) := ⟨.int x, ⟨t, rfl⟩, fun _ => .int x⟩
theorem dk_bl {x : Bool} : DK K (.bool x) (.bl x) := ⟨.bl x, rfl, fun _ => .bl x⟩
theorem dk_non : DK K .none .non := ⟨.non, rfl, fun _ => .non⟩
theorem dk_nil : DKs K [] [] := ⟨[], .nil, fun _ => .nil⟩
theorem dk_cons (h : DK K u d) (hs : DKs K us ds) : DKs K (u :: us) (d :: ds) := by
  obtain ⟨v, r, h⟩ := h
  obtain ⟨vs, rs, hs⟩ := hs
  exact ⟨v :: vs, .cons r rs, fun F => .cons (h F) (hs F)⟩
theorem dk_tup {a : Addr} {its : List Value} {n : Nat} {sl : Array (Option Value)} (l : K.lookup a = some ⟨.type "tuple", none, .seq its.toArray n, sl⟩) (h : DKs K its ds) (hz : Nat.ble its.length 1000 = true) : DK K (.ref a) (.tup ds) := by
  obtain ⟨vs, r, h⟩ := h
  exact ⟨.ref a, rfl, fun F => .tup (Or.inr ⟨_, _, _, l, rfl, rfl, rfl, by rw [List.size_toArray, sizeLine_eq]; have := Nat.le_of_ble_eq_true hz; omega, by rw [List.toList_toArray]; exact r⟩) (h F)⟩
theorem DK.glob {mg : Str → Option Value} {x : Str} {h : Heap} (q : DK K u d) (X : K.In h) (G : h.Ns mainGlobals mg) (e : PySem.W.nsIn K mainGlobals x = some (some u)) : GlobD K mg x d := by
  obtain ⟨v, r, q⟩ := q
  exact ⟨v, u, PySem.W.mg_of X G e, r, q⟩
end
/-! dicts of the module with text keys -/
def litK (e : DictEntry) : Str := match e.key with
  | .str x _ => x
  | _ => Str.empty
theorem lit_find {P : Params} {z : Str} : ∀ {l : List DictEntry}, PySem.W.KeysLit P l → (l.find? (·.key.isStr z)).isSome = (l.map litK).contains z
  | [], _ => rfl
  | e :: r, ⟨⟨x, t, h, _⟩, hr⟩ => by
    have ih := lit_find (z := z) hr
    have e1 : litK e = x := by unfold litK; rw [h]
    have e2 : e.key.isStr z = (x == z) := by rw [h]; rfl
    rw [List.map_cons, List.contains_cons, e1, List.find?_cons, e2]
    by_cases q : x = z
    · subst q; simp
    · have q1 : (x == z) = false := by simpa using q
      have q2 : (z == x) = false := by simpa using Ne.symm q
      rw [q1, q2, Bool.false_or]
      exact ih
theorem lit_noref {P : Params} : ∀ {l : List DictEntry}, PySem.W.KeysLit P l → l.any (·.refKey) = false
  | [], _ => rfl
  | e :: r, ⟨⟨x, t, h, _⟩, hr⟩ => by
    have : e.refKey = false := by unfold DictEntry.refKey; rw [h]
    rw [List.any_cons, this, lit_noref hr]; rfl
theorem kd_of {K : PySem.W.Frag} {w : World} {mg : Str → Option Value} {x : Str} {h : Heap} {d : Addr} {es : List DictEntry} {n : Nat} {ks : List Str} (X : K.In h) (G : h.Ns mainGlobals mg) (e : PySem.W.nsIn K mainGlobals x = some (some (.ref d)))
    (l : K.lookup d = some ⟨.type "dict", none, .dict es.toArray n, #[]⟩) (t : PySem.W.KeysLit w.params es) (s : (d == sysModules) = false) (hk : es.map litK = ks) : KdC K w mg x ks := by
  refine ⟨d, es.toArray, n, PySem.W.mg_of X G e, ⟨l, by rw [List.toList_toArray]; exact t, s⟩, fun z => ?_⟩
  unfold PySem.W.nsIn
  rw [l]
  simp only [List.toList_toArray]
  rw [← hk, ← lit_find (z := z) t]
  cases q : es.find? (·.key.isStr z) with
  | some e => exact ⟨_, rfl, rfl⟩
  | none => rw [lit_noref t]; exact ⟨_, rfl, rfl⟩
section
variable {P : Program} {w : World} {K : PySem.W.Frag} {mg : Str → Option Value} {base : Heap} {j k : Nat} {f : Addr} {nw : Option (List Str)} {fs : List Str} {C m : Str} {c : Addr}
theorem PrP.up {mf : List D → R Unit D} (F : PrP P w K mg base j f nw mf) (h : Nat.ble j k = true) : PrP P w K mg base k f nw mf := fun n => (F n).up (Nat.le_of_ble_eq_true h)
theorem PrR.up {mf : List D → R Unit (D × D)} (F : PrR P w K mg base j f fs mf) (h : Nat.ble j k = true) : PrR P w K mg base k f fs mf := fun n => (F n).up (Nat.le_of_ble_eq_true h)
theorem meth_mk {mf : List D → R Unit D} (a : PySem.W.nsIn K mainGlobals C = some (some (.ref c))) (h : Cls K c) (hm : Meth K c m f) (F : PrP P w K mg base k f nw mf) : MethC P w K mg base k C m nw mf := ⟨fun c' h' => by
  have e := a.symm.trans h'
  cases e
  exact ⟨h, f, hm, F⟩⟩
theorem prop_mk {mf : List D → R Unit D} {p : Addr} (a : PySem.W.nsIn K mainGlobals C = some (some (.ref c))) (h : Cls K c) (hm : PropOf K c m p f) (F : PrP P w K mg base k f none mf) : PropC P w K mg base k C m mf := ⟨fun c' h' => by
  have e := a.symm.trans h'
  cases e
  exact ⟨h, p, f, hm, F⟩⟩
theorem fld_mk (a : PySem.W.nsIn K mainGlobals C = some (some (.ref c))) (h : Cls K c) (n : NoAttr K c m) : FldC K C m := ⟨fun c' h' => by
  have e := a.symm.trans h'
  cases e
  exact ⟨h, n⟩⟩
theorem bind_star1 {B : List Value → Sem (List (Str × Value))} {p1 pv : Str} (h0 : ∀ a, B [a] = (newTuple [] >>= fun t => pure [(p1, a), (pv, t)])) (h1 : ∀ a r rs, B (a :: r :: rs) = (newTuple (r :: rs) >>= fun t => pure [(p1, a), (pv, t)])) :
    ∀ us rest : List Value, us.length = [p1].length → B (us ++ rest) = (newTuple rest >>= fun t => pure ([p1].zip us ++ [(pv, t)]))
  | [a], [], _ => h0 a
  | [a], r :: rs, _ => h1 a r rs
theorem bind_star2 {B : List Value → Sem (List (Str × Value))} {p1 p2 pv : Str} (h0 : ∀ a b, B [a, b] = (newTuple [] >>= fun t => pure [(p1, a), (p2, b), (pv, t)])) (h1 : ∀ a b r rs, B (a :: b :: r :: rs) = (newTuple (r :: rs) >>= fun t => pure [(p1, a), (p2, b), (pv, t)])) :
    ∀ us rest : List Value, us.length = [p1, p2].length → B (us ++ rest) = (newTuple rest >>= fun t => pure ([p1, p2].zip us ++ [(pv, t)]))
  | [a, b], [], _ => h0 a b
  | [a, b], r :: rs, _ => h1 a b r rs
theorem bind_star0 {B : List Value → Sem (List (Str × Value))} {pv : Str} (h0 : B [] = (newTuple [] >>= fun t => pure [(pv, t)])) (h1 : ∀ r rs, B (r :: rs) = (newTuple (r :: rs) >>= fun t => pure [(pv, t)])) :
    ∀ us rest : List Value, us.length = ([] : List Str).length → B (us ++ rest) = (newTuple rest >>= fun t => pure (([] : List Str).zip us ++ [(pv, t)]))
  | [], [], _ => h0
  | [], r :: rs, _ => h1 r rs
end
end DM

/-! The end: facts of the module about its own errors. -/
namespace DM
open PySem PySem.Spec PyProof.Rows PySem.W L2 DL DX
section
variable {P : Program} {K : PySem.W.Frag} {mg : Str → Option Value} {h : Heap} {B newId i : String} {bmB bm : List Value} {x p r : Str} {C fI cda cc : Addr} {nm q : Str} {N : Addr} {bs : List Value} {sn : List Str} {sub : List Value} {ab : Bool} {col : Option Bool} {dd : Option Addr} {k0 k1 k2 k3 k5 : Option Value}
  {oc doc pm ct : Value} {od an : Option Addr} {osl : Array (Option Value)} {qn : Str} {p0 p1 p2 q1 q2 q3 q4 q4' q5 q6 q7 q8 q9 q10 r7 r8 r9 r10 : Pos} {oce ocd : Obj} {vs : Array Value} {file : Str} {tf : Tok}
theorem err_mk1 (BF : BaseF B newId i bmB) (X : K.In h) (G : h.Ns mainGlobals mg) (aC : nsIn K mainGlobals x = some (some (.ref C))) (lC : K.lookup C = some (excClassObj nm q C N bs bm true sn sub ab col dd k0 k1 k2 k3 k5 newId)) (rb : refsB bmB bm = true)
    (sB : subIn K (.ref C) (.type B) = some true) (su : ks_superIn K C C "__init__" = some (some (.builtin i))) (sa : findIn K (.ref C) "__setattr__" = some (some (.builtin "object.__setattr__"))) (n1 : findIn K (.ref C) p = some none) (iC : findIn K (.ref C) "__init__" = some (some (.ref fI)))
    (tC : typeIn K (.ref fI) = some (.type "function")) (kC : keepIn K (.ref C) = true) (sb : subIn K (.ref C) (.ref C) = some true) (eC : subIn K (.ref C) (.type "BaseException") = some true) (tyC : typeIn K (.ref C) = some (.type "type")) (top : nsIn K cStatics "thirdparty.any" = some none) (hs : nsIn K mainGlobals "super" = some none)
    (lf : K.lookup fI = some ⟨oc, od, .func (ksFn "__init__" qn (pars [("self", p0), (p, p1)]) (bd1 p q1 q2 q3 q4 q5 q6 q7 q8 q9 q10) (scp [p]) .none .none doc pm an (.ref cda) ct cc), osl⟩) (cI : codeIn K (.ref cda) qn = true) (lc : K.lookup cc = some oce) (ec : oce.data = .cell (some (.ref C))) (ld : K.lookup cda = some ocd) (ed : ocd.data = .fields vs) (e2 : vs[2]? = some (.str file tf))
    (fe : ((P.main.file : Str) == file) = true) (tp : (P.main.scope.names.lookup ("super" : Str)).isSome = false) (s1 : (scp [p]).names.lookup ("super" : Str) = some .globalImplicit) (s2 : (scp [p]).names.lookup ("__class__" : Str) = some .free) (s3 : (scp [p]).names.lookup ("self" : Str) = some .local) (s4 : (scp [p]).names.lookup p = some .local) (s5 : (p == ("__debug__" : Str)) = false) (s6 : p ≠ "self")
    (hb : L2.Binds K (ksFn "__init__" qn (pars [("self", p0), (p, p1)]) (bd1 p q1 q2 q3 q4 q5 q6 q7 q8 q9 q10) (scp [p]) .none .none doc pm an (.ref cda) ct cc) ["self", p] []) (hev : Hev qn (scp [p]) fI cda cc q1 q2 q3 q5 [.Name p q4]) : ErrC P K mg x [p] := by
  refine ⟨C, fI, ⟨mg_of X G aC, ⟨B, newId, i, bmB, nm, q, N, bs, bm, sn, sub, ab, col, dd, k0, k1, k2, k3, k5, BF, lC, rb, sB, su⟩, sa, ?_, iC, tC, kC, sb, eC, tyC, top, mg_none_of X G hs, tp, s1, s2, s3, ?_, ⟨oc, od, doc, pm, an, cda, cc, ct, osl, qn, [p0, p1], _, ocd, oce, vs, file, tf, lf, hb, cI, rfl, lc, ec, ld, ed, e2, fe, .inl ⟨p, rfl, _, _, _, _, _, _, _, _, _, _, rfl, hev⟩⟩⟩, aC⟩
  · intro y hy
    rw [List.mem_singleton.mp hy]; exact n1
  · intro y hy
    rw [List.mem_singleton.mp hy]; exact ⟨s4, s5, s6⟩
theorem err_mk2 (BF : BaseF B newId i bmB) (X : K.In h) (G : h.Ns mainGlobals mg) (aC : nsIn K mainGlobals x = some (some (.ref C))) (lC : K.lookup C = some (excClassObj nm q C N bs bm true sn sub ab col dd k0 k1 k2 k3 k5 newId)) (rb : refsB bmB bm = true)
    (sB : subIn K (.ref C) (.type B) = some true) (su : ks_superIn K C C "__init__" = some (some (.builtin i))) (sa : findIn K (.ref C) "__setattr__" = some (some (.builtin "object.__setattr__"))) (n1 : findIn K (.ref C) p = some none) (n2 : findIn K (.ref C) r = some none) (iC : findIn K (.ref C) "__init__" = some (some (.ref fI)))
    (tC : typeIn K (.ref fI) = some (.type "function")) (kC : keepIn K (.ref C) = true) (sb : subIn K (.ref C) (.ref C) = some true) (eC : subIn K (.ref C) (.type "BaseException") = some true) (tyC : typeIn K (.ref C) = some (.type "type")) (top : nsIn K cStatics "thirdparty.any" = some none) (hs : nsIn K mainGlobals "super" = some none)
    (lf : K.lookup fI = some ⟨oc, od, .func (ksFn "__init__" qn (pars [("self", p0), (p, p1), (r, p2)]) (bd2 p r q1 q2 q3 q4 q4' q5 q6 q7 q8 q9 q10 r7 r8 r9 r10) (scp [p, r]) .none .none doc pm an (.ref cda) ct cc), osl⟩) (cI : codeIn K (.ref cda) qn = true) (lc : K.lookup cc = some oce) (ec : oce.data = .cell (some (.ref C))) (ld : K.lookup cda = some ocd) (ed : ocd.data = .fields vs) (e2 : vs[2]? = some (.str file tf))
    (fe : ((P.main.file : Str) == file) = true) (tp : (P.main.scope.names.lookup ("super" : Str)).isSome = false) (s1 : (scp [p, r]).names.lookup ("super" : Str) = some .globalImplicit) (s2 : (scp [p, r]).names.lookup ("__class__" : Str) = some .free) (s3 : (scp [p, r]).names.lookup ("self" : Str) = some .local) (s4 : (scp [p, r]).names.lookup p = some .local) (s5 : (p == ("__debug__" : Str)) = false) (s6 : p ≠ "self") (s7 : (scp [p, r]).names.lookup r = some .local) (s8 : (r == ("__debug__" : Str)) = false) (s9 : r ≠ "self") (hpr : p ≠ r)
    (hb : L2.Binds K (ksFn "__init__" qn (pars [("self", p0), (p, p1), (r, p2)]) (bd2 p r q1 q2 q3 q4 q4' q5 q6 q7 q8 q9 q10 r7 r8 r9 r10) (scp [p, r]) .none .none doc pm an (.ref cda) ct cc) ["self", p, r] []) (hev : Hev qn (scp [p, r]) fI cda cc q1 q2 q3 q5 [.Name p q4, .Name r q4']) : ErrC P K mg x [p, r] := by
  refine ⟨C, fI, ⟨mg_of X G aC, ⟨B, newId, i, bmB, nm, q, N, bs, bm, sn, sub, ab, col, dd, k0, k1, k2, k3, k5, BF, lC, rb, sB, su⟩, sa, ?_, iC, tC, kC, sb, eC, tyC, top, mg_none_of X G hs, tp, s1, s2, s3, ?_, ⟨oc, od, doc, pm, an, cda, cc, ct, osl, qn, [p0, p1, p2], _, ocd, oce, vs, file, tf, lf, hb, cI, rfl, lc, ec, ld, ed, e2, fe, .inr ⟨p, r, rfl, hpr, _, _, _, _, _, _, _, _, _, _, _, _, _, _, _, rfl, hev⟩⟩⟩, aC⟩
  · intro y hy
    rcases List.mem_cons.mp hy with rfl | hy
    · exact n1
    · rw [List.mem_singleton.mp hy]; exact n2
  · intro y hy
    rcases List.mem_cons.mp hy with rfl | hy
    · exact ⟨s4, s5, s6⟩
    · rw [List.mem_singleton.mp hy]; exact ⟨s7, s8, s9⟩
theorem exm_mk {c d : Addr} {b : Bool} (h1 : subIn K (.ref c) (.type "BaseException") = some true) (h2 : isClsIn K c = true) (h3 : typeIn K (.ref c) = some (.type "type")) (h4 : subIn K (.ref d) (.ref c) = some b) : exmOne K (.ref d) (.ref c) = some b := by
  have e1 : (subIn K (.ref c) (.type "BaseException") == some true) = true := by rw [h1] <;> rfl
  have e2 : ((clsIn K c).isSome && typeIn K (.ref c) == some (.type "type")) = true := by
    have h2' : (clsIn K c).isSome = true := h2
    rw [h2', h3] <;> rfl
  unfold exmOne kitCls
  rw [if_pos e1]
  simp only
  rw [if_pos e2]
  exact h4
theorem mtk_mk {c : Addr} {mt : Str → Option Bool} (X : K.In h) (G : h.Ns mainGlobals mg) (a : nsIn K mainGlobals x = some (some (.ref c))) (h1 : subIn K (.ref c) (.type "BaseException") = some true) (h2 : isClsIn K c = true) (h3 : typeIn K (.ref c) = some (.type "type"))
    (hm : ∀ C b, mt C = some b → ∃ d, nsIn K mainGlobals C = some (some (.ref d)) ∧ subIn K (.ref d) (.ref c) = some b) : MtK K mg x mt := by
  refine ⟨.ref c, .inl (mg_of X G a), fun C b hb c' hc => ?_⟩
  obtain ⟨d, h4, h5⟩ := hm C b hb
  have e := h4.symm.trans hc
  cases e
  exact exm_mk h1 h2 h3 h5
theorem xfd_mk {f : Str} {mt : Str → Option Bool} (hm : ∀ C, mt C = some true → ∃ d, nsIn K mainGlobals C = some (some (.ref d)) ∧ findIn K (.ref d) "__getattribute__" = some (some (.builtin "BaseException.__getattribute__")) ∧ findIn K (.ref d) "__getattr__" = some none ∧ subIn K (.ref d) (.type "BaseException") = some true ∧ hasDictIn K d = true ∧ findIn K (.ref d) f = some none) : XfD K mt f := by
  refine ⟨fun C hC c hc => ?_⟩
  obtain ⟨d, h4, h5, h6, h7, h8, h9⟩ := hm C hC
  have e := h4.symm.trans hc
  cases e
  exact ⟨⟨h5, h6, h7, h8⟩, h9⟩
end
end DM

/-! Plain lemmas about mirrors: how the words of R are read. -/
namespace PL
open PySem L2 DM
section
variable {β α γ ω S : Type}
@[simp] theorem bind_ok (a : α) (k : α → R β γ) : R.bind (.ok a) k = k a := id rfl
@[simp] theorem bind_ex (x : Exn) (b : β) (k : α → R β γ) : R.bind (.ex x b) k = .ex x b := id rfl
@[simp] theorem call_ok (a : α) (xb : β) (k : α → R β γ) : R.call (.ok a) xb k = k a := id rfl
@[simp] theorem call_ex (x : Exn) (u : Unit) (xb : β) (k : α → R β γ) : R.call (.ex x u) xb k = .ex x xb := id rfl
@[simp] theorem call1e_ok (a w : D) (xb : β) (k : D → D → R β γ) : R.call1e (.ok (a, w)) xb k = k a w := id rfl
@[simp] theorem call1e_ex (x : Exn) (u : Unit) (xb : β) (k : D → D → R β γ) : R.call1e (.ex x u) xb k = .ex x xb := id rfl
@[simp] theorem make_ok (o : D) (xb : β) (k : D → R β γ) : R.make (.ok (.non, o)) xb k = k o := id rfl
@[simp] theorem make_ex (x : Exn) (u : Unit) (xb : β) (k : D → R β γ) : R.make (.ex x u) xb k = .ex x xb := id rfl
@[simp] theorem lft_some (a : α) (k : α → R β γ) : R.lft (some a) k = k a := id rfl
@[simp] theorem asB_bl (b : Bool) (k : Bool → R β γ) : R.asB (.bl b) k = k b := id rfl
@[simp] theorem asI_int (i : Int) (k : Int → R β γ) : R.asI (.int i) k = k i := id rfl
@[simp] theorem asL_lst (ds : List D) (k : List D → R β γ) : R.asL (.lst ds) k = k ds := id rfl
@[simp] theorem asQ_lst (ds : List D) (k : List D → R β γ) : R.asQ (.lst ds) k = k ds := id rfl
@[simp] theorem asQ_tup (ds : List D) (k : List D → R β γ) : R.asQ (.tup ds) k = k ds := id rfl
@[simp] theorem asS_str (z : Str) (k : Str → R β γ) : R.asS (.str z) k = k z := id rfl
@[simp] theorem items_lst (ds : List D) (k : List D → R β γ) : R.items (.lst ds) k = k ds := id rfl
@[simp] theorem items_tup (ds : List D) (k : List D → R β γ) : R.items (.tup ds) k = k ds := id rfl
@[simp] theorem tup2_tup (x y : D) (k : D → D → R β γ) : R.tup2 (.tup [x, y]) k = k x y := id rfl
@[simp] theorem tup2_lst (x y : D) (k : D → D → R β γ) : R.tup2 (.lst [x, y]) k = k x y := id rfl
@[simp] theorem join_eq (r : S → R β ω) (f : (S → R β ω) → R β ω) : R.join r f = f r := id rfl
@[simp] theorem bind2_ok (a : α) (w : D) (k : α → D → R β γ) : R.bind2 (.ok (a, w)) k = k a w := id rfl
@[simp] theorem after_nx (s : S) (k : S → R β ω) (kr : D → S → R β ω) : R.after (.ok (.nx s)) k kr = k s := id rfl
@[simp] theorem after_rt (d : D) (s : S) (k : S → R β ω) (kr : D → S → R β ω) : R.after (.ok (.rt d s)) k kr = kr d s := id rfl
@[simp] theorem turn_nx (s : S) (n : S → R β (Step S)) : R.turn (.ok (.nx s)) n = n s := id rfl
@[simp] theorem turn_bk (s : S) (n : S → R β (Step S)) : R.turn (.ok (.bk s)) n = .ok (.nx s) := id rfl
@[simp] theorem turn_rt (d : D) (s : S) (n : S → R β (Step S)) : R.turn (.ok (.rt d s)) n = .ok (.rt d s) := id rfl
@[simp] theorem for_nil (s : S) (f : D → S → R β (Step S)) : R.for' [] s f = .ok (.nx s) := id rfl
@[simp] theorem for_cons (d : D) (ds : List D) (s : S) (f : D → S → R β (Step S)) : R.for' (d :: ds) s f = R.turn (f d s) fun s' => R.for' ds s' f := id rfl
@[simp] theorem lst_ok (ys : List D) (s : S) (k : D → S → R β γ) : R.lst (.ok (ys, s)) k = k (.lst ys) s := id rfl
@[simp] theorem prop_ok (a : α) (k : α → R β γ) : R.prop (.ok a) k = k a := id rfl
theorem szl : sizeLine = 16777216 := sizeLine_eq
@[simp] theorem few_eq (ds : List D) (k : List D → R β γ) : R.few ds k = if ds.length ≤ 16777216 then k ds else .no := by
  unfold R.few DM.few
  rw [szl]
  by_cases h : ds.length ≤ 16777216 <;> simp [h]
theorem few0 (k' : List D → R β γ) : R.few [] k' = k' [] := by rw [few_eq, if_pos (by simp only [List.length_cons, List.length_nil]; omega)]
theorem few1 (a : D) (k' : List D → R β γ) : R.few [a] k' = k' [a] := by rw [few_eq, if_pos (by simp only [List.length_cons, List.length_nil]; omega)]
theorem few2 (a b : D) (k' : List D → R β γ) : R.few [a, b] k' = k' [a, b] := by rw [few_eq, if_pos (by simp only [List.length_cons, List.length_nil]; omega)]
theorem few3 (a b c : D) (k' : List D → R β γ) : R.few [a, b, c] k' = k' [a, b, c] := by rw [few_eq, if_pos (by simp only [List.length_cons, List.length_nil]; omega)]
theorem few4 (a b c d : D) (k' : List D → R β γ) : R.few [a, b, c, d] k' = k' [a, b, c, d] := by rw [few_eq, if_pos (by simp only [List.length_cons, List.length_nil]; omega)]
theorem few5 (a b c d e : D) (k' : List D → R β γ) : R.few [a, b, c, d, e] k' = k' [a, b, c, d, e] := by rw [few_eq, if_pos (by simp only [List.length_cons, List.length_nil]; omega)]
theorem few6 (a b c d e f : D) (k' : List D → R β γ) : R.few [a, b, c, d, e, f] k' = k' [a, b, c, d, e, f] := by rw [few_eq, if_pos (by simp only [List.length_cons, List.length_nil]; omega)]
theorem few7 (a b c d e f g : D) (k' : List D → R β γ) : R.few [a, b, c, d, e, f, g] k' = k' [a, b, c, d, e, f, g] := by rw [few_eq, if_pos (by simp only [List.length_cons, List.length_nil]; omega)]
theorem few8 (a b c d e f g h : D) (k' : List D → R β γ) : R.few [a, b, c, d, e, f, g, h] k' = k' [a, b, c, d, e, f, g, h] := by rw [few_eq, if_pos (by simp only [List.length_cons, List.length_nil]; omega)]
theorem few9 (a b c d e f g h i : D) (k' : List D → R β γ) : R.few [a, b, c, d, e, f, g, h, i] k' = k' [a, b, c, d, e, f, g, h, i] := by rw [few_eq, if_pos (by simp only [List.length_cons, List.length_nil]; omega)]
theorem few10 (a b c d e f g h i j : D) (k' : List D → R β γ) : R.few [a, b, c, d, e, f, g, h, i, j] k' = k' [a, b, c, d, e, f, g, h, i, j] := by rw [few_eq, if_pos (by simp only [List.length_cons, List.length_nil]; omega)]
theorem few11 (a b c d e f g h i j k : D) (k' : List D → R β γ) : R.few [a, b, c, d, e, f, g, h, i, j, k] k' = k' [a, b, c, d, e, f, g, h, i, j, k] := by rw [few_eq, if_pos (by simp only [List.length_cons, List.length_nil]; omega)]
theorem few12 (a b c d e f g h i j k l : D) (k' : List D → R β γ) : R.few [a, b, c, d, e, f, g, h, i, j, k, l] k' = k' [a, b, c, d, e, f, g, h, i, j, k, l] := by rw [few_eq, if_pos (by simp only [List.length_cons, List.length_nil]; omega)]
theorem few13 (a b c d e f g h i j k l m : D) (k' : List D → R β γ) : R.few [a, b, c, d, e, f, g, h, i, j, k, l, m] k' = k' [a, b, c, d, e, f, g, h, i, j, k, l, m] := by rw [few_eq, if_pos (by simp only [List.length_cons, List.length_nil]; omega)]
theorem few14 (a b c d e f g h i j k l m n : D) (k' : List D → R β γ) : R.few [a, b, c, d, e, f, g, h, i, j, k, l, m, n] k' = k' [a, b, c, d, e, f, g, h, i, j, k, l, m, n] := by rw [few_eq, if_pos (by simp only [List.length_cons, List.length_nil]; omega)]
@[simp] theorem push_eq (ds : List D) (y : D) (k : D → R β ω) : R.push ds y k = if ds.length < 16777216 then k (.lst (ds ++ [y])) else .no := by
  unfold R.push
  rw [szl]
@[simp] theorem fld_obj (cs : Str → Bool) (f C : Str) (gs : List (Str × D)) (k : D → R β γ) : R.fld cs f (.obj C gs) k = if cs C then R.lft (gs.lookup f) k else .no := id rfl
@[simp] theorem meth_obj (mt : Str → Option (List D → R Unit D)) (m C : Str) (gs : List (Str × D)) (k : (List D → R Unit D) → R β γ) : R.meth mt m (.obj C gs) k = if (gs.lookup m).isNone then R.lft (mt C) k else .no := id rfl
/-! conditionals -/
@[simp] theorem ite_ok (c : Prop) [Decidable c] (x y : α) : (if c then (R.ok x : R β α) else R.ok y) = R.ok (if c then x else y) := by split <;> rfl
@[simp] theorem ite_bl (c : Prop) [Decidable c] (x y : Bool) : (if c then D.bl x else D.bl y) = D.bl (if c then x else y) := by split <;> rfl
@[simp] theorem ite_int (c : Prop) [Decidable c] (x y : Int) : (if c then D.int x else D.int y) = D.int (if c then x else y) := by split <;> rfl
/-! operators -/
@[simp] theorem eq_str (a b : Str) : eqG (.str a) (.str b) = some (.bl (decide (a = b))) := id rfl
@[simp] theorem eq_int (a b : Int) : eqG (.int a) (.int b) = some (.bl (decide (a = b))) := id rfl
@[simp] theorem eq_bl (a b : Bool) : eqG (.bl a) (.bl b) = some (.bl (decide (a = b))) := id rfl
@[simp] theorem ne_str (a b : Str) : neG (.str a) (.str b) = some (.bl (!decide (a = b))) := id rfl
@[simp] theorem ne_int (a b : Int) : neG (.int a) (.int b) = some (.bl (!decide (a = b))) := id rfl
@[simp] theorem ne_bl (a b : Bool) : neG (.bl a) (.bl b) = some (.bl (!decide (a = b))) := id rfl
@[simp] theorem add_int (a b : Int) : addA (.int a) (.int b) = some (.int (a + b)) := id rfl
@[simp] theorem add_lst (a b : List D) : addA (.lst a) (.lst b) = if a.length + b.length ≤ 16777216 then some (.lst (a ++ b)) else none := by
  rw [← szl]; rfl
@[simp] theorem cat_lst (a b : List D) : catLG (.lst a) (.lst b) = if a.length + b.length ≤ 16777216 then some (.lst (a ++ b)) else none := by
  rw [← szl]; rfl
@[simp] theorem sub_int (a b : Int) : subG (.int a) (.int b) = some (.int (a - b)) := id rfl
@[simp] theorem lt_int (a b : Int) : ltG (.int a) (.int b) = some (.bl (decide (a < b))) := id rfl
@[simp] theorem le_int (a b : Int) : leG (.int a) (.int b) = some (.bl (decide (a ≤ b))) := id rfl
@[simp] theorem gt_int (a b : Int) : gtG (.int a) (.int b) = some (.bl (decide (b < a))) := id rfl
@[simp] theorem ge_int (a b : Int) : geG (.int a) (.int b) = some (.bl (decide (b ≤ a))) := id rfl
@[simp] theorem max_int (a b : Int) : max2G [.int a, .int b] = some (.int (if b > a then b else a)) := id rfl
@[simp] theorem min_int (a b : Int) : min2G [.int a, .int b] = some (.int (if b < a then b else a)) := id rfl
@[simp] theorem int_int (a : Int) : intG1 [.int a] = some (.int a) := id rfl
@[simp] theorem int_bl (b : Bool) : intG1 [.bl b] = some (.int (if b then 1 else 0)) := id rfl
@[simp] theorem len_lst (ds : List D) : lenG [.lst ds] = some (.int ds.length) := id rfl
@[simp] theorem len_tup (ds : List D) : lenG [.tup ds] = some (.int ds.length) := id rfl
@[simp] theorem list_lst (ds : List D) : listG [.lst ds] = some (.lst ds) := id rfl
@[simp] theorem list_tup (ds : List D) : listG [.tup ds] = some (.lst ds) := id rfl
@[simp] theorem sl_lst (ds : List D) (lo hi : Option Int) : slG (.lst ds) lo hi = some (.lst (cutD ds lo hi)) := id rfl
@[simp] theorem sl_tup (ds : List D) (lo hi : Option Int) : slG (.tup ds) lo hi = some (.tup (cutD ds lo hi)) := id rfl
@[simp] theorem ix_lst (ds : List D) (i : Int) : ixG (.lst ds) (.int i) = atI ds i := id rfl
@[simp] theorem ix_tup (ds : List D) (i : Int) : ixG (.tup ds) (.int i) = atI ds i := id rfl
@[simp] theorem isi_str (z : Str) : isiG [.str z, .ty "str"] = some (.bl true) := id rfl
@[simp] theorem notN_non : notNG .non .non = some (.bl false) := id rfl
theorem at_nat {α : Type} {xs : List α} {i : Nat} {x : α} (h : xs[i]? = some x) : atI xs (i : Int) = some x := by
  have hl : i < xs.length := by
    rcases List.getElem?_eq_some_iff.mp h with ⟨h, _⟩; exact h
  unfold atI ixN
  rw [if_pos (by omega), if_pos (by omega)]
  simp [h]
theorem at_int {α : Type} {xs : List α} {i : Int} (h0 : 0 ≤ i) (h1 : i < xs.length) : ∃ x, atI xs i = some x ∧ x ∈ xs := by
  obtain ⟨n, rfl⟩ : ∃ n : Nat, i = n := ⟨i.toNat, by omega⟩
  have hn : n < xs.length := by omega
  exact ⟨xs[n], at_nat (List.getElem?_eq_getElem hn), List.getElem_mem hn⟩
theorem cut_lo {α : Type} (xs : List α) (n : Nat) : cutD xs none (some (n : Int)) = xs.take n := by
  unfold cutD
  rw [HT.sIx_nat, HT.sIx_none]
  simp only [List.drop_zero, Nat.sub_zero]
  rcases Nat.le_total n xs.length with h | h
  · rw [Nat.min_eq_left h]
  · rw [Nat.min_eq_right h, List.take_length, List.take_of_length_le h]
theorem cut_hi {α : Type} (xs : List α) (n : Nat) : cutD xs (some (n : Int)) none = xs.drop n := by
  unfold cutD
  rw [HT.sIx_nat, HT.sIx_none]
  rcases Nat.le_total n xs.length with h | h
  · rw [Nat.min_eq_left h, List.take_of_length_le (by rw [List.length_drop]; omega)]
  · rw [Nat.min_eq_right h, List.drop_length, List.drop_of_length_le h]; simp
theorem cut_mid {α : Type} (xs : List α) (n m : Nat) : cutD xs (some (n : Int)) (some (m : Int)) = (xs.take m).drop n := by
  unfold cutD
  rw [HT.sIx_nat, HT.sIx_nat, List.drop_take]
  rcases Nat.le_total n xs.length with h | h
  · rw [Nat.min_eq_left h]
    rcases Nat.le_total m xs.length with h' | h'
    · rw [Nat.min_eq_left h']
    · rw [Nat.min_eq_right h', List.take_of_length_le (by rw [List.length_drop]; omega), List.take_of_length_le (by rw [List.length_drop]; omega)]
  · rw [Nat.min_eq_right h, List.drop_length, List.drop_of_length_le h]; simp
/-! loops, comprehensions -/
theorem fmapS_ok {f : D → Unit → R Unit (Option D × Unit)} {g : D → Option D} : ∀ {xs : List D}, (∀ d ∈ xs, f d () = .ok (g d, ())) → R.fmapS f xs () = .ok (xs.filterMap g, ())
  | [], _ => rfl
  | d :: ds, h => by
    unfold R.fmapS
    rw [h d List.mem_cons_self]
    simp only
    rw [fmapS_ok fun x hx => h x (List.mem_cons_of_mem _ hx)]
    simp only [List.filterMap_cons]
    cases g d <;> rfl
theorem for_inv {I : S → Prop} {f : D → S → R β (Step S)} : ∀ {ds : List D} {s : S}, I s → (∀ d ∈ ds, ∀ s, I s → ∃ s', f d s = .ok (.nx s') ∧ I s') → ∃ s', R.for' ds s f = .ok (.nx s') ∧ I s'
  | [], s, h, _ => ⟨s, rfl, h⟩
  | d :: ds, s, h, hf => by
    obtain ⟨s1, e, h1⟩ := hf d List.mem_cons_self s h
    rw [for_cons, e, turn_nx]
    exact for_inv h1 fun x hx => hf x (List.mem_cons_of_mem _ hx)
/-- every turn goes on -/
theorem for_unit {f : D → Unit → R β (Step Unit)} : ∀ {ds : List D}, (∀ d ∈ ds, f d () = .ok (.nx ())) → R.for' ds () f = .ok (.nx ())
  | [], _ => rfl
  | d :: ds, h => by
    rw [for_cons, h d List.mem_cons_self, turn_nx]
    exact for_unit fun x hx => h x (List.mem_cons_of_mem _ hx)
theorem enumA_lst (ds : List D) (k : List D → R β γ) : R.enumA (.lst ds) k = k (enumD ds) := rfl
theorem enumA_tup (ds : List D) (k : List D → R β γ) : R.enumA (.tup ds) k = k (enumD ds) := rfl
theorem enum_mem {ds : List D} {d : D} (h : d ∈ enumD ds) : ∃ (i : Nat) (x : D), ds[i]? = some x ∧ d = .tup [.int i, x] := by
  unfold enumD at h
  obtain ⟨i, hi, rfl⟩ := List.getElem_of_mem h
  simp only [List.getElem_zipWith, List.getElem_range]
  simp only [List.length_zipWith, List.length_range] at hi
  exact ⟨i, ds[i]'(by omega), List.getElem?_eq_getElem _, rfl⟩
end
end PL

/-! The numbers that a law draws. -/
namespace PL
open PySem L2 DM
def m_numbers : List D → R Unit D
  | [a0, a1, a2] => R.asI (.int 1) fun x3 => R.lft (subG (.int (-x3)) a0) fun x4 => R.lft (max2G [a0, x4]) fun x5 => R.few [] fun l6 => R.lft (lenG [a2]) fun x7 => R.rng1 x7 fun l8 => R.after (R.for' l8 ((x5, (.lst l6)) : D × D) fun d9 s10 => R.bind (R.lft (powG (.int 10) (.int 18)) fun x11 => R.lft (geG x5 x11) fun x12 => R.asB x12 fun b13 => if b13 then R.lft (gtG s10.1 (.int 0)) fun x14 => R.asB x14 fun b15 => R.ok b15 else R.ok false) fun b16 => if b16 then R.asL s10.2 fun l17 => R.lft (ixG a2 d9) fun x18 => R.lft (modG s10.1 x18) fun x19 => R.push l17 x19 fun x20 => R.lft (ixG a2 d9) fun x21 => R.lft (divG s10.1 x21) fun x22 => R.ok (Step.nx ((x22, x20) : D × D)) else R.lft (modG x5 (.int 2147483629)) fun x23 => R.lft (mulG (.int 7919) a1) fun x24 => R.lft (addA x23 x24) fun x25 => R.lft (addA x25 (.int 1)) fun x26 => R.lft (powG x26 (.int 3)) fun x27 => R.lft (modG x27 (.int 2147483647)) fun x28 => R.lft (addA d9 (.int 1)) fun x29 => R.lft (mulG (.int 104729) x29) fun x30 => R.lft (addA x28 x30) fun x31 => R.lft (addA d9 (.int 3)) fun x32 => R.lft (mulG x31 x32) fun x33 => R.lft (modG x33 (.int 2147483629)) fun x34 => R.lft (powG x34 (.int 5)) fun x35 => R.lft (modG x35 (.int 2147483647)) fun x36 => R.lft (mulG x36 (.int 48271)) fun x37 => R.lft (modG x37 (.int 2147483629)) fun x38 => R.asL s10.2 fun l39 => R.lft (divG x38 (.int 16)) fun x40 => R.lft (ixG a2 d9) fun x41 => R.lft (modG x40 x41) fun x42 => R.push l39 x42 fun x43 => R.ok (Step.nx ((s10.1, x43) : D × D))) (fun s44 => R.ok s44.2) fun d45 s46 => R.ok d45
  | _ => .no
def m_pool : List D → R Unit D
  | [a0, a1, a2] => R.few [(.int 420)] fun l3 => R.lft (repG (.lst l3) a2) fun x4 => R.call (m_numbers [a0, a1, x4]) () fun x5 => R.few [x5, (.int 0)] fun l6 => R.ok (.lst l6)
  | _ => .no
def m_draw : List D → R Unit (D × D)
  | [a0, a1] => R.lft (ixG a0 (.int 1)) fun x2 => R.asL a0 fun l3 => R.lft (addA x2 (.int 1)) fun x4 => R.setAt l3 (.int 1) x4 fun x5 => R.bind (R.lft (ixG x5 (.int 0)) fun x6 => R.lft (lenG [x6]) fun x7 => R.lft (ltG x2 x7) fun x8 => R.asB x8 fun b9 => if b9 then R.lft (ixG x5 (.int 0)) fun x10 => R.lft (ixG x10 x2) fun x11 => R.lft (intG1 [x11]) fun x12 => R.lft (modG x12 a1) fun x13 => R.ok x13 else R.ok (.int 0)) fun x14 => R.ok (x14, x5)
  | _ => .no
def m_pick : List D → R Unit (D × D)
  | [a0, a1] => R.lft (lenG [a1]) fun x2 => R.call1e (m_draw [a0, x2]) () fun x3 w4 => R.lft (ixG a1 x3) fun x5 => R.ok (x5, w4)
  | _ => .no

theorem mod_int {a b : Int} (h : 0 < b) : modG (.int a) (.int b) = some (.int (a % b)) := by
  show (if cMod a b then _ else _) = _
  rw [if_pos (by simp [cMod, h])]
theorem div_int {a b : Int} (h : 0 < b ∧ b < 1073741824) : divG (.int a) (.int b) = some (.int (a / b)) := by
  show (if cDiv a b then _ else _) = _
  rw [if_pos (by simp [cDiv, h])]
theorem mul_int {a b : Int} (h : (-(2 ^ 64) < a ∧ a < 2 ^ 64) ∨ (-(2 ^ 64) < b ∧ b < 2 ^ 64)) : mulG (.int a) (.int b) = some (.int (a * b)) := by
  show (if cMul a b then _ else _) = _
  rw [if_pos (by unfold cMul; rcases h with h | h <;> simp only [h, and_self, decide_true, Bool.true_or, Bool.or_true])]
theorem pow_int {a b : Int} (h : 0 ≤ b ∧ b ≤ 1000000 ∧ a.natAbs < 2 ^ 64) : powG (.int a) (.int b) = some (.int (a ^ b.toNat)) := by
  show (if cPow a b then _ else _) = _
  rw [if_pos (by unfold cPow; exact decide_eq_true h)]
section
variable {β γ S : Type}
theorem for_ix {I : Nat → S → Prop} {f : D → S → R β (Step S)} : ∀ {ds : List D} {s : S} (n : Nat), I n s → (∀ i d, ds[i]? = some d → ∀ s, I (n + i) s → ∃ s', f d s = .ok (.nx s') ∧ I (n + i + 1) s') → ∃ s', R.for' ds s f = .ok (.nx s') ∧ I (n + ds.length) s'
  | [], s, n, h, _ => ⟨s, rfl, h⟩
  | d :: ds, s, n, h, hf => by
    obtain ⟨s1, e, h1⟩ := hf 0 d rfl s h
    rw [for_cons, e, turn_nx]
    obtain ⟨s2, e2, h2⟩ := for_ix (ds := ds) (n + 1) h1 fun i x hx s hs => by
      have := hf (i + 1) x (by simpa using hx) s (by rw [show n + (i + 1) = n + 1 + i by omega]; exact hs)
      rw [show n + (i + 1) + 1 = n + 1 + i + 1 by omega] at this
      exact this
    exact ⟨s2, e2, by rw [List.length_cons, show n + (ds.length + 1) = n + 1 + ds.length by omega]; exact h2⟩
theorem rng_get {n i : Nat} {d : D} (h : (rngD 0 n)[i]? = some d) : i < n ∧ d = .int i := by
  unfold rngD at h
  rw [List.getElem?_map] at h
  cases q : (List.range n)[i]? with
  | none => rw [q] at h; cases h
  | some j =>
    rw [q] at h
    obtain ⟨hj, e⟩ := List.getElem?_eq_some_iff.mp q
    rw [List.getElem_range] at e
    rw [List.length_range] at hj
    subst e
    cases h
    exact ⟨hj, by simp⟩
theorem rng1_nat (n : Nat) (h : n ≤ 16777216) (k : List D → R β γ) : R.rng1 (.int n) k = k (rngD 0 n) := by
  unfold R.rng1
  simp only
  split
  · rw [Int.toNat_natCast]
  · rename_i q
    exact absurd ⟨by omega, by omega⟩ q
end
theorem get_map_int {zs : List Int} {i : Nat} {z : Int} (h : zs[i]? = some z) : atI (zs.map D.int) (i : Int) = some (.int z) := at_nat (by rw [List.getElem?_map, h]; rfl)
def Below (ns zs : List Int) (i : Nat) : Prop := ns.length = i ∧ ∀ (k : Nat) (v : Int), ns[k]? = some v → ∃ z : Int, zs[k]? = some z ∧ 0 ≤ v ∧ v < z
theorem Below.push {ns zs : List Int} {i : Nat} {z v : Int} (h : Below ns zs i) (hz : zs[i]? = some z) (h0 : 0 ≤ v) (h1 : v < z) : Below (ns ++ [v]) zs (i + 1) := by
  refine ⟨by rw [List.length_append, h.1]; rfl, fun k u hu => ?_⟩
  rw [List.getElem?_append] at hu
  split at hu
  · exact h.2 k u hu
  · rename_i hk
    have : k - ns.length = 0 := by
      rcases Nat.eq_zero_or_pos (k - ns.length) with q | q
      · exact q
      · rw [List.getElem?_eq_none (by simp only [List.length_singleton]; omega)] at hu; cases hu
    rw [this] at hu
    cases hu
    have : k = i := by have := h.1; omega
    subst this
    exact ⟨z, hz, h0, h1⟩
def turnN (whole salt : Int) (zs : List D) : D → D × D → R Unit (Step (D × D)) := fun d9 s10 => R.bind (R.lft (powG (.int 10) (.int 18)) fun x11 => R.lft (geG (.int whole) x11) fun x12 => R.asB x12 fun b13 => if b13 then R.lft (gtG s10.1 (.int 0)) fun x14 => R.asB x14 fun b15 => R.ok b15 else R.ok false) fun b16 => if b16 then R.asL s10.2 fun l17 => R.lft (ixG (.lst zs) d9) fun x18 => R.lft (modG s10.1 x18) fun x19 => R.push l17 x19 fun x20 => R.lft (ixG (.lst zs) d9) fun x21 => R.lft (divG s10.1 x21) fun x22 => R.ok (Step.nx ((x22, x20) : D × D)) else R.lft (modG (.int whole) (.int 2147483629)) fun x23 => R.lft (mulG (.int 7919) (.int salt)) fun x24 => R.lft (addA x23 x24) fun x25 => R.lft (addA x25 (.int 1)) fun x26 => R.lft (powG x26 (.int 3)) fun x27 => R.lft (modG x27 (.int 2147483647)) fun x28 => R.lft (addA d9 (.int 1)) fun x29 => R.lft (mulG (.int 104729) x29) fun x30 => R.lft (addA x28 x30) fun x31 => R.lft (addA d9 (.int 3)) fun x32 => R.lft (mulG x31 x32) fun x33 => R.lft (modG x33 (.int 2147483629)) fun x34 => R.lft (powG x34 (.int 5)) fun x35 => R.lft (modG x35 (.int 2147483647)) fun x36 => R.lft (mulG x36 (.int 48271)) fun x37 => R.lft (modG x37 (.int 2147483629)) fun x38 => R.asL s10.2 fun l39 => R.lft (divG x38 (.int 16)) fun x40 => R.lft (ixG (.lst zs) d9) fun x41 => R.lft (modG x40 x41) fun x42 => R.push l39 x42 fun x43 => R.ok (Step.nx ((s10.1, x43) : D × D))
theorem lftB {α γ : Type} {m : Option α} {a : α} {k : α → R Unit γ} {Q : R Unit γ → Prop} (h : m = some a) (q : Q (k a)) : Q (R.lft m k) := by rw [h]; exact q
theorem turnN_ok (whole salt : Int) (zs ns : List Int) (left : Int) (i : Nat) (hs : 0 ≤ salt ∧ salt ≤ 1000000000) (hi : i < 1000000) (hb : Below ns zs i) (z : Int) (hzi : zs[i]? = some z) (z0 : 0 < z) (z1 : z < 1073741824) : ∃ s', turnN whole salt (zs.map .int) (.int i) (.int left, .lst (ns.map .int)) = .ok (.nx s') ∧ ∃ (left : Int) (ns : List Int), s' = (.int left, .lst (ns.map .int)) ∧ Below ns zs (i + 1) := by
  have hn : (ns.map D.int).length < 16777216 := by rw [List.length_map]; have := hb.1; omega
  unfold turnN
  rw [pow_int ⟨by omega, by omega, by omega⟩, lft_some, ge_int, lft_some, asB_bl]
  generalize decide ((10 : Int) ^ (18 : Int).toNat ≤ whole) = b
  have e1 : (if b = true then R.lft (gtG (D.int left) (.int 0)) fun x14 => R.asB x14 fun b15 => R.ok b15 else R.ok false : R Unit Bool) = R.ok (b && decide (0 < left)) := by
    cases b <;> rfl
  show ∃ s', R.bind (if b = true then R.lft (gtG (D.int left) (.int 0)) fun x14 => R.asB x14 fun b15 => R.ok b15 else R.ok false) _ = _ ∧ _
  rw [e1, bind_ok]
  generalize (b && decide (0 < left)) = c
  cases c
  · rw [if_neg (by simp)]
    have a1 : 0 ≤ whole % 2147483629 ∧ whole % 2147483629 < 2147483629 := ⟨Int.emod_nonneg _ (by omega), Int.emod_lt_of_pos _ (by omega)⟩
    rw [mod_int (by omega), lft_some]
    generalize whole % 2147483629 = v0 at a1
    rw [mul_int (Or.inl (by omega)), lft_some, add_int, lft_some, add_int, lft_some, pow_int (by omega), lft_some]
    generalize (v0 + 7919 * salt + 1) ^ (3 : Int).toNat = v1
    rw [mod_int (by omega), lft_some]
    generalize v1 % 2147483647 = v2
    rw [add_int, lft_some, mul_int (Or.inl (by omega)), lft_some, add_int, lft_some, add_int, lft_some, mul_int (Or.inr (by omega)), lft_some]
    generalize (v2 + 104729 * ((i : Int) + 1)) * ((i : Int) + 3) = v3
    have a2 : 0 ≤ v3 % 2147483629 ∧ v3 % 2147483629 < 2147483629 := ⟨Int.emod_nonneg _ (by omega), Int.emod_lt_of_pos _ (by omega)⟩
    rw [mod_int (by omega), lft_some]
    generalize v3 % 2147483629 = v4 at a2
    rw [pow_int (by omega), lft_some]
    generalize v4 ^ (5 : Int).toNat = v5
    rw [mod_int (by omega), lft_some, mul_int (Or.inr (by omega)), lft_some, mod_int (by omega), lft_some, asL_lst, div_int (by omega), lft_some, ix_lst, get_map_int hzi, lft_some, mod_int z0, lft_some, push_eq, if_pos hn]
    generalize v5 % 2147483647 * 48271 % 2147483629 / 16 = v6
    exact ⟨_, rfl, left, ns ++ [v6 % z], by rw [List.map_append]; rfl, hb.push hzi (Int.emod_nonneg _ (by omega)) (Int.emod_lt_of_pos _ z0)⟩
  · rw [if_pos rfl, asL_lst, ix_lst, get_map_int hzi, lft_some, mod_int z0, lft_some, push_eq, if_pos hn, lft_some, div_int (And.intro z0 z1), lft_some]
    exact ⟨_, rfl, left / z, ns ++ [left % z], by rw [List.map_append]; rfl, hb.push hzi (Int.emod_nonneg _ (by omega)) (Int.emod_lt_of_pos _ z0)⟩
theorem numbers_eq (c salt : Int) (zs : List Int) (hl : zs.length ≤ 1000000) : m_numbers [.int c, .int salt, .lst (zs.map .int)] = R.after (R.for' (rngD 0 zs.length) ((.int (if -1 - c > c then -1 - c else c), .lst []) : D × D) (turnN (if -1 - c > c then -1 - c else c) salt (zs.map .int))) (fun s => R.ok s.2) fun d s => R.ok d := by
  unfold m_numbers
  simp only [asI_int, sub_int, lft_some, max_int, len_lst, List.length_map]
  rw [few_eq, if_pos (by simp), rng1_nat _ (by omega)]
  rfl
theorem numbers_ok (c salt : Int) (zs : List Int) (hs : 0 ≤ salt ∧ salt ≤ 1000000000) (hl : zs.length ≤ 1000000) (hz : ∀ z ∈ zs, 0 < z ∧ z < 1073741824) : ∃ ns : List Int, m_numbers [.int c, .int salt, .lst (zs.map .int)] = .ok (.lst (ns.map .int)) ∧ Below ns zs zs.length := by
  rw [numbers_eq c salt zs hl]
  generalize (if -1 - c > c then -1 - c else c) = whole
  obtain ⟨s', e, left, ns, rfl, hb⟩ := for_ix (I := fun i (s : D × D) => ∃ (left : Int) (ns : List Int), s = (.int left, .lst (ns.map .int)) ∧ Below ns zs i) (ds := rngD 0 zs.length) (s := ((.int whole, .lst []) : D × D)) (f := turnN whole salt (zs.map .int)) 0 ⟨whole, [], rfl, rfl, fun k v h => by cases h⟩ (fun i d hd s ⟨left, ns, es, hb⟩ => by
    subst es
    obtain ⟨hi, rfl⟩ := rng_get hd
    rw [Nat.zero_add] at hb ⊢
    obtain ⟨z, hzi⟩ : ∃ z, zs[i]? = some z := ⟨_, List.getElem?_eq_getElem hi⟩
    obtain ⟨z0, z1⟩ := hz z (List.mem_of_getElem? hzi)
    exact turnN_ok whole salt zs ns left i hs (by omega) hb z hzi z0 z1)
  refine ⟨ns, ?_, by rw [show 0 + (rngD 0 zs.length).length = zs.length by simp [rngD]] at hb; exact hb⟩
  rw [e]
  rfl
/-- a pool of numbers -/
def Pool (d : D) : Prop := ∃ (ns : List Int) (i : Nat), d = .lst [.lst (ns.map .int), .int i]
theorem pool_ok (c salt : Int) (m : Nat) (hs : 0 ≤ salt ∧ salt ≤ 1000000000) (hm : m ≤ 1000000) : ∃ p, m_pool [.int c, .int salt, .int m] = .ok p ∧ Pool p := by
  unfold m_pool
  have e : (List.replicate (m : Int).toNat [D.int 420]).flatten = (List.replicate m (420 : Int)).map D.int := by
    rw [Int.toNat_natCast]
    induction m with
    | zero => rfl
    | succ n ih => rw [List.replicate_succ, List.flatten_cons, ih (by omega)]; rfl
  have r : repG (.lst [.int 420]) (.int m) = some (.lst ((List.replicate m (420 : Int)).map D.int)) := by
    unfold repG
    simp only
    rw [if_pos (by refine ⟨by omega, by omega, ?_⟩; rw [szl]; simp; omega), e]
  obtain ⟨ns, e2, _⟩ := numbers_ok c salt (List.replicate m 420) hs (by rw [List.length_replicate]; exact hm) (fun z hz => by rw [List.eq_of_mem_replicate hz]; omega)
  simp only
  rw [few_eq, if_pos (by simp), r, lft_some, e2, call_ok, few_eq, if_pos (by simp)]
  exact ⟨_, rfl, ns, 0, rfl⟩
theorem draw_ok {p : D} {m : Int} (hp : Pool p) (hm : 0 < m) : ∃ (v : Nat) (p' : D), m_draw [p, .int m] = .ok (.int v, p') ∧ (v : Int) < m ∧ Pool p' := by
  obtain ⟨ns, i, rfl⟩ := hp
  have hp' : Pool (.lst [.lst (ns.map .int), .int ((i : Int) + 1)]) := ⟨ns, i + 1, rfl⟩
  unfold m_draw
  have x1 : ixG (.lst [.lst (ns.map .int), .int i]) (.int 1) = some (.int i) := rfl
  have x0 : ∀ y, ixG (.lst [.lst (ns.map .int), y]) (.int 0) = some (.lst (ns.map .int)) := fun _ => rfl
  have xs : ∀ (y : D) (k : D → R Unit (D × D)), R.setAt [.lst (ns.map .int), .int i] (.int 1) y k = k (.lst [.lst (ns.map .int), y]) := fun _ _ => rfl
  simp only [x1, lft_some, asL_lst, add_int, xs, x0, len_lst, lt_int, asB_bl]
  by_cases h : (i : Int) < ((ns.map D.int).length : Nat)
  · rw [decide_eq_true h, if_pos rfl]
    have hi : i < ns.length := by rw [List.length_map] at h; omega
    rw [ix_lst, get_map_int (List.getElem?_eq_getElem hi), lft_some, int_int, lft_some, mod_int hm, lft_some, bind_ok]
    have h0 := Int.emod_nonneg ns[i] (show m ≠ 0 by omega)
    exact ⟨(ns[i] % m).toNat, _, by rw [Int.toNat_of_nonneg h0], by rw [Int.toNat_of_nonneg h0]; exact Int.emod_lt_of_pos _ hm, hp'⟩
  · rw [decide_eq_false h, if_neg (by simp), bind_ok]
    exact ⟨0, _, rfl, by simpa using hm, hp'⟩
theorem pick_ok {p : D} {xs : List D} (hp : Pool p) (hm : 0 < xs.length) : ∃ (x p' : D), m_pick [p, .lst xs] = .ok (x, p') ∧ x ∈ xs ∧ Pool p' := by
  unfold m_pick
  obtain ⟨v, p', e, hv, hp'⟩ := draw_ok (m := xs.length) hp (by omega)
  simp only [len_lst, lft_some, e, call1e_ok, ix_lst]
  obtain ⟨x, hx, hm⟩ := at_int (xs := xs) (i := v) (by omega) hv
  rw [hx, lft_some]
  exact ⟨x, p', rfl, hm, hp'⟩
end PL

/-! Things of a type of Lean's own as data: ==, in, index. -/
namespace PL
open PySem L2 DM
theorem pds_map {α : Type} (e : α → D) : ∀ xs : List α, pds (xs.map e) = xs.map fun x => pd (e x)
  | [] => by simp [pds]
  | x :: xs => by simp [pds, pds_map e xs]
theorem pds_eq : ∀ xs : List D, pds xs = xs.map pd
  | [] => by simp [pds]
  | x :: xs => by simp [pds, pds_eq xs]
theorem canLays {ds : List PyData} (h : ∀ d ∈ ds, d.canLay0 = true) : PyData.canLayAll0 ds = true := by
  induction ds with
  | nil => simp [PyData.canLayAll0]
  | cons d ds ih => simp only [PyData.canLayAll0, h d List.mem_cons_self, ih fun x hx => h x (List.mem_cons_of_mem _ hx), Bool.and_self]
theorem depths {ds : List PyData} {n : Nat} (h : ∀ d ∈ ds, d.depth ≤ n) : PyData.depthAll ds ≤ n := by
  induction ds with
  | nil => simp [PyData.depthAll]
  | cons d ds ih =>
    have h1 := h d List.mem_cons_self
    have h2 := ih fun x hx => h x (List.mem_cons_of_mem _ hx)
    simp only [PyData.depthAll]
    omega
theorem shp_of {d : D} (h : (pd d).canLay0 = true) (h2 : (pd d).depth ≤ 64) : shp d = true := by
  unfold shp SeqAt.shaped
  rw [h, decide_eq_true h2]; rfl
theorem eq_shp {a b : D} (ha : shp a = true) (hb : shp b = true) : eqG a b = some (.bl (PyData.eqv (pd a) (pd b))) := by
  have : (shp a && shp b) = true := by rw [ha, hb]; rfl
  cases a <;> cases b <;> first | (unfold eqG; simp only [this, if_true]; done) | (simp only [eqG, pd, PyData.eqv, Option.some.injEq, D.bl.injEq]; rw [Bool.eq_iff_iff]; simp)
theorem ne_shp {a b : D} (ha : shp a = true) (hb : shp b = true) : neG a b = some (.bl (!PyData.eqv (pd a) (pd b))) := by
  have : (shp a && shp b) = true := by rw [ha, hb]; rfl
  cases a <;> cases b <;> first | (unfold neG; simp only [this, if_true]; done) | (simp only [neG, pd, PyData.eqv, Option.some.injEq, D.bl.injEq]; rw [Bool.eq_iff_iff]; simp)
theorem eqF_eqv {a b : D} (ha : flat a = true) (hb : flat b = true) : eqF a b = PyData.eqv (pd a) (pd b) := by
  cases a <;> first | (simp [flat] at ha; done) | (cases b <;> first | (simp [flat] at hb; done) | simp [eqF, pd, PyData.eqv])
theorem inL_shp {d : D} {ds : List D} (hd : shp d = true) (hs : shp (.lst ds) = true) : inL d ds = some (ds.any fun y => PyData.eqv (pd y) (pd d)) := by
  have e2 : inP d ds = some (ds.any fun y => PyData.eqv (pd y) (pd d)) := by
    unfold inP
    rw [hd, hs, Bool.and_self, if_pos rfl, pds_eq, List.any_map]
    rfl
  unfold inL inF
  by_cases h : (flat d && ds.all flat) = true
  · rw [if_pos h]
    simp only
    rw [Bool.and_eq_true, List.all_eq_true] at h
    congr 1
    rw [Bool.eq_iff_iff, List.any_eq_true, List.any_eq_true]
    exact ⟨fun ⟨x, hx, e⟩ => ⟨x, hx, by rw [← eqF_eqv (h.2 x hx) h.1]; exact e⟩, fun ⟨x, hx, e⟩ => ⟨x, hx, by rw [eqF_eqv (h.2 x hx) h.1]; exact e⟩⟩
  · rw [if_neg h]
    exact e2
theorem in_lst {d : D} {ds : List D} : inA d (.lst ds) = (inL d ds).map .bl := by
  cases d <;> rfl
theorem in_tup {d : D} {ds : List D} : inA d (.tup ds) = (inL d ds).map .bl := by
  cases d <;> rfl
theorem notIn_lst {d : D} {ds : List D} : notInA d (.lst ds) = (inL d ds).map fun k => .bl (!k) := by
  cases d <;> rfl
theorem notIn_tup {d : D} {ds : List D} : notInA d (.tup ds) = (inL d ds).map fun k => .bl (!k) := by
  cases d <;> rfl
theorem shp_tl {ds : List D} : shp (.tup ds) = shp (.lst ds) := by
  unfold shp SeqAt.shaped
  simp only [pd, PyData.canLay0, PyData.depth]
/-- things of a type as data: n: how deep -/
structure Enc {α : Type} [DecidableEq α] (e : α → D) (n : Nat) : Prop where
  ok : ∀ a, (pd (e a)).canLay0 = true
  dep : ∀ a, (pd (e a)).depth ≤ n
  eq : ∀ a b, PyData.eqv (pd (e a)) (pd (e b)) = decide (a = b)
section
variable {α : Type} [DecidableEq α] {e : α → D} {n : Nat}
theorem Enc.up {m : Nat} (h : Enc e n) (hn : n ≤ m) : Enc e m := ⟨h.ok, fun a => Nat.le_trans (h.dep a) hn, h.eq⟩
theorem Enc.shp (h : Enc e n) (hn : n ≤ 64) (a : α) : shp (e a) = true := shp_of (h.ok a) (Nat.le_trans (h.dep a) hn)
theorem Enc.shpL (h : Enc e n) (hn : n < 64) (xs : List α) : DM.shp (.lst (xs.map e)) = true := by
  refine shp_of ?_ ?_
  · simp only [pd, PyData.canLay0, pds_map]
    exact canLays fun d hd => by obtain ⟨x, _, rfl⟩ := List.mem_map.mp hd; exact h.ok x
  · simp only [pd, PyData.depth, pds_map]
    have : PyData.depthAll (xs.map fun x => pd (e x)) ≤ n := depths fun d hd => by obtain ⟨x, _, rfl⟩ := List.mem_map.mp hd; exact h.dep x
    omega
theorem Enc.eqG (h : Enc e n) (hn : n ≤ 64) (a b : α) : eqG (e a) (e b) = some (.bl (decide (a = b))) := by rw [eq_shp (h.shp hn a) (h.shp hn b), h.eq]
theorem Enc.neG (h : Enc e n) (hn : n ≤ 64) (a b : α) : neG (e a) (e b) = some (.bl (!decide (a = b))) := by rw [ne_shp (h.shp hn a) (h.shp hn b), h.eq]
theorem Enc.any (h : Enc e n) (a : α) (xs : List α) : ((xs.map e).any fun y => PyData.eqv (pd y) (pd (e a))) = decide (a ∈ xs) := by
  rw [Bool.eq_iff_iff, List.any_map, List.any_eq_true, decide_eq_true_iff]
  constructor
  · rintro ⟨x, hx, q⟩
    simp only [Function.comp, h.eq, decide_eq_true_eq] at q
    exact q ▸ hx
  · intro hx
    exact ⟨a, hx, by simp only [Function.comp, h.eq, decide_true]⟩
theorem Enc.inL (h : Enc e n) (hn : n < 64) (a : α) (xs : List α) : inL (e a) (xs.map e) = some (decide (a ∈ xs)) := by
  rw [inL_shp (h.shp (by omega) a) (h.shpL hn xs), h.any]
theorem Enc.in_l (h : Enc e n) (hn : n < 64) (a : α) (xs : List α) : inA (e a) (.lst (xs.map e)) = some (.bl (decide (a ∈ xs))) := by rw [in_lst, h.inL hn]; rfl
theorem Enc.in_t (h : Enc e n) (hn : n < 64) (a : α) (xs : List α) : inA (e a) (.tup (xs.map e)) = some (.bl (decide (a ∈ xs))) := by rw [in_tup, h.inL hn]; rfl
theorem Enc.ni_l (h : Enc e n) (hn : n < 64) (a : α) (xs : List α) : notInA (e a) (.lst (xs.map e)) = some (.bl (!decide (a ∈ xs))) := by rw [notIn_lst, h.inL hn]; rfl
theorem Enc.ni_t (h : Enc e n) (hn : n < 64) (a : α) (xs : List α) : notInA (e a) (.tup (xs.map e)) = some (.bl (!decide (a ∈ xs))) := by rw [notIn_tup, h.inL hn]; rfl
theorem Enc.idx (h : Enc e n) (a : α) : ∀ xs : List α, idxD (e a) (xs.map e) = if a ∈ xs then some (xs.idxOf a) else none
  | [] => by simp [idxD, pds]
  | x :: xs => by
    have ih := h.idx a xs
    unfold idxD at ih ⊢
    rw [List.map_cons, pds, List.findIdx?_cons, h.eq]
    by_cases q : x = a
    · subst q
      simp
    · rw [decide_eq_false q, if_neg (by simp), ih]
      have qa : a ≠ x := Ne.symm q
      by_cases hm : a ∈ xs
      · rw [if_pos hm, if_pos (List.mem_cons_of_mem _ hm), List.idxOf_cons, show (x == a) = false by simpa using q]; rfl
      · rw [if_neg hm, if_neg (by simp [qa, hm])]; rfl
theorem Enc.idx_l (h : Enc e n) (hn : n < 64) {a : α} {xs : List α} (hm : a ∈ xs) : idxG (.lst (xs.map e)) [e a] = some (.int (xs.idxOf a)) := by
  unfold idxG
  simp only
  rw [h.shp (by omega), h.shpL hn, Bool.and_self, if_pos rfl, h.idx, if_pos hm]; rfl
theorem Enc.idx_t (h : Enc e n) (hn : n < 64) {a : α} {xs : List α} (hm : a ∈ xs) : idxG (.tup (xs.map e)) [e a] = some (.int (xs.idxOf a)) := by
  unfold idxG
  simp only
  rw [h.shp (by omega), shp_tl, h.shpL hn, Bool.and_self, if_pos rfl, h.idx, if_pos hm]; rfl
theorem eqvAll_map (h : Enc e n) : ∀ xs ys : List α, PyData.eqvAll (pds (xs.map e)) (pds (ys.map e)) = decide (xs = ys)
  | [], [] => by simp [pds, PyData.eqvAll]
  | [], y :: ys => by simp [pds, PyData.eqvAll]
  | x :: xs, [] => by simp [pds, PyData.eqvAll]
  | x :: xs, y :: ys => by
    rw [List.map_cons, List.map_cons, pds, pds, PyData.eqvAll, h.eq, eqvAll_map h xs ys, Bool.eq_iff_iff]
    simp
theorem Enc.lst (h : Enc e n) : Enc (fun xs : List α => D.lst (xs.map e)) (n + 1) where
  ok xs := by
    simp only [pd, PyData.canLay0, pds_map]
    exact canLays fun d hd => by obtain ⟨x, _, rfl⟩ := List.mem_map.mp hd; exact h.ok x
  dep xs := by
    simp only [pd, PyData.depth, pds_map]
    have : PyData.depthAll (xs.map fun x => pd (e x)) ≤ n := depths fun d hd => by obtain ⟨x, _, rfl⟩ := List.mem_map.mp hd; exact h.dep x
    omega
  eq a b := by rw [pd, pd, PyData.eqv, eqvAll_map h]
theorem Enc.tup (h : Enc e n) : Enc (fun xs : List α => D.tup (xs.map e)) (n + 1) where
  ok xs := by
    simp only [pd, PyData.canLay0, pds_map]
    exact canLays fun d hd => by obtain ⟨x, _, rfl⟩ := List.mem_map.mp hd; exact h.ok x
  dep xs := by
    simp only [pd, PyData.depth, pds_map]
    have : PyData.depthAll (xs.map fun x => pd (e x)) ≤ n := depths fun d hd => by obtain ⟨x, _, rfl⟩ := List.mem_map.mp hd; exact h.dep x
    omega
  eq a b := by rw [pd, pd, PyData.eqv, eqvAll_map h]
end
theorem enc_int : Enc D.int 0 := ⟨fun a => by simp [pd, PyData.canLay0], fun a => by simp [pd, PyData.depth], fun a b => by simp only [pd, PyData.eqv]; rw [Bool.eq_iff_iff]; simp⟩
theorem enc_bl : Enc D.bl 0 := ⟨fun a => by simp [pd, PyData.canLay0], fun a => by simp [pd, PyData.depth], fun a b => by simp only [pd, PyData.eqv]; rw [Bool.eq_iff_iff]; simp⟩
/-- words -/
theorem enc_word {α : Type} [DecidableEq α] {w : α → Str} (ok : ∀ a, PyData.strOk (w a) = true) (inj : ∀ a b, w a = w b → a = b) : Enc (fun a => D.str (w a)) 0 where
  ok a := by simp only [pd, PyData.canLay0]; exact ok a
  dep a := by simp [pd, PyData.depth]
  eq a b := by
    simp only [pd, PyData.eqv]
    rw [Bool.eq_iff_iff]
    simp only [beq_iff_eq, decide_eq_true_eq]
    exact ⟨inj a b, fun h => by rw [h]⟩
end PL

/-! What can be shown by repr; loops that end early; errors. -/
namespace PL
open PySem L2 DM
/-- plain data: depth m, a text of at most n signs -/
structure Sh (m n : Nat) (d : D) : Prop where
  lay : (pd d).canLay0 = true
  sh : (pd d).showable = true
  nd : (pd d).hasDict = false
  dep : (pd d).depth ≤ m
  len : (pd d).shown.length ≤ n
theorem Sh.up {m n m' n' : Nat} {d : D} (h : Sh m n d) (hm : m ≤ m') (hn : n ≤ n') : Sh m' n' d := ⟨h.lay, h.sh, h.nd, Nat.le_trans h.dep hm, Nat.le_trans h.len hn⟩
theorem sh_non : Sh 0 5 .non := ⟨by decide, by decide, by decide, by decide, by decide +kernel⟩
theorem sh_bl (b : Bool) : Sh 0 5 (.bl b) := by cases b <;> exact ⟨by decide, by decide, by decide, by decide, by decide +kernel⟩
theorem sh_nat (i : Nat) (h : i < 10 ^ 10) : Sh 0 10 (.int i) where
  lay := by simp [pd, PyData.canLay0]
  sh := by
    simp only [pd, PyData.showable, Int.natAbs_natCast, decide_eq_true_eq]
    by_cases q : i = 0
    · subst q; decide
    · have : i.log2 < 34 := (Nat.log2_lt q).mpr (by omega)
      omega
  nd := by simp [pd, PyData.hasDict]
  dep := by simp [pd, PyData.depth]
  len := by
    simp only [pd, PyData.shown]
    exact PyProof.Rows.toString_length_le (by omega) (by decide) (by exact_mod_cast h)
theorem sh_str (x : Str) (h : PyData.strOk x = true) : Sh 0 (10 * x.length + 2) (.str x) where
  lay := by simp only [pd, PyData.canLay0]; exact h
  sh := by simp [pd, PyData.showable]
  nd := by simp [pd, PyData.hasDict]
  dep := by simp [pd, PyData.depth]
  len := by
    simp only [pd, PyData.shown]
    refine StrLaws.reprText_len x fun c hc => ?_
    unfold PyData.strOk at h
    rw [Array.all_eq_true_iff_forall_mem] at h
    have := h c (by simpa using hc)
    simp only [decide_eq_true_eq] at this
    omega
theorem shAll {m n : Nat} {xs : List D} (h : ∀ x ∈ xs, Sh m n x) : PyData.canLayAll0 (pds xs) = true ∧ PyData.showableAll (pds xs) = true ∧ PyData.hasDictAll (pds xs) = false ∧ PyData.depthAll (pds xs) ≤ m ∧ piled (PyData.shownAll (pds xs)) ≤ xs.length * (n + 2) := by
  induction xs with
  | nil => simp [pds, PyData.canLayAll0, PyData.showableAll, PyData.hasDictAll, PyData.depthAll, PyData.shownAll, piled]
  | cons x xs ih =>
    obtain ⟨h1, h2, h3, h4, h5⟩ := ih fun y hy => h y (List.mem_cons_of_mem _ hy)
    have hx := h x List.mem_cons_self
    simp only [pds, PyData.canLayAll0, PyData.showableAll, PyData.hasDictAll, PyData.depthAll, PyData.shownAll, piled_cons, List.length_cons]
    refine ⟨by rw [hx.lay, h1]; rfl, by rw [hx.sh, h2]; rfl, by rw [hx.nd, h3]; rfl, by have := hx.dep; omega, ?_⟩
    have := hx.len
    rw [Nat.add_mul, Nat.one_mul]
    omega
theorem listText_le (ts : List Str) : (listText ts).length ≤ piled ts + 2 := by
  unfold listText
  rw [strLen_append]
  have e1 : (("]" : String) : Str).length = 1 := rfl
  rw [e1]
  cases ts with
  | nil => show (("[" : String) : Str).length + 1 ≤ _; exact Nat.le_add_left _ _
  | cons t r =>
    show (textFrom 1 ((("[" : String) : Str) ++ (if 0 > 0 then ", " else "" : String) ++ t) r).length + 1 ≤ _
    rw [textFrom_length_pos r 1 _ (by decide), strLen_append, strLen_append, piled_cons]
    have e2 : ((("[" : String) : Str)).length = 1 := rfl
    have e3 : (((if 0 > 0 then ", " else "" : String) : Str)).length = 0 := rfl
    rw [e2, e3]
    omega
theorem tupleText_le (ts : List Str) : (tupleText ts).length ≤ piled ts + 3 := by
  unfold tupleText
  rw [strLen_append, strLen_append]
  have e1 : ((("(" : String) : Str)).length = 1 := rfl
  have e3 : (((if ts.length == 1 then ",)" else ")" : String) : Str)).length ≤ 2 := by split <;> decide
  rw [e1]
  by_cases h : ts = []
  · subst h
    have : (Str.join ", " []).length = 0 := rfl
    omega
  · have := join_length_add ts h
    omega
theorem sh_lst {m n : Nat} {xs : List D} (h : ∀ x ∈ xs, Sh m n x) : Sh (m + 1) (xs.length * (n + 2) + 2) (.lst xs) := by
  obtain ⟨h1, h2, h3, h4, h5⟩ := shAll h
  refine ⟨by rw [pd, PyData.canLay0]; exact h1, by rw [pd, PyData.showable]; exact h2, by rw [pd, PyData.hasDict]; exact h3, by rw [pd, PyData.depth]; omega, ?_⟩
  rw [pd, PyData.shown]
  have := listText_le (PyData.shownAll (pds xs))
  omega
theorem sh_tup {m n : Nat} {xs : List D} (h : ∀ x ∈ xs, Sh m n x) : Sh (m + 1) (xs.length * (n + 2) + 3) (.tup xs) := by
  obtain ⟨h1, h2, h3, h4, h5⟩ := shAll h
  refine ⟨by rw [pd, PyData.canLay0]; exact h1, by rw [pd, PyData.showable]; exact h2, by rw [pd, PyData.hasDict]; exact h3, by rw [pd, PyData.depth]; omega, ?_⟩
  rw [pd, PyData.shown]
  have := tupleText_le (PyData.shownAll (pds xs))
  omega
theorem repr_ok {m n : Nat} {d : D} (h : Sh m n d) (hm : m ≤ 60) (hn : n ≤ 16777216) : reprG [d] = some (.str (pd d).shown) := by
  show (if _ then _ else _) = _
  rw [if_pos]
  rw [Bool.and_eq_true]
  refine ⟨h.lay, ?_⟩
  unfold shwB
  rw [h.sh, h.nd, decide_eq_true (Nat.le_trans h.dep hm), szl, decide_eq_true (Nat.le_trans h.len hn)]
  rfl
section
variable {β α γ ω S : Type}
@[simp] theorem tryc_ok {α : Type} (o : α → R β ω) (a : α) (mt : Str → Option Bool) (mS : Exn → R Unit α) (xb : β) : R.tryc o (.ok a) mt mS xb = o a := id rfl
theorem tryc_ex {α : Type} (o : α → R β ω) (x : Exn) (mt : Str → Option Bool) (mS : Exn → R Unit α) (xb : β) (h : mt x.C = some true) : R.tryc o (.ex x ()) mt mS xb = R.fin (mS x) o := by
  show R.clause mt x (mS x) o (.ex x xb) = _
  unfold R.clause
  rw [h]
@[simp] theorem fin_ok {α : Type} (a : α) (o : α → R β ω) : R.fin (.ok a) o = o a := id rfl
@[simp] theorem out_nx {S Sb Sc Sr : Type} (k : S → R β ω) (kb : Sb → R β ω) (kc : Sc → R β ω) (kr : D → Sr → R β ω) (s : S) : R.out k kb kc kr (.nx s) = k s := id rfl
@[simp] theorem out_rt {S Sb Sc Sr : Type} (k : S → R β ω) (kb : Sb → R β ω) (kc : Sc → R β ω) (kr : D → Sr → R β ω) (d : D) (s : Sr) : R.out k kb kc kr (.rt d s) = kr d s := id rfl
end
/-- the first item that the test lets by -/
theorem for_first {β : Type} {α : Type} {e : α → D} {f : D → Unit → R β (Step Unit)} {t : α → Bool} {v : α → D} : ∀ {xs : List α}, (∀ x ∈ xs, f (e x) () = .ok (if t x then .rt (v x) () else .nx ())) → R.for' (xs.map e) () f = .ok (match xs.find? t with | some x => .rt (v x) () | none => .nx ())
  | [], _ => rfl
  | x :: xs, h => by
    rw [List.map_cons, for_cons, h x List.mem_cons_self, List.find?_cons]
    cases q : t x
    · simp only [Bool.false_eq_true, if_false, turn_nx]
      exact for_first fun y hy => h y (List.mem_cons_of_mem _ hy)
    · simp only [if_true, turn_rt]
theorem step_ite {β : Type} (c : Prop) [Decidable c] (x y : Step Unit) : (if c then (R.ok x : R β (Step Unit)) else R.ok y) = R.ok (if c then x else y) := by split <;> rfl
theorem fmap_map {α : Type} {e : α → D} {g : α → Option D} {f : D → Unit → R Unit (Option D × Unit)} {xs : List α} (h : ∀ x ∈ xs, f (e x) () = .ok (g x, ())) : R.fmapS f (xs.map e) () = .ok (xs.filterMap g, ()) := by
  induction xs with
  | nil => rfl
  | cons x xs ih =>
    rw [List.map_cons]
    unfold R.fmapS
    rw [h x List.mem_cons_self]
    simp only
    rw [ih fun y hy => h y (List.mem_cons_of_mem _ hy), List.filterMap_cons]
    cases g x <;> rfl
theorem bools_map (bs : List Bool) : boolsOf (bs.map D.bl) = some bs := by
  induction bs with
  | nil => rfl
  | cons b bs ih => rw [List.map_cons]; unfold boolsOf; rw [ih]; rfl
theorem any_bls (bs : List Bool) : anyG [.lst (bs.map D.bl)] = some (.bl (bs.any id)) := by
  show Option.map _ (boolsOf (bs.map D.bl)) = _
  rw [bools_map]; rfl
theorem maxN (a b : Nat) : (if (b : Int) > (a : Int) then (b : Int) else (a : Int)) = ((max a b : Nat) : Int) := by omega
theorem maxN' (a b : Nat) : (if a < b then (b : Int) else (a : Int)) = ((max a b : Nat) : Int) := by omega
theorem minN (a b : Nat) : (if (b : Int) < (a : Int) then (b : Int) else (a : Int)) = ((min a b : Nat) : Int) := by omega
theorem find_any {α : Type} (t : α → Bool) (xs : List α) : (xs.find? t).isSome = xs.any t := by
  induction xs with
  | nil => rfl
  | cons x xs ih => rw [List.find?_cons, List.any_cons]; cases t x <;> simp [ih]
theorem fmap_filter {α : Type} {e : α → D} {p : α → Bool} {f : D → Unit → R Unit (Option D × Unit)} {xs : List α} (h : ∀ x ∈ xs, f (e x) () = if p x then R.ok (some (e x), ()) else R.ok (none, ())) : R.fmapS f (xs.map e) () = .ok ((xs.filter p).map e, ()) := by
  rw [fmap_map (g := fun x => if p x then some (e x) else none)]
  · congr 2
    induction xs with
    | nil => rfl
    | cons x xs ih =>
      have := ih fun y hy => h y (List.mem_cons_of_mem _ hy)
      cases q : p x <;> simp [q, this]
  · intro x hx
    rw [h x hx]
    cases p x <;> rfl
theorem sort_iff (ns : List Int) : (ns = PySem.W.sortI ns) ↔ ns.Pairwise (· ≤ ·) := ⟨fun h => by rw [h]; exact PySem.W.sortI_rises ns, fun h => PySem.W.eq_sortI (List.Perm.refl _) h⟩
theorem ints_map (ns : List Int) : intsOf (ns.map D.int) = some ns := by
  induction ns with
  | nil => rfl
  | cons b bs ih => rw [List.map_cons]; unfold intsOf; rw [ih]; rfl
theorem sort_ints (ns : List Int) : sortG [.lst (ns.map D.int)] = some (.lst ((PySem.W.sortI ns).map D.int)) := by
  show Option.map _ (intsOf (ns.map D.int)) = _
  rw [ints_map]; rfl
theorem eqI (xs ys : List Int) : eqG (.lst (xs.map D.int)) (.lst (ys.map D.int)) = some (.bl (decide (xs = ys))) := enc_int.lst.eqG (by decide) xs ys
theorem ifn {α : Type} {b : Bool} {x y : α} (h : b = false) : (if b = true then x else y) = y := by rw [h]; rfl
theorem rep01 (x : D) (b : Bool) : repG (.lst [x]) (.int (if b = true then 1 else 0)) = some (.lst (if b = true then [x] else [])) := by
  cases b <;> simp [repG, szl]
end PL

/-! Words of plain books, rows of pulls: plain Lean. -/
namespace PW
open PySem L2 DM PL
/-! k57: what the methods of Plain compute. -/
inductive Wd where
  | out | mark | wait | empty | down | let_ | lock | unlock | bare | tried | locked | in_ | ahead | none | touched | used | stuck | kept
deriving DecidableEq
def Wd.s : Wd → Str
  | .out => "out" | .mark => "mark" | .wait => "wait" | .empty => "empty" | .down => "down" | .let_ => "let" | .lock => "lock" | .unlock => "unlock"
  | .bare => "bare" | .tried => "tried" | .locked => "locked" | .in_ => "in" | .ahead => "ahead" | .none => "none" | .touched => "touched" | .used => "used" | .stuck => "stuck" | .kept => "kept"
def wd (a : Wd) : D := .str a.s
theorem wd_inj : ∀ a b : Wd, a.s = b.s → a = b := by
  intro a b
  cases a <;> cases b <;> first | (intro _; rfl) | (intro h; exact absurd h (by decide +kernel))
theorem encW : Enc wd 0 := enc_word (w := Wd.s) (fun a => by cases a <;> decide +kernel) wd_inj
theorem eqW (a b : Wd) : eqG (wd a) (wd b) = some (.bl (decide (a = b))) := encW.eqG (by decide) a b
theorem neW (a b : Wd) : neG (wd a) (wd b) = some (.bl (!decide (a = b))) := encW.neG (by decide) a b
theorem inWl (a : Wd) (ws : List Wd) : inA (wd a) (.lst (ws.map wd)) = some (.bl (decide (a ∈ ws))) := encW.in_l (by decide) a ws
theorem inWt (a : Wd) (ws : List Wd) : inA (wd a) (.tup (ws.map wd)) = some (.bl (decide (a ∈ ws))) := encW.in_t (by decide) a ws
theorem niWl (a : Wd) (ws : List Wd) : notInA (wd a) (.lst (ws.map wd)) = some (.bl (!decide (a ∈ ws))) := encW.ni_l (by decide) a ws
theorem niWt (a : Wd) (ws : List Wd) : notInA (wd a) (.tup (ws.map wd)) = some (.bl (!decide (a ∈ ws))) := encW.ni_t (by decide) a ws
def eight : List Wd := [.out, .mark, .wait, .empty, .down, .let_, .lock, .unlock]
theorem w_out : D.str "out" = wd .out := id rfl
theorem w_mark : D.str "mark" = wd .mark := id rfl
theorem w_wait : D.str "wait" = wd .wait := id rfl
theorem w_empty : D.str "empty" = wd .empty := id rfl
theorem w_down : D.str "down" = wd .down := id rfl
theorem w_let : D.str "let" = wd .let_ := id rfl
theorem w_lock : D.str "lock" = wd .lock := id rfl
theorem w_unlock : D.str "unlock" = wd .unlock := id rfl
theorem w_bare : D.str "bare" = wd .bare := id rfl
theorem w_tried : D.str "tried" = wd .tried := id rfl
theorem w_locked : D.str "locked" = wd .locked := id rfl
theorem w_in : D.str "in" = wd .in_ := id rfl
theorem w_ahead : D.str "ahead" = wd .ahead := id rfl
theorem w_none : D.str "none" = wd .none := id rfl
theorem w_touched : D.str "touched" = wd .touched := id rfl
theorem w_used : D.str "used" = wd .used := id rfl
theorem w_stuck : D.str "stuck" = wd .stuck := id rfl
theorem w_kept : D.str "kept" = wd .kept := id rfl
theorem isW (a : Wd) : isiG [wd a, .ty "str"] = some (.bl true) := id rfl
def pr (p : Nat × Nat) : D := .tup [.int p.1, .int p.2]
def gapsF (ws : List Wd) : List (Nat × Nat) := if .lock ∈ ws then (if .unlock ∈ ws then [(0, ws.idxOf .lock), (ws.idxOf .unlock + 1, ws.length)] else [(0, ws.idxOf .lock)]) else [(0, ws.length)]
theorem h_out : Wd.out ∈ eight := by decide
theorem h_mark : Wd.mark ∈ eight := by decide
theorem h_wait : Wd.wait ∈ eight := by decide
theorem h_empty : Wd.empty ∈ eight := by decide
theorem h_down : Wd.down ∈ eight := by decide
theorem h_let : Wd.let_ ∈ eight := by decide
theorem h_lock : Wd.lock ∈ eight := by decide
theorem h_unlock : Wd.unlock ∈ eight := by decide
def openT (ws : List Wd) (p : Nat × Nat) : Bool := decide (p.1 ≤ ws.idxOf .out) && decide (max p.1 (ws.idxOf .empty + 1) ≤ min p.2 (ws.idxOf .let_))
def openF (o : Wd) (ws : List Wd) : List (Nat × Nat) :=
  if .empty ∈ ws then
    (0, ws.idxOf .empty) :: (if o = .locked then (match (gapsF ws).find? (openT ws) with | some p => [(max p.1 (ws.idxOf .empty + 1), ws.length)] | none => [])
      else if ws.idxOf .empty + 1 ≤ ws.idxOf .let_ then [(ws.idxOf .empty + 1, ws.length)] else [])
  else [(0, ws.length)]
def ublF (ws : List Wd) : Bool := [Wd.mark, .wait, .empty].any fun w => decide (w ∈ ws) && decide (ws.idxOf .let_ < ws.idxOf w)
def gapT (ws : List Wd) (lo hi : Nat) (p : Nat × Nat) : Bool := decide (max lo p.1 ≤ min p.2 (ws.idxOf .mark)) && decide (max (max lo p.1) (ws.idxOf .down + 1) ≤ min p.2 hi)
def strT (a : Wd) (ws : List Wd) (hi : Nat) (p : Nat × Nat) : Bool := (decide (a ≠ .in_) || decide (p.1 ≤ ws.idxOf .mark)) && decide (max p.1 (ws.idxOf .down + 1) ≤ min p.2 hi)
def touchF (a : Wd) (ws : List Wd) (lo hi : Nat) : Bool :=
  if a = .locked then (gapsF ws).any (gapT ws lo hi)
  else if a = .ahead ∧ ws.idxOf .mark < lo then false
  else [(lo, ws.idxOf .wait), (max lo (ws.idxOf .wait + 1), ws.length)].any (strT a ws hi)
def usedF (o : Wd) (ws : List Wd) : Bool :=
  decide (.let_ ∈ ws) && (ublF ws || (if o = .locked then (gapsF ws).any fun p => decide (p.1 ≤ ws.idxOf .out) && decide (ws.idxOf .let_ + 1 ≤ p.2) else decide (o = .bare)))
theorem gaps_len (ws : List Wd) : (gapsF ws).length ≤ 2 := by
  unfold gapsF
  split
  · split <;> simp
  · simp
theorem open_len (o : Wd) (ws : List Wd) : (openF o ws).length ≤ 2 := by
  unfold openF
  split
  · split
    · cases (gapsF ws).find? (openT ws) <;> simp
    · split <;> simp
  · simp
def stuckF (o a : Wd) (ws : List Wd) : Bool :=
  decide (.lock ∈ ws) && ((decide (a = .locked) && decide (.empty ∈ ws) && decide (ws.idxOf .lock < ws.idxOf .empty) && decide (ws.idxOf .empty < ws.idxOf .unlock)) ||
    (!decide (.unlock ∈ ws) && (decide (o = .locked) || decide (a = .locked)) && (!ublF ws || !decide (.empty ∈ ws) || decide ((openF o ws).length = 2))))
/-- the words of the faults -/
def fw (t u s k : Bool) : List Wd := (if t then [.touched] else []) ++ (if u then [.used] else []) ++ (if s then [.stuck] else []) ++ (if k then [.kept] else [])
def touchA (o a : Wd) (ws : List Wd) : Bool := (openF o ws).any fun p => touchF a ws p.1 p.2
def ordF (ws vs : List Wd) : Bool := vs.all (fun v => decide (v ∈ ws)) && decide ((vs.map fun v => ((ws.idxOf v : Nat) : Int)).Pairwise (· ≤ ·))
theorem eqL (xs ys : List Wd) : eqG (.lst (xs.map wd)) (.lst (ys.map wd)) = some (.bl (decide (xs = ys))) := encW.lst.eqG (by decide) xs ys
theorem neL (xs ys : List Wd) : neG (.lst (xs.map wd)) (.lst (ys.map wd)) = some (.bl (!decide (xs = ys))) := encW.lst.neG (by decide) xs ys
theorem neL0 (xs : List Wd) : neG (.lst (xs.map wd)) (.lst []) = some (.bl (!decide (xs = []))) := neL xs []
theorem eqL0 (xs : List Wd) : eqG (.lst (xs.map wd)) (.lst []) = some (.bl (decide (xs = []))) := eqL xs []
def behF (ws : List Wd) : List Wd := if .let_ ∈ ws then ws.drop (ws.idxOf .let_ + 1) else []
def isU (w : Wd) : Bool := decide (w ∈ [Wd.mark, .wait, .empty])
def isL (w : Wd) : Bool := decide (w = .lock) || decide (w = .unlock)
structure Good (ws : List Wd) : Prop where
  nd : ws.Nodup
  mem : ∀ w ∈ ws, w ∈ eight
  lk : ws.filter isL = [] ∨ ws.filter isL = [.lock] ∨ ws.filter isL = [.lock, .unlock]
theorem ix_in {ws : List Wd} {w : Wd} : w ∈ ws ↔ ws.idxOf w < ws.length := List.idxOf_lt_length_iff.symm
theorem ix_le (ws : List Wd) (w : Wd) : ws.idxOf w ≤ ws.length := List.idxOf_le_length
theorem ix_drop {ws : List Wd} {w : Wd} {k : Nat} (h : w ∈ ws) (hk : k ≤ ws.idxOf w) : w ∈ ws.drop k := by
  have hl := ix_in.mp h
  refine List.mem_of_getElem? (i := ws.idxOf w - k) ?_
  rw [List.getElem?_drop, show k + (ws.idxOf w - k) = ws.idxOf w by omega, List.getElem?_eq_getElem hl]
  simp
theorem drop_ix {ws : List Wd} {w : Wd} {k : Nat} (hn : ws.Nodup) (h : w ∈ ws.drop k) : k ≤ ws.idxOf w := by
  rcases Nat.lt_or_ge (ws.idxOf w) k with q | q
  · exfalso
    have e : ws.take k ++ ws.drop k = ws := List.take_append_drop k ws
    have hd := (List.nodup_append.mp (e ▸ hn)).2.2
    have h1 : w ∈ ws.take k := by
      have hl : ws.idxOf w < ws.length := ix_in.mp (List.mem_of_mem_drop h)
      refine List.mem_of_getElem? (i := ws.idxOf w) ?_
      rw [List.getElem?_take_of_lt q, List.getElem?_eq_getElem hl]
      simp
    exact hd w h1 w h rfl
  · exact q
theorem gaps_hi {ws : List Wd} {p : Nat × Nat} (h : p ∈ gapsF ws) : p.2 ≤ ws.length := by
  unfold gapsF at h
  have := ix_le ws .lock
  split at h
  · split at h
    · simp only [List.mem_cons, List.not_mem_nil, or_false] at h
      rcases h with rfl | rfl <;> simp [this]
    · simp only [List.mem_cons, List.not_mem_nil, or_false] at h
      rcases h with rfl; simp [this]
  · simp only [List.mem_cons, List.not_mem_nil, or_false] at h
    rcases h with rfl; simp
theorem open_hi {o : Wd} {ws : List Wd} {p : Nat × Nat} (h : p ∈ openF o ws) : p.2 ≤ ws.length := by
  unfold openF at h
  have := ix_le ws .empty
  split at h
  · rcases List.mem_cons.mp h with rfl | h
    · exact this
    · split at h
      · split at h
        · simp only [List.mem_cons, List.not_mem_nil, or_false] at h
          rcases h with rfl; simp
        · cases h
      · split at h
        · simp only [List.mem_cons, List.not_mem_nil, or_false] at h
          rcases h with rfl; simp
        · cases h
  · simp only [List.mem_cons, List.not_mem_nil, or_false] at h
    rcases h with rfl; simp
theorem Good.split {a b : List Wd} {x : Wd} (h : Good (a ++ x :: b)) : x ∉ a ∧ (x = .unlock → Wd.lock ∈ a) ∧ (x = .lock → Wd.unlock ∉ a) := by
  have h1 : x ∉ a := fun z => (List.nodup_append.mp h.nd).2.2 x z x List.mem_cons_self rfl
  refine ⟨h1, fun e => ?_, fun e z => ?_⟩
  · subst e
    have hl := h.lk
    rw [List.filter_append, List.filter_cons_of_pos (by decide)] at hl
    have : a.filter isL = [.lock] := by
      rcases hl with q | q | q
      · simp at q
      · rcases hf : a.filter isL with _ | ⟨y, r⟩ <;> rw [hf] at q <;> simp at q
      · rcases hf : a.filter isL with _ | ⟨y, _ | ⟨z, r⟩⟩ <;> rw [hf] at q <;> simp at q
        rw [q.1]
    have hm : Wd.lock ∈ a.filter isL := by rw [this]; exact List.mem_cons_self
    exact (List.mem_filter.mp hm).1
  · subst e
    have hm : Wd.unlock ∈ a.filter isL := List.mem_filter.mpr ⟨z, by decide⟩
    have hl := h.lk
    rw [List.filter_append, List.filter_cons_of_pos (by decide)] at hl
    rcases hf : a.filter isL with _ | ⟨y, r⟩
    · rw [hf] at hm; cases hm
    · rw [hf] at hl
      rcases hl with q | q | q
      · simp at q
      · simp at q
      · rcases r with _ | ⟨z, r⟩ <;> simp at q
theorem get_split {ws : List Wd} {i : Nat} {x : Wd} (h : ws[i]? = some x) : ws = ws.take i ++ x :: ws.drop (i + 1) := by
  obtain ⟨hi, e⟩ := List.getElem?_eq_some_iff.mp h
  rw [← e, List.getElem_cons_drop, List.take_append_drop]
/-- one put in -/
def ins (ws : List Wd) (i : Nat) (w : Wd) : List Wd := ws.take i ++ [w] ++ ws.drop i
theorem ins_mem {ws : List Wd} {i : Nat} {w x : Wd} : x ∈ ins ws i w ↔ x = w ∨ x ∈ ws := by
  unfold ins
  rw [List.mem_append, List.mem_append, List.mem_singleton]
  have e : x ∈ ws ↔ x ∈ ws.take i ∨ x ∈ ws.drop i := by
    conv => lhs; rw [← List.take_append_drop i ws]
    exact List.mem_append
  rw [e]
  constructor
  · rintro ((h | h) | h)
    · exact .inr (.inl h)
    · exact .inl h
    · exact .inr (.inr h)
  · rintro (h | h | h)
    · exact .inl (.inr h)
    · exact .inl (.inl h)
    · exact .inr h
theorem ins_nd {ws : List Wd} {i : Nat} {w : Wd} (h : ws.Nodup) (hw : w ∉ ws) : (ins ws i w).Nodup := by
  unfold ins
  have e : (ws.take i ++ [w] ++ ws.drop i).Perm (w :: ws) := by
    have e1 : (w :: ws).Perm (w :: (ws.take i ++ ws.drop i)) := by rw [List.take_append_drop]
    rw [List.append_assoc]
    exact (List.perm_middle).trans e1.symm
  exact e.nodup_iff.mpr (List.nodup_cons.mpr ⟨hw, h⟩)
theorem ins_filter {ws : List Wd} {i : Nat} {w : Wd} (h : isL w = false) : (ins ws i w).filter isL = ws.filter isL := by
  unfold ins
  rw [List.filter_append, List.filter_append, List.filter_cons_of_neg (by simp [h])]
  simp only [List.filter_nil, List.append_nil]
  rw [← List.filter_append, List.take_append_drop]
theorem ins_len {ws : List Wd} {i : Nat} {w : Wd} : (ins ws i w).length = ws.length + 1 := by
  unfold ins
  simp only [List.length_append, List.length_take, List.length_singleton, List.length_drop]
  omega
def six : List Wd := [.out, .mark, .wait, .empty, .down, .let_]
/-- what the drawing has found -/
structure Six (n : Nat) (ws : List Wd) : Prop where
  nd : ws.Nodup
  mem : ∀ w ∈ ws, w ∈ six.take n
  len : ws.length ≤ n
theorem nl_six {w : Wd} (h : w ∈ six) : isL w = false := by
  unfold six at h
  simp only [List.mem_cons, List.not_mem_nil, or_false] at h
  rcases h with rfl | rfl | rfl | rfl | rfl | rfl <;> decide
theorem Six.good {n : Nat} {ws : List Wd} (h : Six n ws) : Good ws where
  nd := h.nd
  mem w hw := by
    have := List.mem_of_mem_take (h.mem w hw)
    unfold six at this
    simp only [List.mem_cons, List.not_mem_nil, or_false] at this
    rcases this with rfl | rfl | rfl | rfl | rfl | rfl <;> decide
  lk := by
    left
    rw [List.filter_eq_nil_iff]
    intro w hw
    rw [nl_six (List.mem_of_mem_take (h.mem w hw))]
    decide
theorem six_ins {n : Nat} {ws : List Wd} {w : Wd} {i : Nat} (h : Six n ws) (hw : six[n]? = some w) : Six (n + 1) (ins ws i w) := by
  have hn : n < 6 := by
    rcases Nat.lt_or_ge n 6 with q | q
    · exact q
    · rw [List.getElem?_eq_none (by exact q)] at hw; cases hw
  have hs : w ∉ six.take n ∧ w ∈ six.take (n + 1) := by
    have : n = 0 ∨ n = 1 ∨ n = 2 ∨ n = 3 ∨ n = 4 ∨ n = 5 := by omega
    rcases this with rfl | rfl | rfl | rfl | rfl | rfl <;> cases hw <;> decide
  refine ⟨ins_nd h.nd fun z => hs.1 (h.mem w z), fun x hx => ?_, by rw [ins_len]; have := h.len; omega⟩
  rcases ins_mem.mp hx with rfl | hx
  · exact hs.2
  · have := h.mem x hx
    rw [List.take_add_one]
    exact List.mem_append_left _ this
theorem Six.up {n : Nat} {ws : List Wd} (h : Six n ws) : Six (n + 1) ws := ⟨h.nd, fun w hw => by rw [List.take_add_one]; exact List.mem_append_left _ (h.mem w hw), by have := h.len; omega⟩
/-- a list with one put in, as the law writes it -/
theorem ins_d {β γ : Type} (ws : List Wd) (i : Nat) (w : Wd) (hl : ws.length ≤ 100) (k : D → R β γ) : (R.lft (slG (.lst (ws.map wd)) none (some (i : Int))) fun x => R.few [wd w] fun l => R.lft (addA x (.lst l)) fun y => R.asI (.int (i : Int)) fun j => R.lft (slG (.lst (ws.map wd)) (some j) none) fun z => R.lft (addA y z) k) = k (.lst ((ins ws i w).map wd)) := by
  unfold ins
  simp only [sl_lst, cut_lo, cut_hi, lft_some, few1, add_lst, asI_int, List.length_take, List.length_map, List.length_cons, List.length_nil, List.length_append, List.length_drop]
  rw [if_pos (by omega), lft_some]
  simp only [add_lst, List.length_append, List.length_take, List.length_map, List.length_cons, List.length_nil, List.length_drop]
  rw [if_pos (by omega), lft_some]
  simp [List.map_take, List.map_drop]
theorem lkd_good {A B C E : List Wd} (h : (A ++ B ++ C).Nodup) (hm : ∀ w ∈ A ++ B ++ C, w ∈ six) (hE : E = [] ∨ E = [.unlock]) : Good (A ++ [.lock] ++ B ++ E ++ C) := by
  have hp : (A ++ [Wd.lock] ++ B ++ E ++ C).Perm (.lock :: (E ++ (A ++ B ++ C))) := List.perm_iff_count.mpr fun x => by
    simp only [List.count_append, List.count_cons, List.count_nil]
    omega
  have n1 : Wd.lock ∉ A ++ B ++ C := fun z => by have := nl_six (hm _ z); revert this; decide
  have n2 : Wd.unlock ∉ A ++ B ++ C := fun z => by have := nl_six (hm _ z); revert this; decide
  have f0 : ∀ {l : List Wd}, (∀ w ∈ l, w ∈ six) → l.filter isL = [] := fun {l} hl => by
    rw [List.filter_eq_nil_iff]
    intro w hw
    rw [nl_six (hl w hw)]; decide
  have hA : ∀ w ∈ A, w ∈ six := fun w hw => hm w (List.mem_append_left _ (List.mem_append_left _ hw))
  have hB : ∀ w ∈ B, w ∈ six := fun w hw => hm w (List.mem_append_left _ (List.mem_append_right _ hw))
  have hC : ∀ w ∈ C, w ∈ six := fun w hw => hm w (List.mem_append_right _ hw)
  have m8 : ∀ w ∈ six, w ∈ eight := by decide
  refine ⟨hp.nodup_iff.mpr ?_, fun w hw => ?_, ?_⟩
  · rcases hE with rfl | rfl
    · exact List.nodup_cons.mpr ⟨n1, h⟩
    · refine List.nodup_cons.mpr ⟨?_, List.nodup_cons.mpr ⟨n2, h⟩⟩
      intro z
      rcases List.mem_cons.mp z with q | q
      · cases q
      · exact n1 q
  · rcases List.mem_cons.mp (hp.mem_iff.mp hw) with rfl | hw
    · decide
    · rcases List.mem_append.mp hw with hw | hw
      · rcases hE with rfl | rfl
        · cases hw
        · rcases List.mem_singleton.mp hw with rfl; decide
      · exact m8 w (hm w hw)
  · rw [List.filter_append, List.filter_append, List.filter_append, List.filter_append, f0 hA, f0 hB, f0 hC]
    rcases hE with rfl | rfl
    · exact .inr (.inl (by decide))
    · exact .inr (.inr (by decide))
end PW

set_option pp.maxSteps 600
set_option pp.deepTerms false
namespace K53
open PySem PySem.Spec PyProof.Rows L2 DL DM
def topS (i : Nat) : Stmt := PySem.Challenge.pw_pulledout_k53_whole_places_of_plain_book.main.body.getD i (.Pass ⟨0, 0, 0, 0⟩)
def clsS (i j : Nat) : Stmt := match topS i with
  | .ClassDef _ _ _ body .. => body.getD j (.Pass ⟨0, 0, 0, 0⟩)
  | s => s
def gEMPTY : D := .str "empty"
def gLET : D := .str "let"
def gLOCK : D := .str "lock"
def gOUT : D := .str "out"
def gPULLS : D := .tup [.str "out", .str "mark", .str "wait", .str "empty", .str "down", .str "let", .str "lock", .str "unlock"]
def gUNLOCK : D := .str "unlock"
def kASKS : List Str := ["in", "ahead", "none", "locked"]
def kOPENS : List Str := ["bare", "tried", "locked"]
def cl_own_asks : Str → Bool := fun C => C == "Plain"
def cl_own_opens : Str → Bool := fun C => C == "Plain"
def cl_own_pulls : Str → Bool := fun C => C == "Plain"
def mt_UnknownName : Str → Option Bool := fun C => if C = "InvalidStep" then some false else if C = "InvalidOption" then some false else if C = "UnknownName" then some true else none
structure Txt (P : Program) (w : World) (K : PySem.W.Frag) (mg : Str → Option Value) : Prop where
  z_enumerate : mg "enumerate" = none
  z_int : mg "int" = none
  z_isinstance : mg "isinstance" = none
  z_len : mg "len" = none
  z_list : mg "list" = none
  z_max : mg "max" = none
  z_min : mg "min" = none
  z_range : mg "range" = none
  z_repr : mg "repr" = none
  z_str : mg "str" = none
  gEMPTY : GlobD K mg "EMPTY" gEMPTY
  gLET : GlobD K mg "LET" gLET
  gLOCK : GlobD K mg "LOCK" gLOCK
  gOUT : GlobD K mg "OUT" gOUT
  gPULLS : GlobD K mg "PULLS" gPULLS
  gUNLOCK : GlobD K mg "UNLOCK" gUNLOCK
  k_ASKS : KdC K w mg "ASKS" kASKS
  k_OPENS : KdC K w mg "OPENS" kOPENS
  f_own_asks : ∀ C, cl_own_asks C = true → FldC K C "own_asks"
  f_own_opens : ∀ C, cl_own_opens C = true → FldC K C "own_opens"
  f_own_pulls : ∀ C, cl_own_pulls C = true → FldC K C "own_pulls"
  x_InvalidOption : ErrC P K mg "InvalidOption" ["value"]
  x_InvalidStep : ErrC P K mg "InvalidStep" ["index"]
  x_UnknownName : ErrC P K mg "UnknownName" ["name"]
  e_UnknownName : MtK K mg "UnknownName" mt_UnknownName
  xf_UnknownName_name : XfD K mt_UnknownName "name"
section
variable {P : Program} {w : World} {K : PySem.W.Frag} {mg : Str → Option Value} {base : Heap}
def m_require_pull : List D → R Unit D
  | [a88] => R.bind (R.lft (isiG [a88, (.ty "str")]) fun x91 => R.asB x91 fun b92 => if (!b92) then R.ok true else R.lft (notInA a88 gPULLS) fun x89 => R.asB x89 fun b90 => R.ok b90) fun b93 => if b93 then R.raise "UnknownName" ["name"] [a88] () else R.ok .non
  | _ => .no
theorem l_require_pull : ∀ ds, m_require_pull ds ≠ .no → ds.length = 1 := by
  intro ds h
  unfold m_require_pull at h
  split at h
  · rfl
  · exact absurd rfl h
abbrev s_require_pull : Stmt := topS 28
theorem sc_require_pull : FnScope ["word"] ["word"] (defScope s_require_pull) := ⟨rfl, rfl, rfl, by decide +kernel, rfl, by decide +kernel, by decide +kernel⟩
theorem ok_require_pull {f : Addr} {fd : FuncData} (F : Fun K "require_pull" "require_pull" s_require_pull f fd) (T : Txt P w K mg) : FnG P w K mg base (L2.CX P w) 2 f fd ["word"] (spM K (mk0 1) none (Lp m_require_pull)) := by
  refine okP F sc_require_pull rfl (fun cdv A outer s H E hr hG te tk po ds hl => ?_)
  match ds, hl with
  | [a88], _ => exact AB.eq (ab_ifL () (AW.at (aw_or (at_not (at_val (a_callB call_isi cd_isi boot_isinstance T.z_isinstance (by rfl) (aal_cons (AE.al (av 0 rfl)) (aal_cons (AE.al (a_bty boot_str T.z_str (by rfl))) aal_nil))))) (aw_or1 (at_cmp (op_notInA (u65 hr)) od_notInA (AE.al (av 0 rfl)) (AE.al (a_glob T.gPULLS (by rfl))) (by rfl))))) (wk_un rfl) (ab_raise (k := 0) () T.x_UnknownName (ac_pos (aa_cons (av 0 rfl) aa_nil)) (wk_un rfl) rfl te (hr.mono (by decide)) (by rfl)) (ab_nil () (wk_un rfl) rfl)) rfl
def m_Plain_ahead : List D → R Unit D
  | [a77, a78] => R.call (m_require_pull [a78]) () fun x79 => R.bind (R.fld cl_own_pulls "own_pulls" a77 fun x80 => R.lft (inA a78 x80) fun x81 => R.asB x81 fun b82 => if b82 then R.fld cl_own_pulls "own_pulls" a77 fun x84 => R.asQ x84 fun _ => R.lft (idxG x84 [a78]) fun x83 => R.ok x83 else R.fld cl_own_pulls "own_pulls" a77 fun x85 => R.lft (lenG [x85]) fun x86 => R.ok x86) fun x87 => R.ok x87
  | _ => .no
theorem l_Plain_ahead : ∀ ds, m_Plain_ahead ds ≠ .no → ds.length = 2 := by
  intro ds h
  unfold m_Plain_ahead at h
  split at h
  · rfl
  · exact absurd rfl h
def mt_ahead : Str → Option (List D → R Unit D) := fun C => if C = "Plain" then some m_Plain_ahead else none
abbrev s_Plain_ahead : Stmt := clsS 27 11
theorem sc_Plain_ahead : FnScope ["self", "word"] ["self", "word"] (defScope s_Plain_ahead) := ⟨rfl, rfl, rfl, by decide +kernel, rfl, by decide +kernel, by decide +kernel⟩
theorem ok_Plain_ahead {f : Addr} {fd : FuncData} (F : Fun K "ahead" "Plain.ahead" s_Plain_ahead f fd) (T : Txt P w K mg) (d_require_pull : Dfn P w K mg base 2 "require_pull" (mk0 1) none (Lp m_require_pull)) : FnG P w K mg base (L2.CX P w) 3 f fd ["self", "word"] (spM K (mk0 2) none (Lp m_Plain_ahead)) := by
  refine okP F sc_Plain_ahead rfl (fun cdv A outer s H E hr hG te tk po ds hl => ?_)
  match ds, hl with
  | [a77, a78], _ => exact AB.eq (ab_expr () (a_call d_require_pull l_require_pull (aa_cons (av 1 rfl) aa_nil) (hr.mono (by decide)) hG tk (by rfl)) (wk_un rfl) (ab_ret () () (a_if (at_cmp (op_inA (u65 hr)) od_inA (AE.al (av 1 rfl)) (AE.al (a_fld T.f_own_pulls (AE.al (av 0 rfl)))) (by rfl)) (a_idx (u65 hr) (AE.al (a_fld T.f_own_pulls (AE.al (av 0 rfl)))) (aal_cons (AE.al (av 1 rfl)) aal_nil)) (a_callB call_len cd_len PySem.boot_len T.z_len (by rfl) (aal_cons (AE.al (a_fld T.f_own_pulls (AE.al (av 0 rfl)))) aal_nil))) (wk_un rfl) (wk_un rfl) rfl)) rfl
def m_Plain_behind : List D → R Unit D
  | [a94, a95] => R.meth mt_ahead "ahead" a94 fun g97 => R.call (g97 [a94, a95]) () fun x96 => R.lft (addA x96 (.int 1)) fun x98 => R.ok x98
  | _ => .no
theorem l_Plain_behind : ∀ ds, m_Plain_behind ds ≠ .no → ds.length = 2 := by
  intro ds h
  unfold m_Plain_behind at h
  split at h
  · rfl
  · exact absurd rfl h
def mt_behind : Str → Option (List D → R Unit D) := fun C => if C = "Plain" then some m_Plain_behind else none
abbrev s_Plain_behind : Stmt := clsS 27 12
theorem sc_Plain_behind : FnScope ["self", "word"] ["self", "word"] (defScope s_Plain_behind) := ⟨rfl, rfl, rfl, by decide +kernel, rfl, by decide +kernel, by decide +kernel⟩
theorem ok_Plain_behind {f : Addr} {fd : FuncData} (F : Fun K "behind" "Plain.behind" s_Plain_behind f fd) (T : Txt P w K mg) (d_m_ahead : ∀ C mf, mt_ahead C = some mf → MethC P w K mg base 3 C "ahead" none mf) : FnG P w K mg base (L2.CX P w) 4 f fd ["self", "word"] (spM K (mk0 2) none (Lp m_Plain_behind)) := by
  refine okP F sc_Plain_behind rfl (fun cdv A outer s H E hr hG te tk po ds hl => ?_)
  match ds, hl with
  | [a94, a95], _ => exact AB.eq (ab_ret () () (a_op op_addA od_addA (AE.al (a_meth d_m_ahead (av 0 rfl) (ac_pos (aa_cons (av 1 rfl) aa_nil)) (hr.mono (by decide)) hG tk)) (AE.al a_int)) (wk_un rfl) (wk_un rfl) rfl) rfl
def m_Plain_gaps : List D → R Unit D
  | [a99] => R.fld cl_own_pulls "own_pulls" a99 fun x100 => R.lft (lenG [x100]) fun x101 => R.fld cl_own_pulls "own_pulls" a99 fun x103 => R.lft (notInA gLOCK x103) fun x104 => R.asB x104 fun b105 => if b105 then R.few [(.int 0), x101] fun l106 => R.few [(.tup l106)] fun l107 => R.ok (.lst l107) else R.meth mt_ahead "ahead" a99 fun g109 => R.call (g109 [a99, gLOCK]) () fun x108 => R.few [(.int 0), x108] fun l120 => R.few [(.tup l120)] fun l121 => R.bind (R.fld cl_own_pulls "own_pulls" a99 fun x111 => R.lft (inA gUNLOCK x111) fun x112 => R.asB x112 fun b113 => if b113 then R.meth mt_behind "behind" a99 fun g115 => R.call (g115 [a99, gUNLOCK]) () fun x114 => R.few [x114, x101] fun l118 => R.few [(.tup l118)] fun l119 => R.lft (addA (.lst l121) (.lst l119)) fun x116 => R.ok x116 else R.ok (.lst l121)) fun x117 => R.ok x117
  | _ => .no
theorem l_Plain_gaps : ∀ ds, m_Plain_gaps ds ≠ .no → ds.length = 1 := by
  intro ds h
  unfold m_Plain_gaps at h
  split at h
  · rfl
  · exact absurd rfl h
def mt_gaps : Str → Option (List D → R Unit D) := fun C => if C = "Plain" then some m_Plain_gaps else none
abbrev s_Plain_gaps : Stmt := clsS 27 13
theorem sc_Plain_gaps : FnScope ["self", "many", "found"] ["self"] (defScope s_Plain_gaps) := ⟨rfl, rfl, rfl, by decide +kernel, rfl, by decide +kernel, by decide +kernel⟩
theorem ok_Plain_gaps {f : Addr} {fd : FuncData} (F : Fun K "gaps" "Plain.gaps" s_Plain_gaps f fd) (T : Txt P w K mg) (d_m_ahead : ∀ C mf, mt_ahead C = some mf → MethC P w K mg base 3 C "ahead" none mf) (d_m_behind : ∀ C mf, mt_behind C = some mf → MethC P w K mg base 4 C "behind" none mf) : FnG P w K mg base (L2.CX P w) 5 f fd ["self"] (spM K (mk0 1) none (Lp m_Plain_gaps)) := by
  refine okP F sc_Plain_gaps rfl (fun cdv A outer s H E hr hG te tk po ds hl => ?_)
  match ds, hl with
  | [a99], _ => exact AB.eq (ab_set 1 () (a_callB call_len cd_len PySem.boot_len T.z_len (by rfl) (aal_cons (AE.al (a_fld T.f_own_pulls (AE.al (av 0 rfl)))) aal_nil)) (wk_un rfl) (fun x102 => (ab_ifT () (at_cmp (op_notInA (u65 hr)) od_notInA (AE.al (a_glob T.gLOCK (by rfl))) (AE.al (a_fld T.f_own_pulls (AE.al (av 0 rfl)))) (by rfl)) (wk_un rfl) (ab_ret () () (AN.ae (a_lst (aa_cons (a_tup (aa_cons a_int (aa_cons (av 1 rfl) aa_nil))) aa_nil))) (wk_un rfl) (wk_un rfl) rfl) (ab_set 2 () (AN.ae (a_lst (aa_cons (a_tup (aa_cons a_int (aa_cons (a_meth d_m_ahead (av 0 rfl) (ac_pos (aa_cons (a_glob T.gLOCK (by rfl)) aa_nil)) (hr.mono (by decide)) hG tk) aa_nil))) aa_nil))) (wk_un rfl) (fun x110 => (ab_ret () () (a_if (at_cmp (op_inA (u65 hr)) od_inA (AE.al (a_glob T.gUNLOCK (by rfl))) (AE.al (a_fld T.f_own_pulls (AE.al (av 0 rfl)))) (by rfl)) (a_op op_addA od_addA (AE.al (av 2 rfl)) (AE.al (AN.ae (a_lst (aa_cons (a_tup (aa_cons (a_meth d_m_behind (av 0 rfl) (ac_pos (aa_cons (a_glob T.gUNLOCK (by rfl)) aa_nil)) (hr.mono (by decide)) hG tk) (aa_cons (av 1 rfl) aa_nil))) aa_nil))))) (av 2 rfl)) (wk_un rfl) (wk_un rfl) rfl)) sc_Plain_gaps.nd (by first | exact Or.inl rfl | exact Or.inr rfl)))) sc_Plain_gaps.nd (by first | exact Or.inl rfl | exact Or.inr rfl)) rfl
def m_Plain_openings : List D → R Unit D
  | [a122] => R.fld cl_own_pulls "own_pulls" a122 fun x123 => R.lft (lenG [x123]) fun x124 => R.fld cl_own_pulls "own_pulls" a122 fun x126 => R.lft (notInA gEMPTY x126) fun x127 => R.asB x127 fun b128 => if b128 then R.few [(.int 0), x124] fun l129 => R.few [(.tup l129)] fun l130 => R.ok (.lst l130) else R.meth mt_ahead "ahead" a122 fun g132 => R.call (g132 [a122, gEMPTY]) () fun x131 => R.few [(.int 0), x131] fun l179 => R.few [(.tup l179)] fun l180 => R.join (fun (s139 : D) => R.ok s139) fun k138 => R.fld cl_own_opens "own_opens" a122 fun x134 => R.lft (eqG x134 (.str "locked")) fun x135 => R.asB x135 fun b136 => if b136 then R.meth mt_gaps "gaps" a122 fun g141 => R.call (g141 [a122]) () fun x140 => R.items x140 fun l142 => R.after (R.for' l142 () fun d145 s144 => R.tup2 d145 fun x146 x147 => R.meth mt_behind "behind" a122 fun g149 => R.call (g149 [a122, gEMPTY]) () fun x148 => R.lft (max2G [x146, x148]) fun x150 => R.bind (R.meth mt_ahead "ahead" a122 fun g158 => R.call (g158 [a122, gOUT]) () fun x157 => R.lft (leG x146 x157) fun x159 => R.asB x159 fun b160 => if b160 then R.meth mt_ahead "ahead" a122 fun g153 => R.call (g153 [a122, gLET]) () fun x152 => R.lft (min2G [x147, x152]) fun x154 => R.lft (leG x150 x154) fun x155 => R.asB x155 fun b156 => R.ok b156 else R.ok false) fun b161 => if b161 then R.asQ (.lst l180) fun l162 => R.few [x150, x124] fun l163 => R.few (l162 ++ [(.tup l163)]) fun l164 => R.ok (Step.rt (.lst l164) ()) else R.ok (Step.nx ())) (fun s165 => k138 (.lst l180)) fun d167 s166 => R.ok d167 else R.meth mt_behind "behind" a122 fun g169 => R.call (g169 [a122, gEMPTY]) () fun x168 => R.meth mt_ahead "ahead" a122 fun g171 => R.call (g171 [a122, gLET]) () fun x170 => R.lft (leG x168 x170) fun x172 => R.asB x172 fun b173 => if b173 then R.asL (.lst l180) fun l177 => R.meth mt_behind "behind" a122 fun g175 => R.call (g175 [a122, gEMPTY]) () fun x174 => R.few [x174, x124] fun l178 => R.push l177 (.tup l178) fun x176 => k138 x176 else k138 (.lst l180)
  | _ => .no
theorem l_Plain_openings : ∀ ds, m_Plain_openings ds ≠ .no → ds.length = 1 := by
  intro ds h
  unfold m_Plain_openings at h
  split at h
  · rfl
  · exact absurd rfl h
def mt_openings : Str → Option (List D → R Unit D) := fun C => if C = "Plain" then some m_Plain_openings else none
abbrev s_Plain_openings : Stmt := clsS 27 14
theorem sc_Plain_openings : FnScope ["self", "many", "found", "first", "last", "least"] ["self"] (defScope s_Plain_openings) := ⟨rfl, rfl, rfl, by decide +kernel, rfl, by decide +kernel, by decide +kernel⟩
theorem ok_Plain_openings {f : Addr} {fd : FuncData} (F : Fun K "openings" "Plain.openings" s_Plain_openings f fd) (T : Txt P w K mg) (d_m_ahead : ∀ C mf, mt_ahead C = some mf → MethC P w K mg base 3 C "ahead" none mf) (d_m_behind : ∀ C mf, mt_behind C = some mf → MethC P w K mg base 4 C "behind" none mf) (d_m_gaps : ∀ C mf, mt_gaps C = some mf → MethC P w K mg base 5 C "gaps" none mf) : FnG P w K mg base (L2.CX P w) 6 f fd ["self"] (spM K (mk0 1) none (Lp m_Plain_openings)) := by
  refine okP F sc_Plain_openings rfl (fun cdv A outer s H E hr hG te tk po ds hl => ?_)
  match ds, hl with
  | [a122], _ => exact AB.eq (ab_set 1 () (a_callB call_len cd_len PySem.boot_len T.z_len (by rfl) (aal_cons (AE.al (a_fld T.f_own_pulls (AE.al (av 0 rfl)))) aal_nil)) (wk_un rfl) (fun x125 => (ab_ifT () (at_cmp (op_notInA (u65 hr)) od_notInA (AE.al (a_glob T.gEMPTY (by rfl))) (AE.al (a_fld T.f_own_pulls (AE.al (av 0 rfl)))) (by rfl)) (wk_un rfl) (ab_ret () () (AN.ae (a_lst (aa_cons (a_tup (aa_cons a_int (aa_cons (av 1 rfl) aa_nil))) aa_nil))) (wk_un rfl) (wk_un rfl) rfl) (ab_setO 2 () (a_lst (aa_cons (a_tup (aa_cons a_int (aa_cons (a_meth d_m_ahead (av 0 rfl) (ac_pos (aa_cons (a_glob T.gEMPTY (by rfl)) aa_nil)) (hr.mono (by decide)) hG tk) aa_nil))) aa_nil)) (wk_un rfl) (fun x133 => (ab_if (S := D) (fun (s137 : D) => [.fz a122, .fz x125, .ow none s137 [], .un, .un, .un]) () (at_cmp (op_eqA hr.units) od_eq (AE.al (a_fld T.f_own_opens (AE.al (av 0 rfl)))) (AE.al a_str) (nomark _)) (wk_un rfl) (fun k138 => (ab_for (S := Unit) (own := [3, 4]) (fun (s143 : Unit) => [.fz a122, .fz x125, .ow none x133 [], .un, .un, .un]) () (fun s166 => ()) () (ai_items (a_meth d_m_gaps (av 0 rfl) ac_nil (hr.mono (by decide)) hG tk)) (wk_un rfl) (.k (.k (.k (.d (.d (.d .nil)))))) (fun s166 => (wk_un rfl)) (fun s144 d145 => (ag_tup2 rfl (fun x146 x147 => (ags_cons (ag_name 3 (ags_cons (ag_name 4 (ags_nil (ab_set 5 () (a_callB (call_max2 rfl) cd_max2 boot_max T.z_max (by rfl) (aal_cons (AE.al (av 3 rfl)) (aal_cons (AE.al (a_meth d_m_behind (av 0 rfl) (ac_pos (aa_cons (a_glob T.gEMPTY (by rfl)) aa_nil)) (hr.mono (by decide)) hG tk)) aal_nil))) (wk_un rfl) (fun x151 => (ab_ifL () (AW.at (aw_and (at_cmp op_le od_le (AE.al (av 3 rfl)) (AE.al (a_meth d_m_ahead (av 0 rfl) (ac_pos (aa_cons (a_glob T.gOUT (by rfl)) aa_nil)) (hr.mono (by decide)) hG tk)) (nomark _)) (aw_and1 (at_cmp op_le od_le (AE.al (av 5 rfl)) (AE.al (a_callB (call_min2 rfl) cd_min2 boot_min T.z_min (by rfl) (aal_cons (AE.al (av 4 rfl)) (aal_cons (AE.al (a_meth d_m_ahead (av 0 rfl) (ac_pos (aa_cons (a_glob T.gLET (by rfl)) aa_nil)) (hr.mono (by decide)) hG tk)) aal_nil)))) (nomark _))))) (wk_un rfl) (ab_ret () () (AN.ae (a_lst (aa_star (al 2 rfl) (aa_cons (a_tup (aa_cons (av 5 rfl) (aa_cons (av 1 rfl) aa_nil))) aa_nil)))) (wk_un rfl) (.k (.k (.k (.d (.d (.d .nil)))))) rfl) (ab_nil () (.k (.k (.k (.d (.d (.d .nil)))))) rfl))) sc_Plain_openings.nd (by first | exact Or.inl rfl | exact Or.inr rfl))) sc_Plain_openings.nd (by first | exact Or.inl rfl | exact Or.inr rfl))) sc_Plain_openings.nd (by first | exact Or.inl rfl | exact Or.inr rfl)))))) (fun s165 => (ab_nil x133 (.k (.k (.k (.d (.d (.d .nil)))))) rfl)) rfl po rfl rfl)) (fun k138 => (ab_ifL () (at_cmp op_le od_le (AE.al (a_meth d_m_behind (av 0 rfl) (ac_pos (aa_cons (a_glob T.gEMPTY (by rfl)) aa_nil)) (hr.mono (by decide)) hG tk)) (AE.al (a_meth d_m_ahead (av 0 rfl) (ac_pos (aa_cons (a_glob T.gLET (by rfl)) aa_nil)) (hr.mono (by decide)) hG tk)) (nomark _)) (wk_un rfl) (ab_app (tag := none) (d := x133) 2 rfl () (a_tup (aa_cons (a_meth d_m_behind (av 0 rfl) (ac_pos (aa_cons (a_glob T.gEMPTY (by rfl)) aa_nil)) (hr.mono (by decide)) hG tk) (aa_cons (av 1 rfl) aa_nil))) (wk_un rfl) (fun x176 => (ab_nil x176 (.k (.k (.k (.d (.d (.d .nil)))))) rfl))) (ab_nil x133 (.k (.k (.k (.d (.d (.d .nil)))))) rfl))) (fun s139 => (ab_frz 2 rfl (ab_ret () () (av 2 rfl) (wk_un rfl) (wk_un rfl) rfl))))) sc_Plain_openings.nd (by first | exact Or.inl rfl | exact Or.inr rfl)))) sc_Plain_openings.nd (by first | exact Or.inl rfl | exact Or.inr rfl)) rfl
def m_wrong_pull : List D → R Unit D
  | [a207] => R.enumA a207 fun l208 => R.after (R.for' l208 () fun d211 s210 => R.tup2 d211 fun x212 x213 => R.bind (R.lft (isiG [x213, (.ty "str")]) fun x221 => R.asB x221 fun b222 => if (!b222) then R.ok true else R.bind (R.lft (notInA x213 gPULLS) fun x218 => R.asB x218 fun b219 => if b219 then R.ok true else R.asI x212 fun i214 => R.lft (slG a207 none (some i214)) fun x215 => R.lft (inA x213 x215) fun x216 => R.asB x216 fun b217 => R.ok b217) fun b220 => R.ok b220) fun b223 => if b223 then R.ok (Step.rt x212 ()) else R.bind (R.bind (R.lft (eqG x213 gUNLOCK) fun x235 => R.asB x235 fun b236 => if b236 then R.asI x212 fun i231 => R.lft (slG a207 none (some i231)) fun x232 => R.lft (notInA gLOCK x232) fun x233 => R.asB x233 fun b234 => R.ok b234 else R.ok false) fun b237 => if b237 then R.ok true else R.bind (R.lft (eqG x213 gLOCK) fun x228 => R.asB x228 fun b229 => if b229 then R.asI x212 fun i224 => R.lft (slG a207 none (some i224)) fun x225 => R.lft (inA gUNLOCK x225) fun x226 => R.asB x226 fun b227 => R.ok b227 else R.ok false) fun b230 => R.ok b230) fun b238 => if b238 then R.ok (Step.rt x212 ()) else R.ok (Step.nx ())) (fun s239 => R.ok .non) fun d241 s240 => R.ok d241
  | _ => .no
theorem l_wrong_pull : ∀ ds, m_wrong_pull ds ≠ .no → ds.length = 1 := by
  intro ds h
  unfold m_wrong_pull at h
  split at h
  · rfl
  · exact absurd rfl h
abbrev s_wrong_pull : Stmt := topS 26
theorem sc_wrong_pull : FnScope ["pulls", "index", "word"] ["pulls"] (defScope s_wrong_pull) := ⟨rfl, rfl, rfl, by decide +kernel, rfl, by decide +kernel, by decide +kernel⟩
theorem ok_wrong_pull {f : Addr} {fd : FuncData} (F : Fun K "wrong_pull" "wrong_pull" s_wrong_pull f fd) (T : Txt P w K mg) : FnG P w K mg base (L2.CX P w) 1 f fd ["pulls"] (spM K (mk0 1) none (Lp m_wrong_pull)) := by
  refine okP F sc_wrong_pull rfl (fun cdv A outer s H E hr hG te tk po ds hl => ?_)
  match ds, hl with
  | [a207], _ => exact AB.eq (ab_for (S := Unit) (own := [1, 2]) (fun (s209 : Unit) => [.fz a207, .un, .un]) () (fun s240 => ()) () (ai_enumA T.z_enumerate (by rfl) (av 0 rfl)) (wk_un rfl) (.k (.d (.d .nil))) (fun s240 => (wk_un rfl)) (fun s210 d211 => (ag_tup2 rfl (fun x212 x213 => (ags_cons (ag_name 1 (ags_cons (ag_name 2 (ags_nil (ab_ifT () (AW.at (aw_or (at_not (at_val (a_callB call_isi cd_isi boot_isinstance T.z_isinstance (by rfl) (aal_cons (AE.al (av 2 rfl)) (aal_cons (AE.al (a_bty boot_str T.z_str (by rfl))) aal_nil))))) (aw_or (at_cmp (op_notInA (u65 hr)) od_notInA (AE.al (av 2 rfl)) (AE.al (a_glob T.gPULLS (by rfl))) (by rfl)) (aw_or1 (at_cmp (op_inA (u65 hr)) od_inA (AE.al (av 2 rfl)) (AE.al (a_sl (AE.al (av 0 rfl)) ao_none (ao_some (AE.al (av 1 rfl))))) (by rfl)))))) (wk_un rfl) (ab_ret () () (av 1 rfl) (wk_un rfl) (.k (.d (.d .nil))) rfl) (ab_ifL () (AW.at (aw_or (AW.at (aw_and (at_cmp (op_eqA hr.units) od_eq (AE.al (av 2 rfl)) (AE.al (a_glob T.gUNLOCK (by rfl))) (nomark _)) (aw_and1 (at_cmp (op_notInA (u65 hr)) od_notInA (AE.al (a_glob T.gLOCK (by rfl))) (AE.al (a_sl (AE.al (av 0 rfl)) ao_none (ao_some (AE.al (av 1 rfl))))) (by rfl))))) (aw_or1 (AW.at (aw_and (at_cmp (op_eqA hr.units) od_eq (AE.al (av 2 rfl)) (AE.al (a_glob T.gLOCK (by rfl))) (nomark _)) (aw_and1 (at_cmp (op_inA (u65 hr)) od_inA (AE.al (a_glob T.gUNLOCK (by rfl))) (AE.al (a_sl (AE.al (av 0 rfl)) ao_none (ao_some (AE.al (av 1 rfl))))) (by rfl)))))))) (wk_un rfl) (ab_ret () () (av 1 rfl) (wk_un rfl) (.k (.d (.d .nil))) rfl) (ab_nil () (.k (.d (.d .nil))) rfl)))) sc_wrong_pull.nd (by first | exact Or.inl rfl | exact Or.inr rfl))) sc_wrong_pull.nd (by first | exact Or.inl rfl | exact Or.inr rfl)))))) (fun s239 => (ab_ret () () a_non (wk_un rfl) (wk_un rfl) rfl)) rfl po rfl rfl) rfl
def m0_Plain___init__ : List D → R Unit (D × D)
  | [a188, a189, a190, a191] => R.bind (R.lft (isiG [a189, (.ty "str")]) fun x193 => R.asB x193 fun b194 => if (!b194) then R.ok true else R.asS a189 fun z192 => R.ok (!(kOPENS.contains z192))) fun b195 => if b195 then R.raise "InvalidOption" ["value"] [a189] () else R.bind (R.lft (isiG [a190, (.ty "str")]) fun x197 => R.asB x197 fun b198 => if (!b198) then R.ok true else R.asS a190 fun z196 => R.ok (!(kASKS.contains z196))) fun b199 => if b199 then R.raise "InvalidOption" ["value"] [a190] () else R.call (m_wrong_pull [a191]) () fun x200 => R.lft (notNG x200 .non) fun x202 => R.asB x202 fun b203 => if b203 then R.raise "InvalidStep" ["index"] [x200] () else R.putF cl_own_opens "own_opens" a188 a189 fun x204 => R.putF cl_own_asks "own_asks" x204 a190 fun x205 => R.putF cl_own_pulls "own_pulls" x205 a191 fun x206 => R.ok (.non, x206)
  | _ => .no
def m_Plain___init__ : List D → R Unit (D × D) := starM 3 m0_Plain___init__
theorem l_Plain___init__ : ∀ o ds, m0_Plain___init__ (o :: ds) ≠ .no → ds.length = 3 := by
  intro o ds h
  unfold m0_Plain___init__ at h
  split at h
  · rename_i e; cases e; rfl
  · exact absurd rfl h
abbrev s_Plain___init__ : Stmt := clsS 27 0
theorem sc_Plain___init__ : FnScope ["self", "opens", "asks", "pulls", "wrong"] ["self", "opens", "asks", "pulls"] (defScope s_Plain___init__) := ⟨rfl, rfl, rfl, by decide +kernel, rfl, by decide +kernel, by decide +kernel⟩
theorem ok_Plain___init__ {f : Addr} (T : Txt P w K mg) (d_wrong_pull : Dfn P w K mg base 1 "wrong_pull" (mk0 1) none (Lp m_wrong_pull)) : Bod P w K mg base ["self", "opens", "asks", "pulls", "wrong"] "Plain.__init__" s_Plain___init__ f 1 (spM K (some [] :: mk0 3) none (L1e m0_Plain___init__)) := by
  refine okR0_b (m := 4) sc_Plain___init__ rfl rfl (fun cdv A outer s H E hr hG te tk po o ds hl => ?_)
  match ds, hl with
  | [a189, a190, a191], _ =>
    exact AB.eq (ab_ifT () (AW.at (aw_or (at_not (at_val (a_callB call_isi cd_isi boot_isinstance T.z_isinstance (by rfl) (aal_cons (AE.al (av 1 rfl)) (aal_cons (AE.al (a_bty boot_str T.z_str (by rfl))) aal_nil))))) (aw_or1 (at_notInK T.k_OPENS (by rfl) (AE.al (av 1 rfl)))))) (wk_un rfl) (ab_raise (k := 0) () T.x_InvalidOption (ac_pos (aa_cons (av 1 rfl) aa_nil)) (wk_un rfl) rfl te (hr.mono (by decide)) (by rfl)) (ab_ifT () (AW.at (aw_or (at_not (at_val (a_callB call_isi cd_isi boot_isinstance T.z_isinstance (by rfl) (aal_cons (AE.al (av 2 rfl)) (aal_cons (AE.al (a_bty boot_str T.z_str (by rfl))) aal_nil))))) (aw_or1 (at_notInK T.k_ASKS (by rfl) (AE.al (av 2 rfl)))))) (wk_un rfl) (ab_raise (k := 0) () T.x_InvalidOption (ac_pos (aa_cons (av 2 rfl) aa_nil)) (wk_un rfl) rfl te (hr.mono (by decide)) (by rfl)) (ab_set 4 () (a_call d_wrong_pull l_wrong_pull (aa_cons (av 3 rfl) aa_nil) (hr.mono (by decide)) hG tk (by rfl)) (wk_un rfl) (fun x201 => (ab_ifT () (at_cmp op_notN od_notN (AE.al (av 4 rfl)) (AE.al a_non) (nomark _)) (wk_un rfl) (ab_raise (k := 0) () T.x_InvalidStep (ac_pos (aa_cons (av 4 rfl) aa_nil)) (wk_un rfl) rfl te (hr.mono (by decide)) (by rfl)) (ab_fld (tag := (some 0)) (d := o) 0 rfl () T.f_own_opens (av 1 rfl) (wk_un rfl) (fun x204 => (ab_fld (tag := (some 0)) (d := x204) 0 rfl () T.f_own_asks (av 2 rfl) (wk_un rfl) (fun x205 => (ab_fld (tag := (some 0)) (d := x205) 0 rfl () T.f_own_pulls (av 3 rfl) (wk_un rfl) (fun x206 => (ab_nil x206 (.k (.d (.d (.d (.d .nil))))) rfl))))))))) sc_Plain___init__.nd (by first | exact Or.inl rfl | exact Or.inr rfl)))) rfl
def m_Plain_of : List D → R Unit D
  | [a181, a182, a183] => R.lft (listG [a183]) fun x184 => R.asQ x184 fun l186 => R.make (m_Plain___init__ ((.obj "Plain" []) :: (a181 :: (a182 :: (l186 ++ []))))) () fun x187 => R.ok x187
  | _ => .no
theorem l_Plain_of : ∀ ds, m_Plain_of ds ≠ .no → ds.length = 3 := by
  intro ds h
  unfold m_Plain_of at h
  split at h
  · rfl
  · exact absurd rfl h
abbrev s_Plain_of : Stmt := clsS 27 1
theorem sc_Plain_of : FnScope ["opens", "asks", "pulls", "words"] ["opens", "asks", "pulls"] (defScope s_Plain_of) := ⟨rfl, rfl, rfl, by decide +kernel, rfl, by decide +kernel, by decide +kernel⟩
theorem ok_Plain_of {f : Addr} {fd : FuncData} (F : Fun K "of" "Plain.of" s_Plain_of f fd) (T : Txt P w K mg) (d_Plain : MakeC P w K mg base 2 "Plain" [] m_Plain___init__) : FnG P w K mg base (L2.CX P w) 4 f fd ["opens", "asks", "pulls"] (spM K (mk0 3) none (Lp m_Plain_of)) := by
  refine okP F sc_Plain_of rfl (fun cdv A outer s H E hr hG te tk po ds hl => ?_)
  match ds, hl with
  | [a181, a182, a183], _ => exact AB.eq (ab_set 3 () (AN.ae (a_callTN call_list_of cn_list boot_list T.z_list (by rfl) (aal_cons (AE.al (av 2 rfl)) aal_nil))) (wk_un rfl) (fun x185 => (ab_ret () () (AN.ae (a_make d_Plain (ac_s2 (aa_cons (av 0 rfl) (aa_cons (av 1 rfl) (aa_star (AE.al (av 3 rfl)) aa_nil)))) (hr.mono (by decide)) hG tk (by rfl))) (wk_un rfl) (wk_un rfl) rfl)) sc_Plain_of.nd (by first | exact Or.inl rfl | exact Or.inr rfl)) rfl
def m__law_locked_beside : List D → R Unit D
  | [a284, a285] => R.bind (R.asI a285 fun i289 => R.lft (slG a284 none (some i289)) fun x290 => R.lft (inA (.str "lock") x290) fun x291 => R.asB x291 fun b293 => if b293 then R.asI a285 fun i286 => R.lft (slG a284 none (some i286)) fun x287 => R.lft (notInA (.str "unlock") x287) fun x288 => R.ok x288 else R.ok (.bl false)) fun x292 => R.ok x292
  | _ => .no
theorem l__law_locked_beside : ∀ ds, m__law_locked_beside ds ≠ .no → ds.length = 2 := by
  intro ds h
  unfold m__law_locked_beside at h
  split at h
  · rfl
  · exact absurd rfl h
abbrev s__law_locked_beside : Stmt := topS 37
theorem sc__law_locked_beside : FnScope ["_law_pulls", "_law_many"] ["_law_pulls", "_law_many"] (defScope s__law_locked_beside) := ⟨rfl, rfl, rfl, by decide +kernel, rfl, by decide +kernel, by decide +kernel⟩
theorem ok__law_locked_beside {f : Addr} {fd : FuncData} (F : Fun K "_law_locked_beside" "_law_locked_beside" s__law_locked_beside f fd) (T : Txt P w K mg) : FnG P w K mg base (L2.CX P w) 1 f fd ["_law_pulls", "_law_many"] (spM K (mk0 2) none (Lp m__law_locked_beside)) := by
  refine okP F sc__law_locked_beside rfl (fun cdv A outer s H E hr hG te tk po ds hl => ?_)
  match ds, hl with
  | [a284, a285], _ => exact AB.eq (ab_ret () () (a_and (a_cmp (op_inA (u65 hr)) od_inA (AE.al a_str) (AE.al (a_sl (AE.al (av 0 rfl)) ao_none (ao_some (AE.al (av 1 rfl))))) (by rfl)) (a_one (a_cmp (op_notInA (u65 hr)) od_notInA (AE.al a_str) (AE.al (a_sl (AE.al (av 0 rfl)) ao_none (ao_some (AE.al (av 1 rfl))))) (by rfl)))) (wk_un rfl) (wk_un rfl) rfl) rfl
def m__law_gap_rows : List D → R Unit D
  | [a242] => R.few [] fun l283 => R.lft (lenG [a242]) fun x244 => R.lft (addA x244 (.int 1)) fun x245 => R.rng1 x245 fun l246 => R.after (R.for' l246 (.lst l283) fun d249 s248 => R.call (m__law_locked_beside [a242, d249]) () fun x250 => R.asB x250 fun b251 => if (!b251) then R.bind (R.lft (gtG d249 (.int 0)) fun x266 => R.asB x266 fun b267 => if b267 then R.bind (R.few [] fun l279 => R.lft (neG s248 (.lst l279)) fun x263 => R.asB x263 fun b264 => if b264 then R.bind (R.asI (.int 1) fun x256 => R.lft (ixG s248 (.int (-x256))) fun x257 => R.lft (ixG x257 (.int 1)) fun x258 => R.lft (subG d249 (.int 1)) fun x259 => R.lft (eqG x258 x259) fun x260 => R.asB x260 fun b261 => if b261 then R.lft (subG d249 (.int 1)) fun x252 => R.lft (ixG a242 x252) fun x253 => R.lft (neG x253 (.str "unlock")) fun x254 => R.asB x254 fun b255 => R.ok b255 else R.ok false) fun b262 => R.ok b262 else R.ok false) fun b265 => R.ok b265 else R.ok false) fun b268 => if b268 then R.asL s248 fun l274 => R.asI (.int 1) fun x270 => R.lft (ixG s248 (.int (-x270))) fun x271 => R.lft (ixG x271 (.int 0)) fun x272 => R.few [x272, d249] fun l275 => R.asI (.int 1) fun x269 => R.setAt l274 (.int (-x269)) (.tup l275) fun x273 => R.ok (Step.nx x273) else R.asL s248 fun l277 => R.few [d249, d249] fun l278 => R.push l277 (.tup l278) fun x276 => R.ok (Step.nx x276) else R.ok (Step.nx s248)) (fun s280 => R.ok s280) fun d282 s281 => R.ok d282
  | _ => .no
theorem l__law_gap_rows : ∀ ds, m__law_gap_rows ds ≠ .no → ds.length = 1 := by
  intro ds h
  unfold m__law_gap_rows at h
  split at h
  · rfl
  · exact absurd rfl h
abbrev s__law_gap_rows : Stmt := topS 38
theorem sc__law_gap_rows : FnScope ["_law_pulls", "_law_found", "_law_many"] ["_law_pulls"] (defScope s__law_gap_rows) := ⟨rfl, rfl, rfl, by decide +kernel, rfl, by decide +kernel, by decide +kernel⟩
theorem ok__law_gap_rows {f : Addr} {fd : FuncData} (F : Fun K "_law_gap_rows" "_law_gap_rows" s__law_gap_rows f fd) (T : Txt P w K mg) (d__law_locked_beside : Dfn P w K mg base 1 "_law_locked_beside" (mk0 2) none (Lp m__law_locked_beside)) : FnG P w K mg base (L2.CX P w) 2 f fd ["_law_pulls"] (spM K (mk0 1) none (Lp m__law_gap_rows)) := by
  refine okP F sc__law_gap_rows rfl (fun cdv A outer s H E hr hG te tk po ds hl => ?_)
  match ds, hl with
  | [a242], _ => exact AB.eq (ab_setO 1 () (a_lst aa_nil) (wk_un rfl) (fun x243 => (ab_for (S := D) (own := [2]) (fun (s247 : D) => [.fz a242, .ow none s247 [], .un]) x243 (fun s281 => ()) () (ai_rng1 T.z_range (by rfl) (AE.al (a_op op_addA od_addA (AE.al (a_callB call_len cd_len PySem.boot_len T.z_len (by rfl) (aal_cons (AE.al (av 0 rfl)) aal_nil))) (AE.al a_int)))) (wk_un rfl) (.k (.k (.d .nil))) (fun s281 => (wk_un rfl)) (fun s248 d249 => (ag_name 2 (ab_ifL () (at_not (at_val (a_call d__law_locked_beside l__law_locked_beside (aa_cons (av 0 rfl) (aa_cons (av 2 rfl) aa_nil)) (hr.mono (by decide)) hG tk (by rfl)))) (wk_un rfl) (ab_ifL () (AW.at (aw_and (at_cmp op_gt od_gt (AE.al (av 2 rfl)) (AE.al a_int) (nomark _)) (aw_and (at_cmp (op_neA hr.units) od_ne (al 1 rfl) (AE.al (AN.ae (a_lst aa_nil))) (nomark _)) (aw_and (at_cmp (op_eqA hr.units) od_eq (AE.al (a_ix (AE.al (a_ix (al 1 rfl) (AE.al (a_neg (AE.al a_int))))) (AE.al a_int))) (AE.al (a_op op_sub od_sub (AE.al (av 2 rfl)) (AE.al a_int))) (nomark _)) (aw_and1 (at_cmp (op_neA hr.units) od_ne (AE.al (a_ix (AE.al (av 0 rfl)) (AE.al (a_op op_sub od_sub (AE.al (av 2 rfl)) (AE.al a_int))))) (AE.al a_str) (nomark _))))))) (wk_un rfl) (ab_setIx (tag := none) (d := s248) 1 rfl () (AE.al (a_neg (AE.al a_int))) (a_tup (aa_cons (a_ix (AE.al (a_ix (al 1 rfl) (AE.al (a_neg (AE.al a_int))))) (AE.al a_int)) (aa_cons (av 2 rfl) aa_nil))) (wk_un rfl) (fun x273 => (ab_nil x273 (.k (.k (.d .nil))) rfl))) (ab_app (tag := none) (d := s248) 1 rfl () (a_tup (aa_cons (av 2 rfl) (aa_cons (av 2 rfl) aa_nil))) (wk_un rfl) (fun x276 => (ab_nil x276 (.k (.k (.d .nil))) rfl)))) (ab_nil s248 (.k (.k (.d .nil))) rfl)) sc__law_gap_rows.nd (by first | exact Or.inl rfl | exact Or.inr rfl))) (fun s280 => (ab_frz 1 rfl (ab_ret () () (av 1 rfl) (wk_un rfl) (wk_un rfl) rfl))) rfl po rfl rfl)) sc__law_gap_rows.nd (by first | exact Or.inl rfl | exact Or.inr rfl)) rfl
def m__law_draw : List D → R Unit (D × D)
  | [a317, a318] => R.lft (ixG a317 (.int 1)) fun x319 => R.asL a317 fun l323 => R.lft (addA x319 (.int 1)) fun x321 => R.setAt l323 (.int 1) x321 fun x322 => R.bind (R.lft (ixG x322 (.int 0)) fun x324 => R.lft (lenG [x324]) fun x325 => R.lft (ltG x319 x325) fun x326 => R.asB x326 fun b327 => if b327 then R.lft (ixG x322 (.int 0)) fun x328 => R.lft (ixG x328 x319) fun x329 => R.lft (intG1 [x329]) fun x330 => R.lft (modG x330 a318) fun x331 => R.ok x331 else R.ok (.int 0)) fun x332 => R.ok (x332, x322)
  | _ => .no
theorem l__law_draw : ∀ o ds, m__law_draw (o :: ds) ≠ .no → ds.length = 1 := by
  intro o ds h
  unfold m__law_draw at h
  split at h
  · rename_i e; cases e; rfl
  · exact absurd rfl h
abbrev s__law_draw : Stmt := topS 32
theorem sc__law_draw : FnScope ["_law_pool_here", "_law_many", "_law_at"] ["_law_pool_here", "_law_many"] (defScope s__law_draw) := ⟨rfl, rfl, rfl, by decide +kernel, rfl, by decide +kernel, by decide +kernel⟩
theorem ok__law_draw {f : Addr} {fd : FuncData} (F : Fun K "_law_draw" "_law_draw" s__law_draw f fd) (T : Txt P w K mg) : FnG P w K mg base (L2.CX P w) 1 f fd ["_law_pool_here", "_law_many"] (spM K (some [] :: mk0 1) none (L1e m__law_draw)) := by
  refine okR0 (m := 2) F sc__law_draw rfl rfl (fun cdv A outer s H E hr hG te tk po o ds hl => ?_)
  match ds, hl with
  | [a318], _ =>
    exact AB.eq (ab_set 2 () (a_ix (al 0 rfl) (AE.al a_int)) (wk_un rfl) (fun x320 => (ab_setIx (tag := (some 0)) (d := o) 0 rfl () (AE.al a_int) (a_op op_addA od_addA (AE.al (av 2 rfl)) (AE.al a_int)) (wk_un rfl) (fun x322 => (ab_ret () x322 (a_if (at_cmp op_lt od_lt (AE.al (av 2 rfl)) (AE.al (a_callB call_len cd_len PySem.boot_len T.z_len (by rfl) (aal_cons (AE.al (a_ix (al 0 rfl) (AE.al a_int))) aal_nil))) (nomark _)) (a_op op_mod od_mod (AE.al (a_callT call_int1 cd_int boot_int T.z_int (by rfl) (aal_cons (AE.al (a_ix (AE.al (a_ix (al 0 rfl) (AE.al a_int))) (AE.al (av 2 rfl)))) aal_nil))) (AE.al (av 1 rfl))) a_int) (wk_un rfl) (.k (.d (.d .nil))) rfl)))) sc__law_draw.nd (by first | exact Or.inl rfl | exact Or.inr rfl)) rfl
def m__law_pick : List D → R Unit (D × D)
  | [a307, a308] => R.lft (lenG [a308]) fun x315 => R.call1e (m__law_draw [a307, x315]) () fun x313 w316 => R.lft (ixG a308 x313) fun x310 => R.ok (x310, w316)
  | _ => .no
theorem l__law_pick : ∀ o ds, m__law_pick (o :: ds) ≠ .no → ds.length = 1 := by
  intro o ds h
  unfold m__law_pick at h
  split at h
  · rename_i e; cases e; rfl
  · exact absurd rfl h
abbrev s__law_pick : Stmt := topS 33
theorem sc__law_pick : FnScope ["_law_pool_here", "_law_some"] ["_law_pool_here", "_law_some"] (defScope s__law_pick) := ⟨rfl, rfl, rfl, by decide +kernel, rfl, by decide +kernel, by decide +kernel⟩
theorem ok__law_pick {f : Addr} {fd : FuncData} (F : Fun K "_law_pick" "_law_pick" s__law_pick f fd) (T : Txt P w K mg) (d__law_draw : Dfn P w K mg base 1 "_law_draw" (some [] :: mk0 1) none (L1e m__law_draw)) : FnG P w K mg base (L2.CX P w) 2 f fd ["_law_pool_here", "_law_some"] (spM K (some [] :: mk0 1) none (L1e m__law_pick)) := by
  refine okR0 (m := 1) F sc__law_pick rfl rfl (fun cdv A outer s H E hr hG te tk po o ds hl => ?_)
  match ds, hl with
  | [a308], _ =>
    exact AB.eq (ab_retF (tag := (some 0)) (fs := []) (w := o) 0 rfl () (fun w309 => w309) (af_ix (AE.lift (av 1 rfl)) (fun w311 => (af_ref0 d__law_draw l__law_draw (afa_cons (AE.lift (a_callB call_len cd_len PySem.boot_len T.z_len (by rfl) (aal_cons (AE.al (av 1 rfl)) aal_nil))) (fun w314 => (AA.lift aa_nil))) rfl (hr.mono (by decide)) hG tk (by rfl)))) (fun _ => (wk_un rfl)) (fun w309 => (.k (.d .nil))) rfl) rfl
def m__law_kinds : List D → R Unit (D × D)
  | [a294] => R.few [(.str "bare"), (.str "tried"), (.str "locked")] fun l305 => R.call1e (m__law_pick [a294, (.lst l305)]) () fun x297 w299 => R.few [(.str "in"), (.str "ahead"), (.str "none"), (.str "locked"), (.str "in")] fun l306 => R.call1e (m__law_pick [w299, (.lst l306)]) () fun x301 w303 => R.few [x297, x301] fun l304 => R.ok ((.lst l304), w303)
  | _ => .no
theorem l__law_kinds : ∀ o ds, m__law_kinds (o :: ds) ≠ .no → ds.length = 0 := by
  intro o ds h
  unfold m__law_kinds at h
  split at h
  · rename_i e; cases e; rfl
  · exact absurd rfl h
abbrev s__law_kinds : Stmt := topS 36
theorem sc__law_kinds : FnScope ["_law_pool_here"] ["_law_pool_here"] (defScope s__law_kinds) := ⟨rfl, rfl, rfl, by decide +kernel, rfl, by decide +kernel, by decide +kernel⟩
theorem ok__law_kinds {f : Addr} {fd : FuncData} (F : Fun K "_law_kinds" "_law_kinds" s__law_kinds f fd) (T : Txt P w K mg) (d__law_pick : Dfn P w K mg base 2 "_law_pick" (some [] :: mk0 1) none (L1e m__law_pick)) : FnG P w K mg base (L2.CX P w) 3 f fd ["_law_pool_here"] (spM K (some [] :: mk0 0) none (L1e m__law_kinds)) := by
  refine okR0 (m := 0) F sc__law_kinds rfl rfl (fun cdv A outer s H E hr hG te tk po o ds hl => ?_)
  match ds, hl with
  | [], _ =>
    exact AB.eq (ab_retF (tag := (some 0)) (fs := []) (w := o) 0 rfl () (fun w295 => w295) (af_lst (afa_cons (af_ref0 d__law_pick l__law_pick (afa_cons (AE.lift (AN.ae (a_lst (aa_cons a_str (aa_cons a_str (aa_cons a_str aa_nil)))))) (fun w298 => (AA.lift aa_nil))) rfl (hr.mono (by decide)) hG tk (by rfl)) (fun w296 => (afa_cons (af_ref0 d__law_pick l__law_pick (afa_cons (AE.lift (AN.ae (a_lst (aa_cons a_str (aa_cons a_str (aa_cons a_str (aa_cons a_str (aa_cons a_str aa_nil)))))))) (fun w302 => (AA.lift aa_nil))) rfl (hr.mono (by decide)) hG tk (by rfl)) (fun w300 => (AA.lift aa_nil)))))) (fun _ => (wk_un rfl)) (fun w295 => (.k .nil)) rfl) rfl
def m__law_same : List D → R Unit D
  | [a359, a360] => R.lft (reprG [a359]) fun x361 => R.lft (reprG [a360]) fun x362 => R.lft (eqG x361 x362) fun x363 => R.ok x363
  | _ => .no
theorem l__law_same : ∀ ds, m__law_same ds ≠ .no → ds.length = 2 := by
  intro ds h
  unfold m__law_same at h
  split at h
  · rfl
  · exact absurd rfl h
abbrev s__law_same : Stmt := topS 34
theorem sc__law_same : FnScope ["_law_found", "_law_due"] ["_law_found", "_law_due"] (defScope s__law_same) := ⟨rfl, rfl, rfl, by decide +kernel, rfl, by decide +kernel, by decide +kernel⟩
theorem ok__law_same {f : Addr} {fd : FuncData} (F : Fun K "_law_same" "_law_same" s__law_same f fd) (T : Txt P w K mg) : FnG P w K mg base (L2.CX P w) 1 f fd ["_law_found", "_law_due"] (spM K (mk0 2) none (Lp m__law_same)) := by
  refine okP F sc__law_same rfl (fun cdv A outer s H E hr hG te tk po ds hl => ?_)
  match ds, hl with
  | [a359, a360], _ => exact AB.eq (ab_ret () () (a_cmp (op_eqA hr.units) od_eq (AE.al (a_callB (cr_repr hG hr.units) cd_repr boot_repr T.z_repr (by rfl) (aal_cons (AE.al (av 0 rfl)) aal_nil))) (AE.al (a_callB (cr_repr hG hr.units) cd_repr boot_repr T.z_repr (by rfl) (aal_cons (AE.al (av 1 rfl)) aal_nil))) (nomark _)) (wk_un rfl) (wk_un rfl) rfl) rfl
def m__law_no_word : List D → R Unit D
  | [a333, a334] => R.few [] fun l358 => R.tryc (R.out (fun (s343 : D) => R.tryc (R.out (fun (s351 : D) => R.few [a334, a334] fun l353 => R.call (m__law_same [s351, (.lst l353)]) () fun x352 => R.ok x352) Empty.elim Empty.elim (fun d (_ : Unit) => R.ok d)) (R.meth mt_behind "behind" a333 fun g346 => R.call (g346 [a333, a334]) () fun x345 => R.ok (TOut.nx s343)) mt_UnknownName (fun y354 => R.asL s343 fun l350 => R.lft (xget y354.fs "name") fun x348 => R.push l350 x348 fun x349 => R.ok (TOut.nx x349)) ()) Empty.elim Empty.elim (fun d (_ : Unit) => R.ok d)) (R.meth mt_ahead "ahead" a333 fun g338 => R.call (g338 [a333, a334]) () fun x337 => R.ok (TOut.nx (.lst l358))) mt_UnknownName (fun y356 => R.asL (.lst l358) fun l342 => R.lft (xget y356.fs "name") fun x340 => R.push l342 x340 fun x341 => R.ok (TOut.nx x341)) ()
  | _ => .no
theorem l__law_no_word : ∀ ds, m__law_no_word ds ≠ .no → ds.length = 2 := by
  intro ds h
  unfold m__law_no_word at h
  split at h
  · rfl
  · exact absurd rfl h
abbrev s__law_no_word : Stmt := topS 42
theorem sc__law_no_word : FnScope ["_law_plain", "_law_value", "_law_refused", "e"] ["_law_plain", "_law_value"] (defScope s__law_no_word) := ⟨rfl, rfl, rfl, by decide +kernel, rfl, by decide +kernel, by decide +kernel⟩
theorem ok__law_no_word {f : Addr} {fd : FuncData} (F : Fun K "_law_no_word" "_law_no_word" s__law_no_word f fd) (T : Txt P w K mg) (d_m_ahead : ∀ C mf, mt_ahead C = some mf → MethC P w K mg base 3 C "ahead" none mf) (d_m_behind : ∀ C mf, mt_behind C = some mf → MethC P w K mg base 4 C "behind" none mf) (d__law_same : Dfn P w K mg base 1 "_law_same" (mk0 2) none (Lp m__law_same)) : FnG P w K mg base (L2.CX P w) 5 f fd ["_law_plain", "_law_value"] (spM K (mk0 2) none (Lp m__law_no_word)) := by
  refine okP F sc__law_no_word rfl (fun cdv A outer s H E hr hG te tk po ds hl => ?_)
  match ds, hl with
  | [a333, a334], _ => exact AB.eq (ab_setO 2 () (a_lst aa_nil) (wk_un rfl) (fun x335 => (ab_try 3 [.un, .un, .un, .un] (S := D) (βB := Unit) (fun (s336 : D) => [.fz a333, .fz a334, .ow none s336 [], .un]) (fun _ => [.fz a333, .fz a334, .ow none x335 [], .un]) (fun _ => ()) (T.e_UnknownName.at (by rfl)) te rfl rfl sc__law_no_word.nd rfl rfl (fun E' pn xe te po => (ab_expr () (a_meth d_m_ahead (av 0 rfl) (ac_pos (aa_cons (av 1 rfl) aa_nil)) (hr.mono (by decide)) hG (fun σ => passAt te σ)) (.k (.k (.k (.d .nil)))) (ab_nil x335 (.k (.k (.k (.d .nil)))) rfl))) (fun a d oe C c pn _ g339 hmt hC hz hv => (ab_app (tag := none) (d := x335) 2 rfl () (a_xf 3 T.xf_UnknownName_name hmt hC hz hv rfl) (wk_un rfl) (fun x341 => (ab_nil x341 (.k (.k (.k (.d .nil)))) rfl)))) (fun _ => (wk_un rfl)) (fun _ => rfl) (fun z => Empty.elim z) (fun z => Empty.elim z) (fun s343 => (ab_try 3 [.un, .un, .un, .un] (S := D) (βB := Unit) (fun (s344 : D) => [.fz a333, .fz a334, .ow none s344 [], .un]) (fun _ => [.fz a333, .fz a334, .ow none s343 [], .un]) (fun _ => ()) (T.e_UnknownName.at (by rfl)) te rfl rfl sc__law_no_word.nd rfl rfl (fun E' pn xe te po => (ab_expr () (a_meth d_m_behind (av 0 rfl) (ac_pos (aa_cons (av 1 rfl) aa_nil)) (hr.mono (by decide)) hG (fun σ => passAt te σ)) (.k (.k (.k (.d .nil)))) (ab_nil s343 (.k (.k (.k (.d .nil)))) rfl))) (fun a d oe C c pn _ g347 hmt hC hz hv => (ab_app (tag := none) (d := s343) 2 rfl () (a_xf 3 T.xf_UnknownName_name hmt hC hz hv rfl) (wk_un rfl) (fun x349 => (ab_nil x349 (.k (.k (.k (.d .nil)))) rfl)))) (fun _ => (wk_un rfl)) (fun _ => rfl) (fun z => Empty.elim z) (fun z => Empty.elim z) (fun s351 => (ab_frz 2 rfl (ab_ret () () (a_call d__law_same l__law_same (aa_cons (av 2 rfl) (aa_cons (AN.ae (a_lst (aa_cons (av 1 rfl) (aa_cons (av 1 rfl) aa_nil)))) aa_nil)) (hr.mono (by decide)) hG tk (by rfl)) (wk_un rfl) (wk_un rfl) rfl))))))) sc__law_no_word.nd (by first | exact Or.inl rfl | exact Or.inr rfl)) rfl
def m__law_not_done : List D → R Unit D
  | [a420, a421, a422] => R.asI a422 fun i423 => R.lft (slG a420 none (some i423)) fun x424 => R.lft (notInA a421 x424) fun x425 => R.ok x425
  | _ => .no
theorem l__law_not_done : ∀ ds, m__law_not_done ds ≠ .no → ds.length = 3 := by
  intro ds h
  unfold m__law_not_done at h
  split at h
  · rfl
  · exact absurd rfl h
abbrev s__law_not_done : Stmt := topS 39
theorem sc__law_not_done : FnScope ["_law_pulls", "_law_word", "_law_many"] ["_law_pulls", "_law_word", "_law_many"] (defScope s__law_not_done) := ⟨rfl, rfl, rfl, by decide +kernel, rfl, by decide +kernel, by decide +kernel⟩
theorem ok__law_not_done {f : Addr} {fd : FuncData} (F : Fun K "_law_not_done" "_law_not_done" s__law_not_done f fd) (T : Txt P w K mg) : FnG P w K mg base (L2.CX P w) 1 f fd ["_law_pulls", "_law_word", "_law_many"] (spM K (mk0 3) none (Lp m__law_not_done)) := by
  refine okP F sc__law_not_done rfl (fun cdv A outer s H E hr hG te tk po ds hl => ?_)
  match ds, hl with
  | [a420, a421, a422], _ => exact AB.eq (ab_ret () () (a_cmp (op_notInA (u65 hr)) od_notInA (AE.al (av 1 rfl)) (AE.al (a_sl (AE.al (av 0 rfl)) ao_none (ao_some (AE.al (av 2 rfl))))) (by rfl)) (wk_un rfl) (wk_un rfl) rfl) rfl
def m__law_opens_at : List D → R Unit D
  | [a384, a385] => R.lft (lenG [a385]) fun x386 => R.lft (addA x386 (.int 1)) fun x387 => R.rng1 x387 fun l388 => R.after (R.for' l388 () fun d391 s390 => R.bind (R.call (m__law_not_done [a385, (.str "empty"), d391]) () fun x394 => R.asB x394 fun b395 => if (!b395) then R.call (m__law_not_done [a385, (.str "let"), d391]) () fun x392 => R.asB x392 fun b393 => R.ok b393 else R.ok false) fun b396 => if b396 then R.lft (neG a384 (.str "locked")) fun x397 => R.asB x397 fun b398 => if b398 then R.ok (Step.rt d391 ()) else R.call (m__law_gap_rows [a385]) () fun x399 => R.items x399 fun l400 => R.after (R.for' l400 () fun d403 s402 => R.tup2 d403 fun x404 x405 => R.bind (R.bind (R.lft (leG x404 d391) fun x408 => R.asB x408 fun b409 => if b409 then R.lft (leG d391 x405) fun x410 => R.ok x410 else R.ok (.bl false)) fun x411 => R.asB x411 fun b412 => if b412 then R.call (m__law_not_done [a385, (.str "out"), x404]) () fun x406 => R.asB x406 fun b407 => R.ok b407 else R.ok false) fun b413 => if b413 then R.ok (Step.rt d391 ()) else R.ok (Step.nx ())) (fun s414 => R.ok (Step.nx ())) fun d416 s415 => R.ok (Step.rt d416 ()) else R.ok (Step.nx ())) (fun s417 => R.ok .non) fun d419 s418 => R.ok d419
  | _ => .no
theorem l__law_opens_at : ∀ ds, m__law_opens_at ds ≠ .no → ds.length = 2 := by
  intro ds h
  unfold m__law_opens_at at h
  split at h
  · rfl
  · exact absurd rfl h
abbrev s__law_opens_at : Stmt := topS 40
theorem sc__law_opens_at : FnScope ["_law_opens", "_law_pulls", "_law_many", "_law_first", "_law_last"] ["_law_opens", "_law_pulls"] (defScope s__law_opens_at) := ⟨rfl, rfl, rfl, by decide +kernel, rfl, by decide +kernel, by decide +kernel⟩
theorem ok__law_opens_at {f : Addr} {fd : FuncData} (F : Fun K "_law_opens_at" "_law_opens_at" s__law_opens_at f fd) (T : Txt P w K mg) (d__law_gap_rows : Dfn P w K mg base 2 "_law_gap_rows" (mk0 1) none (Lp m__law_gap_rows)) (d__law_not_done : Dfn P w K mg base 1 "_law_not_done" (mk0 3) none (Lp m__law_not_done)) : FnG P w K mg base (L2.CX P w) 3 f fd ["_law_opens", "_law_pulls"] (spM K (mk0 2) none (Lp m__law_opens_at)) := by
  refine okP F sc__law_opens_at rfl (fun cdv A outer s H E hr hG te tk po ds hl => ?_)
  match ds, hl with
  | [a384, a385], _ => exact AB.eq (ab_for (S := Unit) (own := [2]) (fun (s389 : Unit) => [.fz a384, .fz a385, .un, .un, .un]) () (fun s418 => ()) () (ai_rng1 T.z_range (by rfl) (AE.al (a_op op_addA od_addA (AE.al (a_callB call_len cd_len PySem.boot_len T.z_len (by rfl) (aal_cons (AE.al (av 1 rfl)) aal_nil))) (AE.al a_int)))) (wk_un rfl) (.k (.k (.d (.d (.d .nil))))) (fun s418 => (wk_un rfl)) (fun s390 d391 => (ag_name 2 (ab_ifL () (AW.at (aw_and (at_not (at_val (a_call d__law_not_done l__law_not_done (aa_cons (av 1 rfl) (aa_cons a_str (aa_cons (av 2 rfl) aa_nil))) (hr.mono (by decide)) hG tk (by rfl)))) (aw_and1 (at_val (a_call d__law_not_done l__law_not_done (aa_cons (av 1 rfl) (aa_cons a_str (aa_cons (av 2 rfl) aa_nil))) (hr.mono (by decide)) hG tk (by rfl)))))) (wk_un rfl) (ab_ifT () (at_cmp (op_neA hr.units) od_ne (AE.al (av 0 rfl)) (AE.al a_str) (nomark _)) (wk_un rfl) (ab_ret () () (av 2 rfl) (wk_un rfl) (.k (.k (.d (.d (.d .nil))))) rfl) (ab_for (S := Unit) (own := [3, 4]) (fun (s401 : Unit) => [.fz a384, .fz a385, .fz d391, .un, .un]) () (fun s415 => ()) () (ai_items (a_call d__law_gap_rows l__law_gap_rows (aa_cons (av 1 rfl) aa_nil) (hr.mono (by decide)) hG tk (by rfl))) (wk_un rfl) (.k (.k (.k (.d (.d .nil))))) (fun s415 => (.k (.k (.d (.d (.d .nil)))))) (fun s402 d403 => (ag_tup2 rfl (fun x404 x405 => (ags_cons (ag_name 3 (ags_cons (ag_name 4 (ags_nil (ab_ifL () (AW.at (aw_and (at_chain op_le od_le op_le od_le (AE.al (av 3 rfl)) (AE.al (av 2 rfl)) (AE.al (av 4 rfl))) (aw_and1 (at_val (a_call d__law_not_done l__law_not_done (aa_cons (av 1 rfl) (aa_cons a_str (aa_cons (av 3 rfl) aa_nil))) (hr.mono (by decide)) hG tk (by rfl)))))) (wk_un rfl) (ab_ret () () (av 2 rfl) (wk_un rfl) (.k (.k (.k (.d (.d .nil))))) rfl) (ab_nil () (.k (.k (.k (.d (.d .nil))))) rfl))) sc__law_opens_at.nd (by first | exact Or.inl rfl | exact Or.inr rfl))) sc__law_opens_at.nd (by first | exact Or.inl rfl | exact Or.inr rfl)))))) (fun s414 => (ab_nil () (.k (.k (.d (.d (.d .nil))))) rfl)) rfl po rfl rfl)) (ab_nil () (.k (.k (.d (.d (.d .nil))))) rfl)) sc__law_opens_at.nd (by first | exact Or.inl rfl | exact Or.inr rfl))) (fun s417 => (ab_ret () () a_non (wk_un rfl) (wk_un rfl) rfl)) rfl po rfl rfl) rfl
def m__law_opening_rows : List D → R Unit D
  | [a364, a365] => R.lft (lenG [a365]) fun x366 => R.lft (notInA (.str "empty") a365) fun x368 => R.asB x368 fun b369 => if b369 then R.few [(.int 0), x366] fun l370 => R.few [(.tup l370)] fun l371 => R.ok (.lst l371) else R.call (m__law_opens_at [a364, a365]) () fun x372 => R.asQ a365 fun _ => R.lft (idxG a365 [(.str "empty")]) fun x374 => R.few [(.int 0), x374] fun l379 => R.few [(.tup l379)] fun l380 => R.bind (R.lft (isNG x372 .non) fun x375 => R.asB x375 fun b376 => if b376 then R.few [] fun l381 => R.ok (.lst l381) else R.few [x372, x366] fun l382 => R.few [(.tup l382)] fun l383 => R.ok (.lst l383)) fun x377 => R.lft (addA (.lst l380) x377) fun x378 => R.ok x378
  | _ => .no
theorem l__law_opening_rows : ∀ ds, m__law_opening_rows ds ≠ .no → ds.length = 2 := by
  intro ds h
  unfold m__law_opening_rows at h
  split at h
  · rfl
  · exact absurd rfl h
abbrev s__law_opening_rows : Stmt := topS 41
theorem sc__law_opening_rows : FnScope ["_law_opens", "_law_pulls", "_law_many", "_law_least"] ["_law_opens", "_law_pulls"] (defScope s__law_opening_rows) := ⟨rfl, rfl, rfl, by decide +kernel, rfl, by decide +kernel, by decide +kernel⟩
theorem ok__law_opening_rows {f : Addr} {fd : FuncData} (F : Fun K "_law_opening_rows" "_law_opening_rows" s__law_opening_rows f fd) (T : Txt P w K mg) (d__law_opens_at : Dfn P w K mg base 3 "_law_opens_at" (mk0 2) none (Lp m__law_opens_at)) : FnG P w K mg base (L2.CX P w) 4 f fd ["_law_opens", "_law_pulls"] (spM K (mk0 2) none (Lp m__law_opening_rows)) := by
  refine okP F sc__law_opening_rows rfl (fun cdv A outer s H E hr hG te tk po ds hl => ?_)
  match ds, hl with
  | [a364, a365], _ => exact AB.eq (ab_set 2 () (a_callB call_len cd_len PySem.boot_len T.z_len (by rfl) (aal_cons (AE.al (av 1 rfl)) aal_nil)) (wk_un rfl) (fun x367 => (ab_ifT () (at_cmp (op_notInA (u65 hr)) od_notInA (AE.al a_str) (AE.al (av 1 rfl)) (by rfl)) (wk_un rfl) (ab_ret () () (AN.ae (a_lst (aa_cons (a_tup (aa_cons a_int (aa_cons (av 2 rfl) aa_nil))) aa_nil))) (wk_un rfl) (wk_un rfl) rfl) (ab_set 3 () (a_call d__law_opens_at l__law_opens_at (aa_cons (av 0 rfl) (aa_cons (av 1 rfl) aa_nil)) (hr.mono (by decide)) hG tk (by rfl)) (wk_un rfl) (fun x373 => (ab_ret () () (a_op op_addA od_addA (AE.al (AN.ae (a_lst (aa_cons (a_tup (aa_cons a_int (aa_cons (a_idx (u65 hr) (AE.al (av 1 rfl)) (aal_cons (AE.al a_str) aal_nil)) aa_nil))) aa_nil)))) (AE.al (a_if (at_cmp op_isN od_isN (AE.al (av 3 rfl)) (AE.al a_non) (nomark _)) (AN.ae (a_lst aa_nil)) (AN.ae (a_lst (aa_cons (a_tup (aa_cons (av 3 rfl) (aa_cons (av 2 rfl) aa_nil))) aa_nil)))))) (wk_un rfl) (wk_un rfl) rfl)) sc__law_opening_rows.nd (by first | exact Or.inl rfl | exact Or.inr rfl)))) sc__law_opening_rows.nd (by first | exact Or.inl rfl | exact Or.inr rfl)) rfl
def m__law_numbers : List D → R Unit D
  | [a433, a434, a435] => R.asI (.int 1) fun x436 => R.lft (subG (.int (-x436)) a433) fun x437 => R.lft (max2G [a433, x437]) fun x438 => R.few [] fun l487 => R.lft (lenG [a435]) fun x442 => R.rng1 x442 fun l443 => R.after (R.for' l443 ((x438, (.lst l487)) : D × D) fun d446 s445 => R.bind (R.lft (powG (.int 10) (.int 18)) fun x449 => R.lft (geG x438 x449) fun x450 => R.asB x450 fun b451 => if b451 then R.lft (gtG s445.1 (.int 0)) fun x447 => R.asB x447 fun b448 => R.ok b448 else R.ok false) fun b452 => if b452 then R.asL s445.2 fun l456 => R.lft (ixG a435 d446) fun x453 => R.lft (modG s445.1 x453) fun x454 => R.push l456 x454 fun x455 => R.lft (ixG a435 d446) fun x457 => R.lft (divG s445.1 x457) fun x458 => R.ok (Step.nx ((x458, x455) : D × D)) else R.lft (modG x438 (.int 2147483629)) fun x460 => R.lft (mulG (.int 7919) a434) fun x461 => R.lft (addA x460 x461) fun x462 => R.lft (addA x462 (.int 1)) fun x463 => R.lft (powG x463 (.int 3)) fun x464 => R.lft (modG x464 (.int 2147483647)) fun x465 => R.lft (addA d446 (.int 1)) fun x467 => R.lft (mulG (.int 104729) x467) fun x468 => R.lft (addA x465 x468) fun x469 => R.lft (addA d446 (.int 3)) fun x470 => R.lft (mulG x469 x470) fun x471 => R.lft (modG x471 (.int 2147483629)) fun x472 => R.lft (powG x472 (.int 5)) fun x474 => R.lft (modG x474 (.int 2147483647)) fun x475 => R.lft (mulG x475 (.int 48271)) fun x476 => R.lft (modG x476 (.int 2147483629)) fun x477 => R.asL s445.2 fun l483 => R.lft (divG x477 (.int 16)) fun x479 => R.lft (ixG a435 d446) fun x480 => R.lft (modG x479 x480) fun x481 => R.push l483 x481 fun x482 => R.ok (Step.nx ((s445.1, x482) : D × D))) (fun s484 => R.ok s484.2) fun d486 s485 => R.ok d486
  | _ => .no
theorem l__law_numbers : ∀ ds, m__law_numbers ds ≠ .no → ds.length = 3 := by
  intro ds h
  unfold m__law_numbers at h
  split at h
  · rfl
  · exact absurd rfl h
abbrev s__law_numbers : Stmt := topS 30
theorem sc__law_numbers : FnScope ["_law_cell", "_law_salt", "_law_sizes", "_law_whole", "_law_left", "_law_result", "_law_k", "_law_one"] ["_law_cell", "_law_salt", "_law_sizes"] (defScope s__law_numbers) := ⟨rfl, rfl, rfl, by decide +kernel, rfl, by decide +kernel, by decide +kernel⟩
theorem ok__law_numbers {f : Addr} {fd : FuncData} (F : Fun K "_law_numbers" "_law_numbers" s__law_numbers f fd) (T : Txt P w K mg) : FnG P w K mg base (L2.CX P w) 1 f fd ["_law_cell", "_law_salt", "_law_sizes"] (spM K (mk0 3) none (Lp m__law_numbers)) := by
  refine okP F sc__law_numbers rfl (fun cdv A outer s H E hr hG te tk po ds hl => ?_)
  match ds, hl with
  | [a433, a434, a435], _ => exact AB.eq (ab_set 3 () (a_callB (call_max2 rfl) cd_max2 boot_max T.z_max (by rfl) (aal_cons (AE.al (av 0 rfl)) (aal_cons (AE.al (a_op op_sub od_sub (AE.al (a_neg (AE.al a_int))) (AE.al (av 0 rfl)))) aal_nil))) (wk_un rfl) (fun x439 => (ab_set 4 () (av 3 rfl) (wk_un rfl) (fun x440 => (ab_setO 5 () (a_lst aa_nil) (wk_un rfl) (fun x441 => (ab_for (S := D × D) (own := [6]) (fun (s444 : D × D) => [.fz a433, .fz a434, .fz a435, .fz x439, .fz s444.1, .ow none s444.2 [], .un, .un]) ((x440, x441) : D × D) (fun s485 => ()) () (ai_rng1 T.z_range (by rfl) (AE.al (a_callB call_len cd_len PySem.boot_len T.z_len (by rfl) (aal_cons (AE.al (av 2 rfl)) aal_nil)))) (wk_un rfl) (.k (.k (.k (.k (.k (.k (.d (.d .nil)))))))) (fun s485 => (wk_un rfl)) (fun s445 d446 => (ag_name 6 (ab_ifL () (AW.at (aw_and (at_cmp op_ge od_ge (AE.al (av 3 rfl)) (AE.al (a_op op_pow od_pow (AE.al a_int) (AE.al a_int))) (nomark _)) (aw_and1 (at_cmp op_gt od_gt (AE.al (av 4 rfl)) (AE.al a_int) (nomark _))))) (wk_un rfl) (ab_app (tag := none) (d := s445.2) 5 rfl () (a_op op_mod od_mod (AE.al (av 4 rfl)) (AE.al (a_ix (AE.al (av 2 rfl)) (AE.al (av 6 rfl))))) (wk_un rfl) (fun x455 => (ab_set 4 () (a_op op_fdiv od_div (AE.al (av 4 rfl)) (AE.al (a_ix (AE.al (av 2 rfl)) (AE.al (av 6 rfl))))) (wk_un rfl) (fun x459 => (ab_nil ((x459, x455) : D × D) (.k (.k (.k (.k (.k (.k (.d (.d .nil)))))))) rfl)) sc__law_numbers.nd (by first | exact Or.inl rfl | exact Or.inr rfl)))) (ab_set 7 () (a_op op_mod od_mod (AE.al (a_op op_pow od_pow (AE.al (a_op op_addA od_addA (AE.al (a_op op_addA od_addA (AE.al (a_op op_mod od_mod (AE.al (av 3 rfl)) (AE.al a_int))) (AE.al (a_op op_mul od_mul (AE.al a_int) (AE.al (av 1 rfl)))))) (AE.al a_int))) (AE.al a_int))) (AE.al a_int)) (wk_un rfl) (fun x466 => (ab_set 7 () (a_op op_mod od_mod (AE.al (a_op op_mul od_mul (AE.al (a_op op_addA od_addA (AE.al (av 7 rfl)) (AE.al (a_op op_mul od_mul (AE.al a_int) (AE.al (a_op op_addA od_addA (AE.al (av 6 rfl)) (AE.al a_int))))))) (AE.al (a_op op_addA od_addA (AE.al (av 6 rfl)) (AE.al a_int))))) (AE.al a_int)) (wk_un rfl) (fun x473 => (ab_set 7 () (a_op op_mod od_mod (AE.al (a_op op_mul od_mul (AE.al (a_op op_mod od_mod (AE.al (a_op op_pow od_pow (AE.al (av 7 rfl)) (AE.al a_int))) (AE.al a_int))) (AE.al a_int))) (AE.al a_int)) (wk_un rfl) (fun x478 => (ab_app (tag := none) (d := s445.2) 5 rfl () (a_op op_mod od_mod (AE.al (a_op op_fdiv od_div (AE.al (av 7 rfl)) (AE.al a_int))) (AE.al (a_ix (AE.al (av 2 rfl)) (AE.al (av 6 rfl))))) (wk_un rfl) (fun x482 => (ab_nil ((s445.1, x482) : D × D) (.k (.k (.k (.k (.k (.k (.d (.d .nil)))))))) rfl)))) sc__law_numbers.nd (by first | exact Or.inl rfl | exact Or.inr rfl))) sc__law_numbers.nd (by first | exact Or.inl rfl | exact Or.inr rfl))) sc__law_numbers.nd (by first | exact Or.inl rfl | exact Or.inr rfl))) sc__law_numbers.nd (by first | exact Or.inl rfl | exact Or.inr rfl))) (fun s484 => (ab_frz 5 rfl (ab_ret () () (av 5 rfl) (wk_un rfl) (wk_un rfl) rfl))) rfl po rfl rfl)) sc__law_numbers.nd (by first | exact Or.inl rfl | exact Or.inr rfl))) sc__law_numbers.nd (by first | exact Or.inl rfl | exact Or.inr rfl))) sc__law_numbers.nd (by first | exact Or.inl rfl | exact Or.inr rfl)) rfl
def m__law_pool : List D → R Unit D
  | [a426, a427, a428] => R.few [(.int 420)] fun l431 => R.lft (repG (.lst l431) a428) fun x430 => R.call (m__law_numbers [a426, a427, x430]) () fun x429 => R.few [x429, (.int 0)] fun l432 => R.ok (.lst l432)
  | _ => .no
theorem l__law_pool : ∀ ds, m__law_pool ds ≠ .no → ds.length = 3 := by
  intro ds h
  unfold m__law_pool at h
  split at h
  · rfl
  · exact absurd rfl h
abbrev s__law_pool : Stmt := topS 31
theorem sc__law_pool : FnScope ["_law_cell", "_law_salt", "_law_many"] ["_law_cell", "_law_salt", "_law_many"] (defScope s__law_pool) := ⟨rfl, rfl, rfl, by decide +kernel, rfl, by decide +kernel, by decide +kernel⟩
theorem ok__law_pool {f : Addr} {fd : FuncData} (F : Fun K "_law_pool" "_law_pool" s__law_pool f fd) (T : Txt P w K mg) (d__law_numbers : Dfn P w K mg base 1 "_law_numbers" (mk0 3) none (Lp m__law_numbers)) : FnG P w K mg base (L2.CX P w) 2 f fd ["_law_cell", "_law_salt", "_law_many"] (spM K (mk0 3) (some []) (Lp m__law_pool)) := by
  refine okP F sc__law_pool rfl (fun cdv A outer s H E hr hG te tk po ds hl => ?_)
  match ds, hl with
  | [a426, a427, a428], _ => exact AB.eq (ab_retW () () (a_lst (aa_cons (a_call d__law_numbers l__law_numbers (aa_cons (av 0 rfl) (aa_cons (av 1 rfl) (aa_cons (AN.ae (a_rep (a_lst (aa_cons a_int aa_nil)) (AE.al (av 2 rfl)))) aa_nil))) (hr.mono (by decide)) hG tk (by rfl)) (aa_cons a_int aa_nil))) (wk_un rfl) (wk_un rfl) rfl) rfl
def m__law_pull_words : List D → R Unit (D × D)
  | [a488] => R.few [] fun l584 => R.few [(.str "out"), (.str "mark"), (.str "wait"), (.str "empty"), (.str "down"), (.str "let")] fun l583 => R.items (.lst l583) fun l490 => R.after (R.for' l490 ((a488, (.lst l584)) : D × D) fun d493 s492 => R.join (fun (s506 : D × D) => R.ok (Step.nx ((s506.1, s506.2) : D × D))) fun k505 => R.call1e (m__law_draw [s492.1, (.int 6)]) () fun x498 w500 => R.lft (eqG d493 (.str "empty")) fun x501 => R.lft (intG1 [x501]) fun x502 => R.lft (mulG (.int 2) x502) fun x503 => R.lft (gtG x498 x503) fun x495 => R.asB x495 fun b496 => if b496 then R.bind2 (R.call1e (m__law_draw [w500, (.int 3)]) () fun x514 w516 => R.lft (gtG x514 (.int 0)) fun x511 => R.asB x511 fun b512 => if b512 then R.lft (lenG [s492.2]) fun x517 => R.ok (x517, w516) else R.lft (lenG [s492.2]) fun x520 => R.lft (addA x520 (.int 1)) fun x521 => R.call1e (m__law_draw [w516, x521]) () fun x518 w522 => R.ok (x518, w522)) fun x509 w510 => R.asI x509 fun i524 => R.lft (slG s492.2 none (some i524)) fun x525 => R.few [d493] fun l531 => R.lft (addA x525 (.lst l531)) fun x526 => R.asI x509 fun i527 => R.lft (slG s492.2 (some i527) none) fun x528 => R.lft (addA x526 x528) fun x529 => k505 ((w510, x529) : D × D) else k505 ((w500, s492.2) : D × D)) (fun s532 => R.call1e (m__law_draw [s532.1, (.int 2)]) () fun x537 w539 => R.lft (eqG x537 (.int 0)) fun x534 => R.asB x534 fun b535 => if b535 then R.ok (s532.2, w539) else R.lft (lenG [s532.2]) fun x543 => R.lft (addA x543 (.int 1)) fun x544 => R.call1e (m__law_draw [w539, x544]) () fun x541 w545 => R.lft (lenG [s532.2]) fun x552 => R.lft (subG x552 x541) fun x553 => R.lft (addA x553 (.int 1)) fun x554 => R.call1e (m__law_draw [w545, x554]) () fun x550 w555 => R.lft (addA x541 x550) fun x548 => R.few [(.str "unlock")] fun l580 => R.call1e (m__law_draw [w555, (.int 4)]) () fun x564 w566 => R.lft (gtG x564 (.int 0)) fun x562 => R.lft (intG1 [x562]) fun x560 => R.lft (repG (.lst l580) x560) fun x558 => R.asI x541 fun i568 => R.lft (slG s532.2 none (some i568)) fun x569 => R.few [(.str "lock")] fun l579 => R.lft (addA x569 (.lst l579)) fun x570 => R.asI x541 fun i571 => R.asI x548 fun i572 => R.lft (slG s532.2 (some i571) (some i572)) fun x573 => R.lft (addA x570 x573) fun x574 => R.lft (addA x574 x558) fun x575 => R.asI x548 fun i576 => R.lft (slG s532.2 (some i576) none) fun x577 => R.lft (addA x575 x577) fun x578 => R.ok (x578, w566)) fun d582 s581 => R.ok (d582, s581.1)
  | _ => .no
theorem l__law_pull_words : ∀ o ds, m__law_pull_words (o :: ds) ≠ .no → ds.length = 0 := by
  intro o ds h
  unfold m__law_pull_words at h
  split at h
  · rename_i e; cases e; rfl
  · exact absurd rfl h
abbrev s__law_pull_words : Stmt := topS 35
theorem sc__law_pull_words : FnScope ["_law_pool_here", "_law_found", "_law_word", "_law_at", "_law_behind", "_law_end"] ["_law_pool_here"] (defScope s__law_pull_words) := ⟨rfl, rfl, rfl, by decide +kernel, rfl, by decide +kernel, by decide +kernel⟩
theorem ok__law_pull_words {f : Addr} {fd : FuncData} (F : Fun K "_law_pull_words" "_law_pull_words" s__law_pull_words f fd) (T : Txt P w K mg) (d__law_draw : Dfn P w K mg base 1 "_law_draw" (some [] :: mk0 1) none (L1e m__law_draw)) : FnG P w K mg base (L2.CX P w) 2 f fd ["_law_pool_here"] (spM K (some [] :: mk0 0) none (L1e m__law_pull_words)) := by
  refine okR0 (m := 5) F sc__law_pull_words rfl rfl (fun cdv A outer s H E hr hG te tk po o ds hl => ?_)
  match ds, hl with
  | [], _ =>
    exact AB.eq (ab_set 1 () (AN.ae (a_lst aa_nil)) (wk_un rfl) (fun x489 => (ab_for (S := D × D) (own := [2]) (fun (s491 : D × D) => [.ow (some 0) s491.1 [], .fz s491.2, .un, .un, .un, .un]) ((o, x489) : D × D) (fun s581 => s581.1) () (ai_items (AN.ae (a_lst (aa_cons a_str (aa_cons a_str (aa_cons a_str (aa_cons a_str (aa_cons a_str (aa_cons a_str aa_nil))))))))) (wk_un rfl) (.k (.k (.d (.d (.d (.d .nil)))))) (fun s581 => (.k (.d (.d (.d (.d (.d .nil))))))) (fun s492 d493 => (ag_name 2 (ab_ifF (tag := (some 0)) (fs := []) (w := s492.1) 0 rfl (S := D × D) (fun (s504 : D × D) => [.ow (some 0) s504.1 [], .fz s504.2, .fz d493, .un, .un, .un]) () (aft_cmp op_gt od_gt (af_ref0 d__law_draw l__law_draw (afa_cons (AE.lift a_int) (fun w499 => (AA.lift aa_nil))) rfl (hr.mono (by decide)) hG tk (by rfl)) (fun w497 => (AE.lift (a_op op_mul od_mul (AE.al a_int) (AE.al (a_callT call_int1 cd_int boot_int T.z_int (by rfl) (aal_cons (AE.al (a_cmp (op_eqA hr.units) od_eq (AE.al (av 2 rfl)) (AE.al a_str) (nomark _))) aal_nil)))))) (nomark _)) (fun _ => (wk_un rfl)) (fun w494 k505 => (ab_setF (tag := (some 0)) (fs := []) (w := w494) 0 3 rfl () (af_if (aft_cmp op_gt od_gt (af_ref0 d__law_draw l__law_draw (afa_cons (AE.lift a_int) (fun w515 => (AA.lift aa_nil))) rfl (hr.mono (by decide)) hG tk (by rfl)) (fun w513 => (AE.lift a_int)) (nomark _)) (fun w508 => (AE.lift (a_callB call_len cd_len PySem.boot_len T.z_len (by rfl) (aal_cons (AE.al (av 1 rfl)) aal_nil)))) (fun w508 => (af_ref0 d__law_draw l__law_draw (afa_cons (AE.lift (a_op op_addA od_addA (AE.al (a_callB call_len cd_len PySem.boot_len T.z_len (by rfl) (aal_cons (AE.al (av 1 rfl)) aal_nil))) (AE.al a_int))) (fun w519 => (AA.lift aa_nil))) rfl (hr.mono (by decide)) hG tk (by rfl)))) (fun _ => (wk_un rfl)) (fun x523 w507 => (ab_set 1 () (a_op op_addA od_addA (AE.al (a_op op_addA od_addA (AE.al (a_sl (AE.al (av 1 rfl)) ao_none (ao_some (AE.al (av 3 rfl))))) (AE.al (AN.ae (a_lst (aa_cons (av 2 rfl) aa_nil)))))) (AE.al (a_sl (AE.al (av 1 rfl)) (ao_some (AE.al (av 3 rfl))) ao_none))) (wk_un rfl) (fun x530 => (ab_nil ((w507, x530) : D × D) (.k (.k (.k (.d (.d (.d .nil)))))) rfl)) sc__law_pull_words.nd (by first | exact Or.inl rfl | exact Or.inr rfl))) sc__law_pull_words.nd (by first | exact Or.inl rfl | exact Or.inr rfl))) (fun w494 k505 => (ab_nil ((w494, s492.2) : D × D) (.k (.k (.k (.d (.d (.d .nil)))))) rfl)) (fun s506 => (ab_nil ((s506.1, s506.2) : D × D) (.k (.k (.d (.d (.d (.d .nil)))))) rfl))) sc__law_pull_words.nd (by first | exact Or.inl rfl | exact Or.inr rfl))) (fun s532 => (ab_ifTF (tag := (some 0)) (fs := []) (w := s532.1) 0 rfl () (aft_cmp (op_eqA hr.units) od_eq (af_ref0 d__law_draw l__law_draw (afa_cons (AE.lift a_int) (fun w538 => (AA.lift aa_nil))) rfl (hr.mono (by decide)) hG tk (by rfl)) (fun w536 => (AE.lift a_int)) (nomark _)) (fun _ => (wk_un rfl)) (fun w533 => (ab_ret () w533 (av 1 rfl) (wk_un rfl) (.k (.d (.d (.d (.d (.d .nil)))))) rfl)) (fun w533 => (ab_setF (tag := (some 0)) (fs := []) (w := w533) 0 3 rfl () (af_ref0 d__law_draw l__law_draw (afa_cons (AE.lift (a_op op_addA od_addA (AE.al (a_callB call_len cd_len PySem.boot_len T.z_len (by rfl) (aal_cons (AE.al (av 1 rfl)) aal_nil))) (AE.al a_int))) (fun w542 => (AA.lift aa_nil))) rfl (hr.mono (by decide)) hG tk (by rfl)) (fun _ => (wk_un rfl)) (fun x546 w540 => (ab_setF (tag := (some 0)) (fs := []) (w := w540) 0 4 rfl () (af_op op_addA od_addA (AE.lift (av 3 rfl)) (fun w549 => (af_ref0 d__law_draw l__law_draw (afa_cons (AE.lift (a_op op_addA od_addA (AE.al (a_op op_sub od_sub (AE.al (a_callB call_len cd_len PySem.boot_len T.z_len (by rfl) (aal_cons (AE.al (av 1 rfl)) aal_nil))) (AE.al (av 3 rfl)))) (AE.al a_int))) (fun w551 => (AA.lift aa_nil))) rfl (hr.mono (by decide)) hG tk (by rfl)))) (fun _ => (wk_un rfl)) (fun x556 w547 => (ab_setF (tag := (some 0)) (fs := []) (w := w547) 0 5 rfl () (af_rep (a_lst (aa_cons a_str aa_nil)) (af_callT call_int1 cd_int boot_int T.z_int (by rfl) (afa_cons (af_cmp op_gt od_gt (af_ref0 d__law_draw l__law_draw (afa_cons (AE.lift a_int) (fun w565 => (AA.lift aa_nil))) rfl (hr.mono (by decide)) hG tk (by rfl)) (fun w563 => (AE.lift a_int)) (nomark _)) (fun w561 => (AA.lift aa_nil))))) (fun _ => (wk_un rfl)) (fun x567 w557 => (ab_ret () w557 (a_op op_addA od_addA (AE.al (a_op op_addA od_addA (AE.al (a_op op_addA od_addA (AE.al (a_op op_addA od_addA (AE.al (a_sl (AE.al (av 1 rfl)) ao_none (ao_some (AE.al (av 3 rfl))))) (AE.al (AN.ae (a_lst (aa_cons a_str aa_nil)))))) (AE.al (a_sl (AE.al (av 1 rfl)) (ao_some (AE.al (av 3 rfl))) (ao_some (AE.al (av 4 rfl))))))) (AE.al (av 5 rfl)))) (AE.al (a_sl (AE.al (av 1 rfl)) (ao_some (AE.al (av 4 rfl))) ao_none))) (wk_un rfl) (.k (.d (.d (.d (.d (.d .nil)))))) rfl)) sc__law_pull_words.nd (by first | exact Or.inl rfl | exact Or.inr rfl))) sc__law_pull_words.nd (by first | exact Or.inl rfl | exact Or.inr rfl))) sc__law_pull_words.nd (by first | exact Or.inl rfl | exact Or.inr rfl))))) rfl po rfl rfl)) sc__law_pull_words.nd (by first | exact Or.inl rfl | exact Or.inr rfl)) rfl
def m_law : List D → R Unit D
  | [a0] => R.asI (.int 8) fun i1 => R.lft (slG a0 none (some i1)) fun x2 => R.few [(.int 7)] fun l75 => R.few [] fun l76 => R.lft (eqG a0 (.lst l76)) fun x3 => R.lft (intG1 [x3]) fun x4 => R.lft (repG (.lst l75) x4) fun x5 => R.lft (addA x2 x5) fun x6 => R.enumA x6 fun l7 => R.after (R.for' l7 () fun d10 s9 => R.tup2 d10 fun x11 x12 => R.lft (addA (.int 5300) x11) fun x14 => R.call (m__law_pool [x12, x14, (.int 60)]) () fun x13 => R.call1e (m__law_kinds [x13]) () fun x17 w18 => R.tup2 x17 fun x20 x21 => R.call1e (m__law_pull_words [w18]) () fun x23 w24 => R.call (m_Plain_of [x20, x21, x23]) () fun x26 => R.few [(.str "out"), (.str "mark"), (.str "wait"), (.str "empty"), (.str "down"), (.str "let"), (.str "lock"), (.str "unlock")] fun l71 => R.items (.lst l71) fun l28 => R.after (R.for' l28 () fun d31 s30 => R.bind (R.lft (inA d31 x23) fun x32 => R.asB x32 fun b33 => if b33 then R.asQ x23 fun _ => R.lft (idxG x23 [d31]) fun x34 => R.ok x34 else R.lft (lenG [x23]) fun x35 => R.ok x35) fun x36 => R.meth mt_ahead "ahead" x26 fun g43 => R.call (g43 [x26, d31]) () fun x42 => R.meth mt_behind "behind" x26 fun g41 => R.call (g41 [x26, d31]) () fun x40 => R.few [x42, x40] fun l45 => R.lft (addA x36 (.int 1)) fun x39 => R.few [x36, x39] fun l46 => R.call (m__law_same [(.lst l45), (.lst l46)]) () fun x38 => R.asB x38 fun b44 => if (!b44) then R.ok (Step.rt (.bl false) ()) else R.ok (Step.nx ())) (fun s47 => R.meth mt_gaps "gaps" x26 fun g51 => R.call (g51 [x26]) () fun x50 => R.call (m__law_gap_rows [x23]) () fun x49 => R.call (m__law_same [x50, x49]) () fun x48 => R.asB x48 fun b52 => if (!b52) then R.ok (Step.rt (.bl false) ()) else R.meth mt_openings "openings" x26 fun g56 => R.call (g56 [x26]) () fun x55 => R.call (m__law_opening_rows [x20, x23]) () fun x54 => R.call (m__law_same [x55, x54]) () fun x53 => R.asB x53 fun b57 => if (!b57) then R.ok (Step.rt (.bl false) ()) else R.few [(.str "out")] fun l64 => R.few [(.str ""), (.str "gone"), (.str "hold"), .non, (.int 0), (.bl true), (.tup l64)] fun l65 => R.items (.lst l65) fun l58 => R.few l58 fun l66 => R.lst (R.fmapS (fun d59 _ => R.call (m__law_no_word [x26, d59]) () fun x60 => R.asB x60 fun b61 => if (!b61) then R.ok (some d59, ()) else R.ok (none, ())) l66 ()) fun x67 _ => R.few [] fun l68 => R.lft (neG x67 (.lst l68)) fun x62 => R.asB x62 fun b63 => if b63 then R.ok (Step.rt (.bl false) ()) else R.ok (Step.nx ())) fun d70 s69 => R.ok (Step.rt d70 ())) (fun s72 => R.ok (.bl true)) fun d74 s73 => R.ok d74
  | _ => .no
theorem l_law : ∀ ds, m_law ds ≠ .no → ds.length = 1 := by
  intro ds h
  unfold m_law at h
  split at h
  · rfl
  · exact absurd rfl h
abbrev s_law : Stmt := topS 43
theorem sc_law : FnScope ["_law_script", "_law_k", "_law_cell", "_law_pool_here", "_law_opens", "_law_asks", "_law_pulls", "_law_plain", "_law_word", "_law_due", "_law_value"] ["_law_script"] (defScope s_law) := ⟨rfl, rfl, rfl, by decide +kernel, rfl, by decide +kernel, by decide +kernel⟩
theorem ok_law {f : Addr} {fd : FuncData} (F : Fun K "law" "law" s_law f fd) (T : Txt P w K mg) (d_m_ahead : ∀ C mf, mt_ahead C = some mf → MethC P w K mg base 3 C "ahead" none mf) (d_m_behind : ∀ C mf, mt_behind C = some mf → MethC P w K mg base 4 C "behind" none mf) (d_m_gaps : ∀ C mf, mt_gaps C = some mf → MethC P w K mg base 5 C "gaps" none mf) (d_m_openings : ∀ C mf, mt_openings C = some mf → MethC P w K mg base 6 C "openings" none mf) (d_Plain_of : StatC P w K mg base 4 "Plain" "of" none m_Plain_of) (d__law_gap_rows : Dfn P w K mg base 2 "_law_gap_rows" (mk0 1) none (Lp m__law_gap_rows)) (d__law_kinds : Dfn P w K mg base 3 "_law_kinds" (some [] :: mk0 0) none (L1e m__law_kinds)) (d__law_no_word : Dfn P w K mg base 5 "_law_no_word" (mk0 2) none (Lp m__law_no_word)) (d__law_opening_rows : Dfn P w K mg base 4 "_law_opening_rows" (mk0 2) none (Lp m__law_opening_rows)) (d__law_pool : Dfn P w K mg base 2 "_law_pool" (mk0 3) (some []) (Lp m__law_pool)) (d__law_pull_words : Dfn P w K mg base 2 "_law_pull_words" (some [] :: mk0 0) none (L1e m__law_pull_words)) (d__law_same : Dfn P w K mg base 1 "_law_same" (mk0 2) none (Lp m__law_same)) : FnG P w K mg base (L2.CX P w) 7 f fd ["_law_script"] (spM K (mk0 1) none (Lp m_law)) := by
  refine okP F sc_law rfl (fun cdv A outer s H E hr hG te tk po ds hl => ?_)
  match ds, hl with
  | [a0], _ => exact AB.eq (ab_for (S := Unit) (own := [1, 2]) (fun (s8 : Unit) => [.fz a0, .un, .un, .un, .un, .un, .un, .un, .un, .un, .un]) () (fun s73 => ()) () (ai_enumA T.z_enumerate (by rfl) (a_op op_addA od_addA (AE.al (a_sl (AE.al (av 0 rfl)) ao_none (ao_some (AE.al a_int)))) (AE.al (AN.ae (a_rep (a_lst (aa_cons a_int aa_nil)) (AE.al (a_callT call_int1 cd_int boot_int T.z_int (by rfl) (aal_cons (AE.al (a_cmp (op_eqA hr.units) od_eq (AE.al (av 0 rfl)) (AE.al (AN.ae (a_lst aa_nil))) (nomark _))) aal_nil)))))))) (wk_un rfl) (.k (.d (.d (.d (.d (.d (.d (.d (.d (.d (.d .nil))))))))))) (fun s73 => (wk_un rfl)) (fun s9 d10 => (ag_tup2 rfl (fun x11 x12 => (ags_cons (ag_name 1 (ags_cons (ag_name 2 (ags_nil (ab_setO 3 () (a_callW d__law_pool l__law_pool (aa_cons (av 2 rfl) (aa_cons (a_op op_addA od_addA (AE.al a_int) (AE.al (av 1 rfl))) (aa_cons a_int aa_nil))) (hr.mono (by decide)) hG tk (by rfl)) (wk_un rfl) (fun x15 => (ab_asgF (tag := none) (fs := []) (w := x15) (own := [4, 5]) 3 rfl () (af_ref0 d__law_kinds l__law_kinds (AA.lift aa_nil) rfl (hr.mono (by decide)) hG tk (by rfl)) (fun _ => (wk_un rfl)) (fun x19 w16 => (ag_tup2 rfl (fun x20 x21 => (ags_cons (ag_name 4 (ags_cons (ag_name 5 (ags_nil (ab_setF (tag := none) (fs := []) (w := w16) 3 6 rfl () (af_ref0 d__law_pull_words l__law_pull_words (AA.lift aa_nil) rfl (hr.mono (by decide)) hG tk (by rfl)) (fun _ => (wk_un rfl)) (fun x25 w22 => (ab_set 7 () (a_stat d_Plain_of (ac_pos (aa_cons (av 4 rfl) (aa_cons (av 5 rfl) (aa_cons (av 6 rfl) aa_nil)))) (hr.mono (by decide)) hG tk (by rfl)) (wk_un rfl) (fun x27 => (ab_for (S := Unit) (own := [8]) (fun (s29 : Unit) => [.fz a0, .fz x11, .fz x12, .ow none w22 [], .fz x20, .fz x21, .fz x25, .fz x27, .un, .un, .un]) () (fun s69 => ()) () (ai_items (AN.ae (a_lst (aa_cons a_str (aa_cons a_str (aa_cons a_str (aa_cons a_str (aa_cons a_str (aa_cons a_str (aa_cons a_str (aa_cons a_str aa_nil))))))))))) (wk_un rfl) (.k (.k (.k (.k (.k (.k (.k (.k (.d (.d (.d .nil))))))))))) (fun s69 => (.k (.d (.d (.d (.d (.d (.d (.d (.d (.d (.d .nil)))))))))))) (fun s30 d31 => (ag_name 8 (ab_set 9 () (a_if (at_cmp (op_inA (u65 hr)) od_inA (AE.al (av 8 rfl)) (AE.al (av 6 rfl)) (by rfl)) (a_idx (u65 hr) (AE.al (av 6 rfl)) (aal_cons (AE.al (av 8 rfl)) aal_nil)) (a_callB call_len cd_len PySem.boot_len T.z_len (by rfl) (aal_cons (AE.al (av 6 rfl)) aal_nil))) (wk_un rfl) (fun x37 => (ab_ifL () (at_not (at_val (a_call d__law_same l__law_same (aa_cons (AN.ae (a_lst (aa_cons (a_meth d_m_ahead (av 7 rfl) (ac_pos (aa_cons (av 8 rfl) aa_nil)) (hr.mono (by decide)) hG tk) (aa_cons (a_meth d_m_behind (av 7 rfl) (ac_pos (aa_cons (av 8 rfl) aa_nil)) (hr.mono (by decide)) hG tk) aa_nil)))) (aa_cons (AN.ae (a_lst (aa_cons (av 9 rfl) (aa_cons (a_op op_addA od_addA (AE.al (av 9 rfl)) (AE.al a_int)) aa_nil)))) aa_nil)) (hr.mono (by decide)) hG tk (by rfl)))) (wk_un rfl) (ab_ret () () a_bl (wk_un rfl) (.k (.k (.k (.k (.k (.k (.k (.k (.d (.d (.d .nil))))))))))) rfl) (ab_nil () (.k (.k (.k (.k (.k (.k (.k (.k (.d (.d (.d .nil))))))))))) rfl))) sc_law.nd (by first | exact Or.inl rfl | exact Or.inr rfl)) sc_law.nd (by first | exact Or.inl rfl | exact Or.inr rfl))) (fun s47 => (ab_ifT () (at_not (at_val (a_call d__law_same l__law_same (aa_cons (a_meth d_m_gaps (av 7 rfl) ac_nil (hr.mono (by decide)) hG tk) (aa_cons (a_call d__law_gap_rows l__law_gap_rows (aa_cons (av 6 rfl) aa_nil) (hr.mono (by decide)) hG tk (by rfl)) aa_nil)) (hr.mono (by decide)) hG tk (by rfl)))) (wk_un rfl) (ab_ret () () a_bl (wk_un rfl) (.k (.d (.d (.d (.d (.d (.d (.d (.d (.d (.d .nil))))))))))) rfl) (ab_ifT () (at_not (at_val (a_call d__law_same l__law_same (aa_cons (a_meth d_m_openings (av 7 rfl) ac_nil (hr.mono (by decide)) hG tk) (aa_cons (a_call d__law_opening_rows l__law_opening_rows (aa_cons (av 4 rfl) (aa_cons (av 6 rfl) aa_nil)) (hr.mono (by decide)) hG tk (by rfl)) aa_nil)) (hr.mono (by decide)) hG tk (by rfl)))) (wk_un rfl) (ab_ret () () a_bl (wk_un rfl) (.k (.d (.d (.d (.d (.d (.d (.d (.d (.d (.d .nil))))))))))) rfl) (ab_ifL () (at_cmp (op_neA hr.units) od_ne (AE.al (AN.ae (a_lc [("_law_value", 10)] (ai_items (AN.ae (a_lst (aa_cons a_str (aa_cons a_str (aa_cons a_str (aa_cons a_non (aa_cons a_int (aa_cons a_bl (aa_cons (a_tup (aa_cons a_str aa_nil)) aa_nil)))))))))) (fun _ _ d59 => (ag_name 10 (ael_if () (fun _ => (at_not (at_val (a_call d__law_no_word l__law_no_word (aa_cons (av 7 rfl) (aa_cons (av 10 rfl) aa_nil)) (hr.mono (by decide)) hG tk0 (by rfl))))) (fun _ => (av 10 rfl)) (.k (.k (.k (.k (.k (.k (.k (.k (.d (.d (.d .nil))))))))))) rfl) sc_law.nd (by first | exact Or.inl rfl | exact Or.inr rfl))) rfl sc_law.nd (blkOk_by (N := ["_law_script", "_law_k", "_law_cell", "_law_pool_here", "_law_opens", "_law_asks", "_law_pulls", "_law_plain", "_law_word", "_law_due", "_law_value"]) (sc := defScope s_law) (by decide +kernel)) (hu_cons rfl hu_nil)))) (AE.al (AN.ae (a_lst aa_nil))) (nomark _)) (wk_un rfl) (ab_ret () () a_bl (wk_un rfl) (.k (.d (.d (.d (.d (.d (.d (.d (.d (.d (.d .nil))))))))))) rfl) (ab_nil () (.k (.d (.d (.d (.d (.d (.d (.d (.d (.d (.d .nil))))))))))) rfl))))) rfl po rfl rfl)) sc_law.nd (by first | exact Or.inl rfl | exact Or.inr rfl))) sc_law.nd (by first | exact Or.inl rfl | exact Or.inr rfl))) sc_law.nd (by first | exact Or.inl rfl | exact Or.inr rfl))) sc_law.nd (by first | exact Or.inl rfl | exact Or.inr rfl)))))))) sc_law.nd (by first | exact Or.inl rfl | exact Or.inr rfl))) sc_law.nd (by first | exact Or.inl rfl | exact Or.inr rfl))) sc_law.nd (by first | exact Or.inl rfl | exact Or.inr rfl)))))) (fun s72 => (ab_ret () () a_bl (wk_un rfl) (wk_un rfl) rfl)) rfl po rfl rfl) rfl
end
end K53

namespace K53
open PySem L2 DM PL PW
theorem g_pulls : gPULLS = .tup (eight.map wd) := id rfl
theorem g_out : gOUT = wd .out := id rfl
theorem g_empty : gEMPTY = wd .empty := id rfl
theorem g_let : gLET = wd .let_ := id rfl
theorem g_lock : gLOCK = wd .lock := id rfl
theorem g_unlock : gUNLOCK = wd .unlock := id rfl
/-- a plain book -/
def P (o a : Wd) (ws : List Wd) : D := .obj "Plain" [("own_opens", wd o), ("own_asks", wd a), ("own_pulls", .tup (ws.map wd))]
section
variable {β γ : Type} (o a : Wd) (ws : List Wd)
theorem f_opens (k : D → R β γ) : R.fld cl_own_opens "own_opens" (P o a ws) k = k (wd o) := id rfl
theorem f_asks (k : D → R β γ) : R.fld cl_own_asks "own_asks" (P o a ws) k = k (wd a) := id rfl
theorem f_pulls (k : D → R β γ) : R.fld cl_own_pulls "own_pulls" (P o a ws) k = k (.tup (ws.map wd)) := id rfl
theorem m_ahead (k : (List D → R Unit D) → R β γ) : R.meth mt_ahead "ahead" (P o a ws) k = k m_Plain_ahead := id rfl
theorem m_behind (k : (List D → R Unit D) → R β γ) : R.meth mt_behind "behind" (P o a ws) k = k m_Plain_behind := id rfl
theorem m_gaps (k : (List D → R Unit D) → R β γ) : R.meth mt_gaps "gaps" (P o a ws) k = k m_Plain_gaps := id rfl
theorem m_openings (k : (List D → R Unit D) → R β γ) : R.meth mt_openings "openings" (P o a ws) k = k m_Plain_openings := id rfl
end
theorem ahead_ok (o a : Wd) (ws : List Wd) (w : Wd) (hw : w ∈ eight) : m_Plain_ahead [P o a ws, wd w] = .ok (.int (ws.idxOf w)) := by
  unfold m_Plain_ahead m_require_pull
  simp only [isW, lft_some, asB_bl, g_pulls, niWt, hw, decide_true, Bool.not_true, Bool.false_eq_true, if_false, bind_ok, call_ok, f_pulls, inWt]
  by_cases h : w ∈ ws
  · simp only [h, decide_true, if_true, asQ_tup, encW.idx_t (by decide) h, lft_some, bind_ok]
  · simp only [h, decide_false, Bool.false_eq_true, if_false, len_tup, List.length_map, lft_some, bind_ok, List.idxOf_eq_length h]
theorem behind_ok (o a : Wd) (ws : List Wd) (w : Wd) (hw : w ∈ eight) : m_Plain_behind [P o a ws, wd w] = .ok (.int (ws.idxOf w + 1)) := by
  unfold m_Plain_behind
  simp only [m_ahead, ahead_ok o a ws w hw, call_ok, add_int, lft_some]
theorem gaps_ok (o a : Wd) (ws : List Wd) : m_Plain_gaps [P o a ws] = .ok (.lst ((gapsF ws).map pr)) := by
  unfold m_Plain_gaps gapsF
  simp only [f_pulls, len_tup, lft_some, g_lock, niWt, asB_bl, m_ahead, ahead_ok o a ws _ h_lock, call_ok, g_unlock, inWt, m_behind, behind_ok o a ws _ h_unlock, few_eq, List.length_cons, List.length_nil, add_lst, List.length_map]
  by_cases h : Wd.lock ∈ ws <;> by_cases h2 : Wd.unlock ∈ ws <;> simp [h, h2, pr]
theorem openings_ok (o a : Wd) (ws : List Wd) : m_Plain_openings [P o a ws] = .ok (.lst ((openF o ws).map pr)) := by
  unfold m_Plain_openings openF
  simp only [f_pulls, len_tup, lft_some, g_empty, niWt, asB_bl, m_ahead, ahead_ok o a ws _ h_empty, call_ok, few_eq, List.length_cons, List.length_nil, List.length_map, join_eq, f_opens, w_locked, eqW]
  by_cases h : Wd.empty ∈ ws
  · simp only [h, decide_true, Bool.not_true, Bool.false_eq_true, if_false, if_true]
    by_cases ho : o = .locked
    · simp only [ho, decide_true, if_true, m_gaps, gaps_ok, call_ok, items_lst]
      rw [for_first (t := openT ws) (v := fun p => .lst ([(0, ws.idxOf .empty), (max p.1 (ws.idxOf .empty + 1), ws.length)].map pr))]
      · cases (gapsF ws).find? (openT ws) <;> simp [pr]
      · intro p _
        have e1 : ((ws.idxOf Wd.empty : Nat) : Int) + 1 = ((ws.idxOf Wd.empty + 1 : Nat) : Int) := by omega
        simp only [pr, tup2_tup, m_behind, behind_ok _ a ws _ h_empty, call_ok, max_int, e1, maxN, lft_some, m_ahead, g_out, g_let, ahead_ok _ a ws _ h_out, ahead_ok _ a ws _ h_let, le_int, min_int, minN, asB_bl, asQ_lst, ite_ok, bind_ok, few_eq, Int.ofNat_le]
        unfold openT
        by_cases q1 : p.1 ≤ ws.idxOf .out <;> by_cases q2 : max p.1 (ws.idxOf .empty + 1) ≤ min p.2 (ws.idxOf .let_) <;> simp [q1, q2, pr]
    · have e1 : ((ws.idxOf Wd.empty : Nat) : Int) + 1 = ((ws.idxOf Wd.empty + 1 : Nat) : Int) := by omega
      simp only [ho, decide_false, Bool.false_eq_true, if_false, m_behind, behind_ok _ a ws _ h_empty, call_ok, m_ahead, g_let, ahead_ok _ a ws _ h_let, e1, le_int, Int.ofNat_le, lft_some, asB_bl, asL_lst, few_eq, push_eq]
      by_cases q : ws.idxOf .empty + 1 ≤ ws.idxOf .let_ <;> simp [q, pr]
  · simp [h, pr]
theorem wrong_ok (ws : List Wd) (hg : Good ws) : m_wrong_pull [.tup (ws.map wd)] = .ok .non := by
  unfold m_wrong_pull
  simp only
  rw [enumA_tup, for_unit, after_nx]
  intro d hd
  obtain ⟨i, x, hx, rfl⟩ := enum_mem hd
  rw [List.getElem?_map] at hx
  cases hi : ws[i]? with
  | none => rw [hi] at hx; cases hx
  | some w =>
    rw [hi] at hx
    obtain rfl : wd w = x := Option.some.inj hx
    have hm : w ∈ eight := hg.mem w (List.mem_of_getElem? hi)
    obtain ⟨s1, s2, s3⟩ := Good.split (x := w) (get_split hi ▸ hg)
    simp only [tup2_tup, isW, lft_some, asB_bl, Bool.not_true, Bool.false_eq_true, if_false, g_pulls, niWt, hm, decide_true, asI_int, PL.sl_tup, cut_lo, ← List.map_take, inWt, s1, decide_false, bind_ok, g_unlock, g_lock, eqW, ite_ok]
    by_cases q : w = .unlock
    · have q2 : ¬ w = Wd.lock := by rw [q]; decide
      simp [q, s2 q]
    · by_cases q2 : w = .lock
      · simp [q2, s3 q2]
      · simp [q, q2]
theorem of_ok {o a : Wd} {ws : List Wd} (ho : o ∈ [Wd.bare, .tried, .locked]) (ha : a ∈ [Wd.in_, .ahead, .none, .locked]) (hg : Good ws) (hl : ws.length ≤ 100) : m_Plain_of [wd o, wd a, .lst (ws.map wd)] = .ok (P o a ws) := by
  have e1 : m_Plain___init__ (.obj "Plain" [] :: (wd o :: (wd a :: (ws.map wd ++ [])))) = m0_Plain___init__ [.obj "Plain" [], wd o, wd a, .tup (ws.map wd)] := by
    unfold m_Plain___init__ starM
    rw [if_pos]
    · simp
    · simp [few, szl]; omega
  have e2 : kOPENS.contains o.s = true := by
    simp only [List.mem_cons, List.not_mem_nil, or_false] at ho
    rcases ho with rfl | rfl | rfl <;> decide +kernel
  have e3 : kASKS.contains a.s = true := by
    simp only [List.mem_cons, List.not_mem_nil, or_false] at ha
    rcases ha with rfl | rfl | rfl | rfl <;> decide +kernel
  have e4 : ∀ (x : Wd) (k : Str → R Unit Bool), R.asS (wd x) k = k x.s := fun _ _ => rfl
  have e5 : m0_Plain___init__ [.obj "Plain" [], wd o, wd a, .tup (ws.map wd)] = .ok (.non, P o a ws) := by
    unfold m0_Plain___init__
    simp only [isW, lft_some, asB_bl, Bool.not_true, Bool.false_eq_true, if_false, e4, e2, e3, bind_ok, wrong_ok ws hg, call_ok, notN_non]
    rfl
  unfold m_Plain_of
  simp only [list_lst, lft_some, asQ_lst, e1, e5, make_ok]
theorem draw_eq : m__law_draw = PL.m_draw := rfl
theorem pick_eq : m__law_pick = PL.m_pick := rfl
theorem pool_eq : m__law_pool = PL.m_pool := rfl
theorem kinds_ok {p : D} (hp : Pool p) : ∃ (o a : Wd) (p' : D), m__law_kinds [p] = .ok (.lst [wd o, wd a], p') ∧ o ∈ [Wd.bare, .tried, .locked] ∧ a ∈ [Wd.in_, .ahead, .none, .locked] ∧ Pool p' := by
  obtain ⟨x, p1, e1, h1, hp1⟩ := pick_ok (xs := [wd .bare, wd .tried, wd .locked]) hp (by decide)
  obtain ⟨y, p2, e2, h2, hp2⟩ := pick_ok (xs := [wd .in_, wd .ahead, wd .none, wd .locked, wd .in_]) hp1 (by decide)
  have k1 : ∃ o ∈ [Wd.bare, .tried, .locked], x = wd o := by
    simp only [List.mem_cons, List.not_mem_nil, or_false] at h1
    rcases h1 with rfl | rfl | rfl <;> exact ⟨_, by decide, rfl⟩
  have k2 : ∃ o ∈ [Wd.in_, .ahead, .none, .locked], y = wd o := by
    simp only [List.mem_cons, List.not_mem_nil, or_false] at h2
    rcases h2 with rfl | rfl | rfl | rfl | rfl <;> exact ⟨_, by decide, rfl⟩
  obtain ⟨o, ho, rfl⟩ := k1
  obtain ⟨a, ha, rfl⟩ := k2
  refine ⟨o, a, p2, ?_, ho, ha, hp2⟩
  unfold m__law_kinds
  simp only [pick_eq, w_bare, w_tried, w_locked, w_in, w_ahead, w_none, few3, few5, few2, e1, e2, call1e_ok]
theorem words_ok {p : D} (hp : Pool p) : ∃ (ws : List Wd) (p' : D), m__law_pull_words [p] = .ok (.lst (ws.map wd), p') ∧ Good ws ∧ ws.length ≤ 8 ∧ Pool p' := by
  unfold m__law_pull_words
  simp only [w_out, w_mark, w_wait, w_empty, w_down, w_let, few0, few6, items_lst, draw_eq]
  generalize hf : (fun (d684 : D) (s683 : D × D) => R.join (fun (s697 : D × D) => R.ok (Step.nx ((s697.1, s697.2) : D × D))) fun k696 => _) = f
  obtain ⟨s', e, q, ws, rfl, hq, hs⟩ := for_ix (I := fun i (s : D × D) => ∃ (q : D) (ws : List Wd), s = (q, .lst (ws.map wd)) ∧ Pool q ∧ Six i ws) (ds := six.map wd) (s := ((p, .lst []) : D × D)) (f := f) 0 ⟨p, [], rfl, hp, List.nodup_nil, by simp, by simp⟩ (fun i d hd s ⟨q, ws, es, hq, hs⟩ => by
    subst es
    rw [Nat.zero_add] at hs ⊢
    rw [List.getElem?_map] at hd
    cases hi : six[i]? with
    | none => rw [hi] at hd; cases hd
    | some w =>
      rw [hi] at hd
      obtain rfl : wd w = d := Option.some.inj hd
      have hl : ws.length ≤ 100 := by
        have := hs.len
        have : i < six.length := (List.getElem?_eq_some_iff.mp hi).1
        have : six.length = 6 := rfl
        omega
      obtain ⟨v1, p1, e1, _, hp1⟩ := draw_ok (m := 6) hq (by decide)
      have hm : mulG (.int 2) (.int (if decide (w = Wd.empty) = true then 1 else 0)) = some (.int (2 * (if decide (w = Wd.empty) = true then 1 else 0))) := mul_int (Or.inl (by omega))
      rw [← hf]
      simp only [join_eq, e1, call1e_ok, eqW, lft_some, int_bl, hm, gt_int, asB_bl]
      generalize decide (2 * (if decide (w = Wd.empty) = true then (1 : Int) else 0) < (v1 : Int)) = b
      cases b
      · exact ⟨_, rfl, p1, ws, rfl, hp1, hs.up⟩
      · obtain ⟨v2, p2, e2, _, hp2⟩ := draw_ok (m := 3) hp1 (by decide)
        simp only [e2, call1e_ok, gt_int, lft_some, asB_bl, len_lst, List.length_map, add_int, if_true]
        generalize decide (0 < (v2 : Int)) = b
        cases b
        · obtain ⟨v3, p3, e3, _, hp3⟩ := draw_ok (m := (ws.length : Int) + 1) hp2 (by omega)
          simp only [Bool.false_eq_true, if_false, e3, call1e_ok, bind2_ok]
          rw [asI_int, ins_d ws v3 w hl]
          exact ⟨_, rfl, p3, _, rfl, hp3, six_ins hs hi⟩
        · simp only [if_true, bind2_ok]
          rw [asI_int, ins_d ws ws.length w hl]
          exact ⟨_, rfl, p2, _, rfl, hp2, six_ins hs hi⟩)
  have e' : R.for' [wd Wd.out, wd Wd.mark, wd Wd.wait, wd Wd.empty, wd Wd.down, wd Wd.let_] (p, D.lst []) f = R.ok (Step.nx (q, D.lst (List.map wd ws))) := e
  have h6 : ws.length ≤ 6 := hs.len
  rw [e', after_nx]
  obtain ⟨v1, p1, e1, _, hp1⟩ := draw_ok (m := 2) hq (by decide)
  simp only [e1, call1e_ok, eq_int, lft_some, asB_bl]
  generalize decide ((v1 : Int) = 0) = b
  cases b
  case true => exact ⟨ws, p1, rfl, hs.good, by omega, hp1⟩
  obtain ⟨i, p2, e2, hi, hp2⟩ := draw_ok (m := (ws.length : Int) + 1) hp1 (by omega)
  obtain ⟨v3, p3, e3, h3, hp3⟩ := draw_ok (m := (ws.length : Int) - i + 1) hp2 (by omega)
  obtain ⟨v4, p4, e4, _, hp4⟩ := draw_ok (m := 4) hp3 (by decide)
  have ej : (i : Int) + v3 = ((i + v3 : Nat) : Int) := by omega
  have hj : i + v3 ≤ ws.length := by omega
  simp only [Bool.false_eq_true, if_false, len_lst, List.length_map, lft_some, add_int, sub_int, e2, call1e_ok, e3, w_unlock, w_lock, few1, e4, gt_int, int_bl, rep01, asI_int, ej, sl_lst, cut_lo, cut_hi, cut_mid]
  generalize decide (0 < (v4 : Int)) = b
  have eA : ws.take i ++ (ws.take (i + v3)).drop i ++ ws.drop (i + v3) = ws := by
    conv => rhs; rw [← List.take_append_drop (i + v3) ws]
    congr 1
    conv => rhs; rw [← List.take_append_drop i (ws.take (i + v3))]
    rw [List.take_take, Nat.min_eq_left (by omega)]
  refine ⟨ws.take i ++ [.lock] ++ (ws.take (i + v3)).drop i ++ (if b = true then [.unlock] else []) ++ ws.drop (i + v3), p4, ?_, lkd_good (by rw [eA]; exact hs.nd) (by rw [eA]; exact fun w hw => List.mem_of_mem_take (hs.mem w hw)) (by cases b <;> simp), ?_, hp4⟩
  · rw [add_lst, if_pos (by simp; omega), lft_some, add_lst, if_pos (by simp; omega), lft_some, add_lst, if_pos (by cases b <;> simp <;> omega), lft_some, add_lst, if_pos (by cases b <;> simp <;> omega), lft_some]
    cases b <;> simp [List.map_take, List.map_drop]
  · cases b <;> simp <;> omega
end K53

namespace K53
open PySem L2 DM PL PW
theorem tk {ws : List Wd} {w : Wd} {m : Nat} (hm : m ≤ ws.length) : w ∈ ws.take m ↔ ws.idxOf w < m := by
  constructor
  · intro h
    obtain ⟨i, hi, e⟩ := List.getElem_of_mem h
    rw [List.length_take] at hi
    rw [List.getElem_take] at e
    have : ws.idxOf w ≤ i := by
      rcases Nat.lt_or_ge i (ws.idxOf w) with q | q
      · have := List.not_of_lt_findIdx (p := fun y => y == w) (xs := ws) q
        rw [e] at this
        simp at this
      · exact q
    omega
  · intro h
    have hl : ws.idxOf w < ws.length := by omega
    refine List.mem_of_getElem? (i := ws.idxOf w) ?_
    rw [List.getElem?_take_of_lt h, List.getElem?_eq_getElem hl]
    simp
theorem dtk {ws : List Wd} {w : Wd} {m : Nat} (hm : m ≤ ws.length) : decide (w ∈ ws.take m) = decide (ws.idxOf w < m) := decide_eq_decide.mpr (tk hm)
theorem locked_ok (ws : List Wd) (m : Nat) (hm : m ≤ ws.length) : m__law_locked_beside [.lst (ws.map wd), .int m] = .ok (.bl (decide (ws.idxOf .lock < m) && decide (m ≤ ws.idxOf .unlock))) := by
  unfold m__law_locked_beside
  simp only [asI_int, PL.sl_lst, cut_lo, lft_some, ← List.map_take, w_lock, w_unlock, inWl, niWl, asB_bl, dtk hm]
  by_cases h : ws.idxOf Wd.lock < m <;> by_cases h2 : m ≤ ws.idxOf Wd.unlock <;> simp [h, h2, Nat.not_lt] <;> omega
theorem notdone_ok (ws : List Wd) (w : Wd) (m : Nat) (hm : m ≤ ws.length) : m__law_not_done [.lst (ws.map wd), wd w, .int m] = .ok (.bl (decide (m ≤ ws.idxOf w))) := by
  unfold m__law_not_done
  simp only [asI_int, PL.sl_lst, cut_lo, lft_some, ← List.map_take, niWl, dtk hm]
  by_cases h : ws.idxOf w < m <;> simp [h, Nat.not_lt] <;> omega
theorem encP : Enc pr 1 where
  ok p := by simp [pr, pd, pds, PyData.canLay0, PyData.canLayAll0]
  dep p := by simp [pr, pd, pds, PyData.depth, PyData.depthAll]
  eq a b := by
    obtain ⟨a1, a2⟩ := a
    obtain ⟨b1, b2⟩ := b
    simp only [pr, pd, pds, PyData.eqv, PyData.eqvAll, Bool.and_true]
    rw [Bool.eq_iff_iff]
    simp
    omega
theorem neP0 (ps : List (Nat × Nat)) : neG (.lst (ps.map pr)) (.lst []) = some (.bl (!decide (ps = []))) := encP.lst.neG (by decide) ps []
theorem at_last {α : Type} (xs : List α) (x : α) : atI (xs ++ [x]) (-1) = some x := by
  unfold atI ixN
  rw [if_neg (by omega), if_pos (by simp; omega), show (-1 + ((xs ++ [x]).length : Int)).toNat = xs.length by simp; omega]
  simp
theorem set_last {β ω : Type} (xs : List D) (x y : D) (k : D → R β ω) : R.setAt (xs ++ [x]) (.int (-1)) y k = k (.lst (xs ++ [y])) := by
  have e : ixN (xs ++ [x]).length (-1) = some xs.length := by
    unfold ixN
    rw [if_neg (by omega), if_pos (by simp; omega), show (-1 + ((xs ++ [x]).length : Int)).toNat = xs.length by simp; omega]
  unfold R.setAt
  simp only [e]
  congr 2
  simp
/-- a turn of the law's own finding of gaps -/
def turnG (ws : List Wd) : D → D → R Unit (Step D) := fun d249 s248 => R.call (m__law_locked_beside [.lst (ws.map wd), d249]) () fun x250 => R.asB x250 fun b251 => if (!b251) then R.bind (R.lft (gtG d249 (.int 0)) fun x266 => R.asB x266 fun b267 => if b267 then R.bind (R.few [] fun l279 => R.lft (neG s248 (.lst l279)) fun x263 => R.asB x263 fun b264 => if b264 then R.bind (R.asI (.int 1) fun x256 => R.lft (ixG s248 (.int (-x256))) fun x257 => R.lft (ixG x257 (.int 1)) fun x258 => R.lft (subG d249 (.int 1)) fun x259 => R.lft (eqG x258 x259) fun x260 => R.asB x260 fun b261 => if b261 then R.lft (subG d249 (.int 1)) fun x252 => R.lft (ixG (.lst (ws.map wd)) x252) fun x253 => R.lft (neG x253 (.str "unlock")) fun x254 => R.asB x254 fun b255 => R.ok b255 else R.ok false) fun b262 => R.ok b262 else R.ok false) fun b265 => R.ok b265 else R.ok false) fun b268 => if b268 then R.asL s248 fun l274 => R.asI (.int 1) fun x270 => R.lft (ixG s248 (.int (-x270))) fun x271 => R.lft (ixG x271 (.int 0)) fun x272 => R.few [x272, d249] fun l275 => R.asI (.int 1) fun x269 => R.setAt l274 (.int (-x269)) (.tup l275) fun x273 => R.ok (Step.nx x273) else R.asL s248 fun l277 => R.few [d249, d249] fun l278 => R.push l277 (.tup l278) fun x276 => R.ok (Step.nx x276) else R.ok (Step.nx s248)
section
variable (ws : List Wd) (m : Nat) (hm : m ≤ ws.length)
include hm
theorem turn_locked (s : D) (h1 : ws.idxOf .lock < m) (h2 : m ≤ ws.idxOf .unlock) : turnG ws (.int m) s = .ok (.nx s) := by
  unfold turnG
  rw [locked_ok ws m hm, call_ok, asB_bl]
  simp [h1, h2]
theorem turn_first (h0 : m = 0) : turnG ws (.int m) (.lst []) = .ok (.nx (.lst ([(0, 0)].map pr))) := by
  unfold turnG
  rw [locked_ok ws m hm, call_ok, asB_bl]
  simp [h0, pr]
theorem turn_app (ps : List (Nat × Nat)) (a b : Nat) (hl : ps.length ≤ 100) (h1 : ¬ (ws.idxOf .lock < m ∧ m ≤ ws.idxOf .unlock)) (hb : b + 1 ≠ m) : turnG ws (.int m) (.lst ((ps ++ [(a, b)]).map pr)) = .ok (.nx (.lst ((ps ++ [(a, b)] ++ [(m, m)]).map pr))) := by
  have e0 : (decide (ws.idxOf .lock < m) && decide (m ≤ ws.idxOf .unlock)) = false := by
    rw [Bool.eq_false_iff]
    intro z
    rw [Bool.and_eq_true] at z
    exact h1 ⟨of_decide_eq_true z.1, of_decide_eq_true z.2⟩
  have e1 : atI ((ps ++ [(a, b)]).map pr) (-1) = some (pr (a, b)) := by rw [List.map_append]; exact at_last _ _
  have e2 : ixG (pr (a, b)) (.int 1) = some (.int b) := rfl
  have e3 : decide ((b : Int) = (m : Int) - 1) = false := decide_eq_false (by omega)
  have e4 : decide (ps ++ [(a, b)] = []) = false := decide_eq_false (by simp)
  unfold turnG
  rw [locked_ok ws m hm, call_ok, asB_bl, e0]
  simp only [gt_int, lft_some, asB_bl, few0, neP0, asI_int, ix_lst, e1, e2, e3, e4, sub_int, eq_int, Bool.not_false, if_true, Bool.false_eq_true, if_false, bind_ok, ite_ok]
  have e5 : (if decide (0 < (m : Int)) = true then false else false) = false := by split <;> rfl
  rw [e5]
  simp only [Bool.false_eq_true, if_false, asL_lst, few2, push_eq, List.length_map, List.length_append, List.length_singleton]
  rw [if_pos (by omega)]
  simp [pr]
theorem turn_ext (ps : List (Nat × Nat)) (a b : Nat) (h1 : ¬ (ws.idxOf .lock < m ∧ m ≤ ws.idxOf .unlock)) (hb : b + 1 = m) (hu : ∀ w, ws[b]? = some w → w ≠ .unlock) : turnG ws (.int m) (.lst ((ps ++ [(a, b)]).map pr)) = .ok (.nx (.lst ((ps ++ [(a, m)]).map pr))) := by
  have e0 : (decide (ws.idxOf .lock < m) && decide (m ≤ ws.idxOf .unlock)) = false := by
    rw [Bool.eq_false_iff]
    intro z
    rw [Bool.and_eq_true] at z
    exact h1 ⟨of_decide_eq_true z.1, of_decide_eq_true z.2⟩
  have e1 : atI ((ps ++ [(a, b)]).map pr) (-1) = some (pr (a, b)) := by rw [List.map_append]; exact at_last _ _
  have e2 : ixG (pr (a, b)) (.int 1) = some (.int b) := rfl
  have e2' : ixG (pr (a, b)) (.int 0) = some (.int a) := rfl
  have e3 : decide ((b : Int) = (m : Int) - 1) = true := decide_eq_true (by omega)
  have e4 : decide (ps ++ [(a, b)] = []) = false := decide_eq_false (by simp)
  have hbl : b < ws.length := by omega
  have e6 : atI (ws.map wd) ((m : Int) - 1) = some (wd ws[b]) := by
    rw [show (m : Int) - 1 = (b : Nat) by omega]
    exact at_nat (by rw [List.getElem?_map, List.getElem?_eq_getElem hbl]; rfl)
  have e7 : decide (ws[b] = Wd.unlock) = false := decide_eq_false (hu _ (List.getElem?_eq_getElem hbl))
  have e8 : decide (0 < (m : Int)) = true := decide_eq_true (by omega)
  unfold turnG
  rw [locked_ok ws m hm, call_ok, asB_bl, e0]
  simp only [gt_int, lft_some, asB_bl, few0, neP0, asI_int, ix_lst, e1, e2, e2', e3, e4, e6, w_unlock, neW, e7, e8, sub_int, eq_int, Bool.not_false, if_true, Bool.false_eq_true, if_false, bind_ok, ite_ok, asL_lst, few2]
  rw [List.map_append, List.map_singleton, set_last]
  simp [pr]
end
def gapK (ws : List Wd) (k : Nat) : List (Nat × Nat) :=
  if k = 0 then [] else if k ≤ ws.idxOf .lock + 1 then [(0, k - 1)] else if k ≤ ws.idxOf .unlock + 1 then [(0, ws.idxOf .lock)] else [(0, ws.idxOf .lock), (ws.idxOf .unlock + 1, k - 1)]
theorem lu {ws : List Wd} (h : Good ws) : ws.idxOf .lock < ws.idxOf .unlock ∨ (ws.idxOf .lock = ws.length ∧ ws.idxOf .unlock = ws.length) := by
  by_cases hu : Wd.unlock ∈ ws
  · left
    have hl := ix_in.mp hu
    have hg : ws[ws.idxOf .unlock]? = some .unlock := by rw [List.getElem?_eq_getElem hl]; simp
    obtain ⟨_, s2, _⟩ := Good.split (x := .unlock) (get_split hg ▸ h)
    exact (tk (Nat.le_of_lt hl)).mp (s2 rfl)
  · by_cases hk : Wd.lock ∈ ws
    · left
      have := ix_in.mp hk
      rw [List.idxOf_eq_length hu]; exact this
    · right
      exact ⟨List.idxOf_eq_length hk, List.idxOf_eq_length hu⟩
theorem ne_un {ws : List Wd} (h : Good ws) {b : Nat} (hb : b ≠ ws.idxOf .unlock) : ∀ w, ws[b]? = some w → w ≠ .unlock := by
  intro w hw e
  subst e
  obtain ⟨hl, e⟩ := List.getElem?_eq_some_iff.mp hw
  apply hb
  have := h.nd.idxOf_getElem b hl
  rw [e] at this
  exact this.symm
theorem turn_ok {ws : List Wd} (h : Good ws) (k : Nat) (hk : k ≤ ws.length) (hl : ws.length ≤ 100) : turnG ws (.int k) (.lst ((gapK ws k).map pr)) = .ok (.nx (.lst ((gapK ws (k + 1)).map pr))) := by
  have hlu := lu h
  have l1 := ix_le ws .lock
  have l2 := ix_le ws .unlock
  unfold gapK
  rw [if_neg (show ¬ k + 1 = 0 by omega)]
  by_cases k0 : k = 0
  · subst k0
    rw [if_pos rfl, if_pos (by omega)]
    exact turn_first ws 0 hk rfl
  rw [if_neg k0]
  by_cases c1 : k ≤ ws.idxOf .lock
  · rw [if_pos (by omega), if_pos (by omega)]
    exact turn_ext ws k hk [] 0 (k - 1) (by omega) (by omega) (ne_un h (by omega))
  · by_cases c2 : k ≤ ws.idxOf .unlock
    · have e : (if k ≤ ws.idxOf Wd.lock + 1 then [(0, k - 1)] else if k ≤ ws.idxOf Wd.unlock + 1 then [(0, ws.idxOf Wd.lock)] else [(0, ws.idxOf Wd.lock), (ws.idxOf Wd.unlock + 1, k - 1)]) = [(0, ws.idxOf Wd.lock)] := by
        by_cases q : k ≤ ws.idxOf .lock + 1
        · rw [if_pos q, show k - 1 = ws.idxOf Wd.lock by omega]
        · rw [if_neg q, if_pos (by omega)]
      rw [e, if_neg (by omega), if_pos (by omega)]
      exact turn_locked ws k hk _ (by omega) c2
    · rw [if_neg (by omega), if_neg (show ¬ k + 1 ≤ ws.idxOf Wd.lock + 1 by omega), if_neg (show ¬ k + 1 ≤ ws.idxOf Wd.unlock + 1 by omega)]
      by_cases c3 : k ≤ ws.idxOf .unlock + 1
      · rw [if_pos c3]
        have e : ws.idxOf Wd.unlock + 1 = k := by omega
        rw [e]
        exact turn_app ws k hk [] 0 _ (by simp) (by omega) (by omega)
      · rw [if_neg c3]
        exact turn_ext ws k hk [(0, ws.idxOf .lock)] _ (k - 1) (by omega) (by omega) (ne_un h (by omega))
theorem gapK_end {ws : List Wd} (h : Good ws) : gapK ws (ws.length + 1) = gapsF ws := by
  have hlu := lu h
  unfold gapK gapsF
  rw [if_neg (by omega)]
  by_cases hk : Wd.lock ∈ ws
  · have := ix_in.mp hk
    rw [if_neg (by omega), if_pos hk]
    by_cases hu : Wd.unlock ∈ ws
    · have := ix_in.mp hu
      rw [if_neg (by omega), if_pos hu]; rfl
    · rw [List.idxOf_eq_length hu, if_pos (by omega), if_neg hu]
  · rw [List.idxOf_eq_length hk, if_pos (by omega), if_neg hk]; rfl
theorem rows_ok {ws : List Wd} (h : Good ws) (hl : ws.length ≤ 100) : m__law_gap_rows [.lst (ws.map wd)] = .ok (.lst ((gapsF ws).map pr)) := by
  unfold m__law_gap_rows
  simp only
  rw [few0, len_lst, lft_some, add_int, lft_some, List.length_map, show (ws.length : Int) + 1 = ((ws.length + 1 : Nat) : Int) by omega, rng1_nat _ (by omega)]
  obtain ⟨s', e, hs⟩ := for_ix (I := fun i (s : D) => s = .lst ((gapK ws i).map pr)) (ds := rngD 0 (ws.length + 1)) (s := .lst []) (f := turnG ws) 0 rfl (fun i d hd s hs => by
    obtain ⟨hi, rfl⟩ := rng_get hd
    subst hs
    rw [Nat.zero_add]
    exact ⟨_, turn_ok h i (by omega) hl, rfl⟩)
  have e' := e
  unfold turnG at e'
  rw [e', after_nx, hs, show 0 + (rngD 0 (ws.length + 1)).length = ws.length + 1 by simp [rngD], gapK_end h]
end K53

namespace K53
open PySem L2 DM PL PW
theorem rng_eq (n : Nat) : rngD 0 n = (List.range n).map fun i : Nat => D.int (i : Int) := by
  unfold rngD
  simp
def gT (ws : List Wd) (m : Nat) (p : Nat × Nat) : Bool := decide (p.1 ≤ m) && decide (m ≤ p.2) && decide (p.1 ≤ ws.idxOf .out)
def opT (o : Wd) (ws : List Wd) (m : Nat) : Bool := decide (ws.idxOf .empty < m) && decide (m ≤ ws.idxOf .let_) && (!decide (o = .locked) || (gapsF ws).any (gT ws m))
theorem gaps_lo {ws : List Wd} {p : Nat × Nat} (h : p ∈ gapsF ws) : p.1 ≤ ws.length := by
  unfold gapsF at h
  split at h
  · split at h
    · rename_i hu
      have := ix_in.mp hu
      simp only [List.mem_cons, List.not_mem_nil, or_false] at h
      rcases h with rfl | rfl
      · exact Nat.zero_le _
      · exact this
    · simp only [List.mem_cons, List.not_mem_nil, or_false] at h
      rcases h with rfl; exact Nat.zero_le _
  · simp only [List.mem_cons, List.not_mem_nil, or_false] at h
    rcases h with rfl; exact Nat.zero_le _
theorem opens_ok {ws : List Wd} (o : Wd) (h : Good ws) (hl : ws.length ≤ 100) : m__law_opens_at [wd o, .lst (ws.map wd)] = .ok (match (List.range (ws.length + 1)).find? (opT o ws) with | some m => .int m | none => .non) := by
  unfold m__law_opens_at
  simp only
  rw [len_lst, lft_some, add_int, lft_some, List.length_map, show (ws.length : Int) + 1 = ((ws.length + 1 : Nat) : Int) by omega, rng1_nat _ (by omega), rng_eq, for_first (t := opT o ws) (v := fun m => .int m)]
  · cases (List.range (ws.length + 1)).find? (opT o ws) <;> rfl
  · intro m hm
    have hm' : m ≤ ws.length := by have := List.mem_range.mp hm; omega
    simp only [w_empty, w_let, w_out, w_locked, notdone_ok ws _ m hm', call_ok, asB_bl, ite_ok, bind_ok, neW, lft_some, rows_ok h hl, items_lst]
    unfold opT
    by_cases c1 : ws.idxOf .empty < m
    · have n1 : ¬ m ≤ ws.idxOf Wd.empty := by omega
      by_cases c2 : m ≤ ws.idxOf .let_
      · by_cases c3 : o = .locked
        · simp only [c1, n1, c2, c3, decide_true, decide_false, Bool.not_false, Bool.not_true, if_true, Bool.false_eq_true, if_false, Bool.true_and, Bool.false_or]
          rw [for_first (t := gT ws m) (v := fun _ => .int m)]
          · rw [← find_any]
            cases (gapsF ws).find? (gT ws m) <;> rfl
          · intro p hp
            simp only [pr, tup2_tup, le_int, lft_some, asB_bl, notdone_ok ws _ p.1 (gaps_lo hp), call_ok, Int.ofNat_le]
            unfold gT
            by_cases q1 : p.1 ≤ m <;> by_cases q2 : m ≤ p.2 <;> by_cases q3 : p.1 ≤ ws.idxOf .out <;> simp [q1, q2, q3]
        · simp [c1, n1, c2, c3]
      · simp [c1, n1, c2]
    · have n1 : m ≤ ws.idxOf Wd.empty := by omega
      simp [c1, n1]
theorem find_none {n : Nat} {p : Nat → Bool} (h : ∀ k, k < n → p k = false) : (List.range n).find? p = none := by
  rw [List.find?_eq_none]
  intro x hx
  rw [h x (List.mem_range.mp hx)]
  simp
theorem find_some {n : Nat} {p : Nat → Bool} {m : Nat} (hm : m < n) (hp : p m = true) (h : ∀ k, k < m → p k = false) : (List.range n).find? p = some m := by
  rw [List.find?_range_eq_some]
  exact ⟨hp, List.mem_range.mpr hm, fun j hj => by rw [h j hj]; rfl⟩
/-- the law's least number is the program's -/
theorem least {o : Wd} {ws : List Wd} (h : Good ws) (he : Wd.empty ∈ ws) : (List.range (ws.length + 1)).find? (opT o ws) = (if o = .locked then ((gapsF ws).find? (openT ws)).map fun p => max p.1 (ws.idxOf .empty + 1) else if ws.idxOf .empty + 1 ≤ ws.idxOf .let_ then some (ws.idxOf .empty + 1) else none) := by
  have hE := ix_in.mp he
  have hlu := lu h
  have hlt := ix_le ws .let_
  have hll := ix_le ws .lock
  by_cases c : o = .locked
  · rw [if_pos c]
    unfold gapsF
    have key : ∀ (gs : List (Nat × Nat)), gapsF ws = gs → ((List.range (ws.length + 1)).find? (opT o ws) = (gs.find? (openT ws)).map fun p => max p.1 (ws.idxOf .empty + 1)) → ((List.range (ws.length + 1)).find? (opT o ws) = ((gapsF ws).find? (openT ws)).map fun p => max p.1 (ws.idxOf .empty + 1)) := fun gs e q => by rw [e]; exact q
    have un : ∀ k, opT o ws k = (decide (ws.idxOf .empty < k) && decide (k ≤ ws.idxOf .let_) && (gapsF ws).any (gT ws k)) := fun k => by unfold opT; simp [c]
    by_cases hk : Wd.lock ∈ ws
    · rw [if_pos hk]
      have hL := ix_in.mp hk
      by_cases hu : Wd.unlock ∈ ws
      · rw [if_pos hu]
        have hU := ix_in.mp hu
        have eg : gapsF ws = [(0, ws.idxOf .lock), (ws.idxOf .unlock + 1, ws.length)] := by unfold gapsF; rw [if_pos hk, if_pos hu]
        simp only [List.find?_cons, List.find?_nil, openT]
        by_cases q1 : ws.idxOf .empty + 1 ≤ min (ws.idxOf .lock) (ws.idxOf .let_)
        · have e1 : (decide ((0 : Nat) ≤ ws.idxOf Wd.out) && decide (max 0 (ws.idxOf Wd.empty + 1) ≤ min (ws.idxOf Wd.lock) (ws.idxOf Wd.let_))) = true := by simp only [Bool.and_eq_true, decide_eq_true_eq]; omega
          rw [e1]
          simp only [Option.map_some]
          refine find_some (by omega) ?_ fun k hk => ?_
          · rw [un, eg]
            simp only [gT, List.any_cons, List.any_nil, Bool.or_false, Bool.and_eq_true, Bool.or_eq_true, decide_eq_true_eq]
            omega
          · rw [un, Bool.eq_false_iff]
            intro z
            simp only [Bool.and_eq_true, decide_eq_true_eq] at z
            omega
        · have e1 : (decide ((0 : Nat) ≤ ws.idxOf Wd.out) && decide (max 0 (ws.idxOf Wd.empty + 1) ≤ min (ws.idxOf Wd.lock) (ws.idxOf Wd.let_))) = false := by
            rw [Bool.eq_false_iff]
            intro z
            simp only [Bool.and_eq_true, decide_eq_true_eq] at z
            omega
          rw [e1]
          simp only
          by_cases q2 : ws.idxOf .unlock + 1 ≤ ws.idxOf .out ∧ max (ws.idxOf .unlock + 1) (ws.idxOf .empty + 1) ≤ min ws.length (ws.idxOf .let_)
          · have e2 : (decide (ws.idxOf Wd.unlock + 1 ≤ ws.idxOf Wd.out) && decide (max (ws.idxOf Wd.unlock + 1) (ws.idxOf Wd.empty + 1) ≤ min ws.length (ws.idxOf Wd.let_))) = true := by simp only [Bool.and_eq_true, decide_eq_true_eq]; exact q2
            rw [e2]
            simp only [Option.map_some]
            refine find_some (by omega) ?_ fun k hk => ?_
            · rw [un, eg]
              simp only [gT, List.any_cons, List.any_nil, Bool.or_false, Bool.and_eq_true, Bool.or_eq_true, decide_eq_true_eq]
              omega
            · rw [un, eg, Bool.eq_false_iff]
              intro z
              simp only [gT, List.any_cons, List.any_nil, Bool.or_false, Bool.and_eq_true, Bool.or_eq_true, decide_eq_true_eq] at z
              omega
          · have e2 : (decide (ws.idxOf Wd.unlock + 1 ≤ ws.idxOf Wd.out) && decide (max (ws.idxOf Wd.unlock + 1) (ws.idxOf Wd.empty + 1) ≤ min ws.length (ws.idxOf Wd.let_))) = false := by
              rw [Bool.eq_false_iff]
              intro z
              simp only [Bool.and_eq_true, decide_eq_true_eq] at z
              exact q2 z
            rw [e2]
            simp only [Option.map_none]
            refine find_none fun k hk => ?_
            rw [un, eg, Bool.eq_false_iff]
            intro z
            simp only [gT, List.any_cons, List.any_nil, Bool.or_false, Bool.and_eq_true, Bool.or_eq_true, decide_eq_true_eq] at z
            omega
      · rw [if_neg hu]
        have eg : gapsF ws = [(0, ws.idxOf .lock)] := by unfold gapsF; rw [if_pos hk, if_neg hu]
        simp only [List.find?_cons, List.find?_nil, openT]
        by_cases q1 : ws.idxOf .empty + 1 ≤ min (ws.idxOf .lock) (ws.idxOf .let_)
        · have e1 : (decide ((0 : Nat) ≤ ws.idxOf Wd.out) && decide (max 0 (ws.idxOf Wd.empty + 1) ≤ min (ws.idxOf Wd.lock) (ws.idxOf Wd.let_))) = true := by simp only [Bool.and_eq_true, decide_eq_true_eq]; omega
          rw [e1]
          simp only [Option.map_some]
          refine find_some (by omega) ?_ fun k hk => ?_
          · rw [un, eg]
            simp only [gT, List.any_cons, List.any_nil, Bool.or_false, Bool.and_eq_true, Bool.or_eq_true, decide_eq_true_eq]
            omega
          · rw [un, Bool.eq_false_iff]
            intro z
            simp only [Bool.and_eq_true, decide_eq_true_eq] at z
            omega
        · have e1 : (decide ((0 : Nat) ≤ ws.idxOf Wd.out) && decide (max 0 (ws.idxOf Wd.empty + 1) ≤ min (ws.idxOf Wd.lock) (ws.idxOf Wd.let_))) = false := by
            rw [Bool.eq_false_iff]
            intro z
            simp only [Bool.and_eq_true, decide_eq_true_eq] at z
            omega
          rw [e1]
          simp only [Option.map_none]
          refine find_none fun k hk => ?_
          rw [un, eg, Bool.eq_false_iff]
          intro z
          simp only [gT, List.any_cons, List.any_nil, Bool.or_false, Bool.and_eq_true, Bool.or_eq_true, decide_eq_true_eq] at z
          omega
    · rw [if_neg hk]
      have eg : gapsF ws = [(0, ws.length)] := by unfold gapsF; rw [if_neg hk]
      simp only [List.find?_cons, List.find?_nil, openT]
      by_cases q1 : ws.idxOf .empty + 1 ≤ min ws.length (ws.idxOf .let_)
      · have e1 : (decide ((0 : Nat) ≤ ws.idxOf Wd.out) && decide (max 0 (ws.idxOf Wd.empty + 1) ≤ min ws.length (ws.idxOf Wd.let_))) = true := by simp only [Bool.and_eq_true, decide_eq_true_eq]; omega
        rw [e1]
        simp only [Option.map_some]
        refine find_some (by omega) ?_ fun k hk => ?_
        · rw [un, eg]
          simp only [gT, List.any_cons, List.any_nil, Bool.or_false, Bool.and_eq_true, Bool.or_eq_true, decide_eq_true_eq]
          omega
        · rw [un, Bool.eq_false_iff]
          intro z
          simp only [Bool.and_eq_true, decide_eq_true_eq] at z
          omega
      · have e1 : (decide ((0 : Nat) ≤ ws.idxOf Wd.out) && decide (max 0 (ws.idxOf Wd.empty + 1) ≤ min ws.length (ws.idxOf Wd.let_))) = false := by
          rw [Bool.eq_false_iff]
          intro z
          simp only [Bool.and_eq_true, decide_eq_true_eq] at z
          omega
        rw [e1]
        simp only [Option.map_none]
        refine find_none fun k hk => ?_
        rw [un, eg, Bool.eq_false_iff]
        intro z
        simp only [gT, List.any_cons, List.any_nil, Bool.or_false, Bool.and_eq_true, Bool.or_eq_true, decide_eq_true_eq] at z
        omega
  · rw [if_neg c]
    have un : ∀ k, opT o ws k = (decide (ws.idxOf .empty < k) && decide (k ≤ ws.idxOf .let_)) := fun k => by unfold opT; simp [c]
    by_cases q : ws.idxOf .empty + 1 ≤ ws.idxOf .let_
    · rw [if_pos q]
      refine find_some (by omega) ?_ fun k hk => ?_
      · rw [un]; simp only [Bool.and_eq_true, decide_eq_true_eq]; omega
      · rw [un, Bool.eq_false_iff]
        intro z
        simp only [Bool.and_eq_true, decide_eq_true_eq] at z
        omega
    · rw [if_neg q]
      refine find_none fun k hk => ?_
      rw [un, Bool.eq_false_iff]
      intro z
      simp only [Bool.and_eq_true, decide_eq_true_eq] at z
      omega
theorem isN_int (i : Int) : isNG (.int i) .non = some (.bl false) := rfl
theorem isN_non : isNG .non .non = some (.bl true) := rfl
theorem orows_ok {ws : List Wd} (o : Wd) (h : Good ws) (hl : ws.length ≤ 100) : m__law_opening_rows [wd o, .lst (ws.map wd)] = .ok (.lst ((openF o ws).map pr)) := by
  unfold m__law_opening_rows openF
  simp only [len_lst, lft_some, List.length_map, w_empty, niWl, asB_bl, opens_ok o h hl, call_ok]
  by_cases he : Wd.empty ∈ ws
  · rw [least h he]
    simp only [he, decide_true, Bool.not_true, Bool.false_eq_true, if_false, if_true, asQ_lst, encW.idx_l (by decide) he, lft_some, few2, few1, few0]
    by_cases c : o = .locked
    · simp only [c, if_true]
      cases (gapsF ws).find? (openT ws) with
      | none => simp [isN_non, pr]
      | some p => simp [isN_int, pr]
    · simp only [c, if_false]
      by_cases q : ws.idxOf .empty + 1 ≤ ws.idxOf .let_
      · simp [q, isN_int, pr]
      · simp [q, isN_non, pr]
  · simp [he, pr]
theorem same_ok {m n : Nat} {d : D} (h : Sh m n d) (hm : m ≤ 60) (hn : n ≤ 16777216) : m__law_same [d, d] = .ok (.bl true) := by
  unfold m__law_same
  simp only [repr_ok h hm hn, lft_some, eq_str, decide_true]
theorem sh_pr (p : Nat × Nat) (h1 : p.1 ≤ 1000) (h2 : p.2 ≤ 1000) : Sh 1 27 (pr p) := by
  unfold pr
  refine sh_tup (m := 0) (n := 10) (xs := [D.int p.1, D.int p.2]) fun x hx => ?_
  simp only [List.mem_cons, List.not_mem_nil, or_false] at hx
  rcases hx with rfl | rfl
  · exact sh_nat _ (by omega)
  · exact sh_nat _ (by omega)
theorem sh_prs (ps : List (Nat × Nat)) (hp : ∀ p ∈ ps, p.1 ≤ 1000 ∧ p.2 ≤ 1000) : Sh 2 (ps.length * 29 + 2) (.lst (ps.map pr)) := by
  have := sh_lst (m := 1) (n := 27) (xs := ps.map pr) fun x hx => by
    obtain ⟨p, h, rfl⟩ := List.mem_map.mp hx
    exact sh_pr p (hp p h).1 (hp p h).2
  rwa [List.length_map] at this
theorem open_lo {o : Wd} {ws : List Wd} {p : Nat × Nat} (h : p ∈ openF o ws) : p.1 ≤ ws.length + 1 := by
  unfold openF at h
  have := ix_le ws .empty
  split at h
  · rcases List.mem_cons.mp h with rfl | h
    · exact Nat.zero_le _
    · split at h
      · cases hf : (gapsF ws).find? (openT ws) with
        | none => rw [hf] at h; cases h
        | some q =>
          rw [hf] at h
          simp only [List.mem_cons, List.not_mem_nil, or_false] at h
          rcases h with rfl
          have := gaps_lo (List.mem_of_find?_eq_some hf)
          simp only
          omega
      · split at h
        · simp only [List.mem_cons, List.not_mem_nil, or_false] at h
          rcases h with rfl
          simp only
          omega
        · cases h
  · simp only [List.mem_cons, List.not_mem_nil, or_false] at h
    rcases h with rfl; exact Nat.zero_le _
/-- the values that are no words -/
def odd : List D := [.str "", .str "gone", .str "hold", .non, .int 0, .bl true, .tup [.str "out"]]
theorem req_odd {v : D} (h : v ∈ odd) : m_require_pull [v] = .ex ⟨"UnknownName", [("name", v)]⟩ () := by
  unfold odd at h
  simp only [List.mem_cons, List.not_mem_nil, or_false] at h
  rcases h with rfl | rfl | rfl | rfl | rfl | rfl | rfl <;> rfl
theorem mt_un : mt_UnknownName "UnknownName" = some true := by decide +kernel
theorem sh_odd {v : D} (h : v ∈ odd) : Sh 1 100 v := by
  have h3 : ∀ x : Str, PyData.strOk x = true → x.length ≤ 4 → Sh 1 42 (.str x) := fun x h1 h2 => (sh_str x h1).up (by decide) (by omega)
  unfold odd at h
  simp only [List.mem_cons, List.not_mem_nil, or_false] at h
  rcases h with rfl | rfl | rfl | rfl | rfl | rfl | rfl
  · exact (h3 _ (by decide +kernel) (by decide +kernel)).up (by decide) (by decide)
  · exact (h3 _ (by decide +kernel) (by decide +kernel)).up (by decide) (by decide)
  · exact (h3 _ (by decide +kernel) (by decide +kernel)).up (by decide) (by decide)
  · exact sh_non.up (by decide) (by decide)
  · exact (sh_nat 0 (by decide)).up (by decide) (by decide)
  · exact (sh_bl _).up (by decide) (by decide)
  · refine (sh_tup (m := 0) (n := 42) (xs := [.str "out"]) fun x hx => ?_).up (by decide) (by decide)
    rw [List.mem_singleton.mp hx]
    exact (sh_str _ (by decide +kernel)).up (by decide) (by decide +kernel)
theorem same_odd {v : D} (h : v ∈ odd) : m__law_same [.lst [v, v], .lst [v, v]] = .ok (.bl true) := by
  refine same_ok (m := 2) (n := 206) ?_ (by decide) (by decide)
  refine sh_lst (m := 1) (n := 100) (xs := [v, v]) fun x hx => ?_
  simp only [List.mem_cons, List.not_mem_nil, or_false, or_self] at hx
  rw [hx]
  exact sh_odd h
theorem noword_ok (o a : Wd) (ws : List Wd) {v : D} (h : v ∈ odd) : m__law_no_word [P o a ws, v] = .ok (.bl true) := by
  have e1 : m_Plain_ahead [P o a ws, v] = .ex ⟨"UnknownName", [("name", v)]⟩ () := by
    unfold m_Plain_ahead
    simp only [req_odd h, call_ex]
  have e2 : m_Plain_behind [P o a ws, v] = .ex ⟨"UnknownName", [("name", v)]⟩ () := by
    unfold m_Plain_behind
    simp only [m_ahead, e1, call_ex]
  have x1 : ∀ v : D, xget [(("name" : Str), v)] "name" = some v := fun _ => rfl
  unfold m__law_no_word
  simp only [few0, m_ahead, m_behind, e1, e2, call_ex]
  rw [tryc_ex _ _ _ _ _ mt_un]
  simp only [x1, lft_some, asL_lst, push_eq, List.length_nil, fin_ok]
  rw [if_pos (by decide), fin_ok, out_nx, tryc_ex _ _ _ _ _ mt_un]
  simp only [x1, lft_some, asL_lst, push_eq]
  rw [if_pos (by simp), fin_ok, out_nx]
  simp only [few2, List.nil_append, List.cons_append, same_odd h, call_ok]
theorem word_ok (o a : Wd) {ws : List Wd} (hl : ws.length ≤ 100) {w : Wd} (hw : w ∈ eight) :
    (R.bind (R.lft (inA (wd w) (.lst (ws.map wd))) fun x32 => R.asB x32 fun b33 => if b33 then R.asQ (.lst (ws.map wd)) fun _ => R.lft (idxG (.lst (ws.map wd)) [wd w]) fun x34 => R.ok x34 else R.lft (lenG [.lst (ws.map wd)]) fun x35 => R.ok x35) fun x36 => R.meth mt_ahead "ahead" (P o a ws) fun g43 => R.call (g43 [P o a ws, wd w]) () fun x42 => R.meth mt_behind "behind" (P o a ws) fun g41 => R.call (g41 [P o a ws, wd w]) () fun x40 => R.few [x42, x40] fun l45 => R.lft (addA x36 (.int 1)) fun x39 => R.few [x36, x39] fun l46 => R.call (m__law_same [(.lst l45), (.lst l46)]) () fun x38 => R.asB x38 fun b44 => if (!b44) then R.ok (Step.rt (.bl false) ()) else R.ok (Step.nx ()) : R Unit (Step Unit)) = R.ok (Step.nx ()) := by
  have e0 : (R.lft (inA (wd w) (.lst (ws.map wd))) fun x32 => R.asB x32 fun b33 => if b33 then R.asQ (.lst (ws.map wd)) fun _ => R.lft (idxG (.lst (ws.map wd)) [wd w]) fun x34 => R.ok x34 else R.lft (lenG [.lst (ws.map wd)]) fun x35 => R.ok x35 : R Unit D) = R.ok (.int (ws.idxOf w)) := by
    rw [inWl, lft_some, asB_bl]
    by_cases h : w ∈ ws
    · simp [h, encW.idx_l (by decide) h]
    · simp [h, List.idxOf_eq_length h]
  have hs : Sh 1 26 (.lst [.int (ws.idxOf w), .int ((ws.idxOf w : Int) + 1)]) := by
    have := ix_le ws w
    refine sh_lst (m := 0) (n := 10) (xs := [D.int (ws.idxOf w), D.int ((ws.idxOf w : Int) + 1)]) fun x hx => ?_
    simp only [List.mem_cons, List.not_mem_nil, or_false] at hx
    rcases hx with rfl | rfl
    · exact sh_nat _ (by omega)
    · exact sh_nat (ws.idxOf w + 1) (by omega)
  rw [e0, bind_ok, m_ahead, ahead_ok o a ws w hw, call_ok, m_behind, behind_ok o a ws w hw, call_ok, few2, add_int, lft_some, few2, same_ok hs (by decide) (by decide), call_ok, asB_bl]
  rfl
theorem cell_ok (c : Int) (i : Nat) (hi : i ≤ 63) : (R.lft (addA (.int 5300) (.int i)) fun x14 => R.call (m__law_pool [.int c, x14, (.int 60)]) () fun x13 => R.call1e (m__law_kinds [x13]) () fun x17 w18 => R.tup2 x17 fun x20 x21 => R.call1e (m__law_pull_words [w18]) () fun x23 w24 => R.call (m_Plain_of [x20, x21, x23]) () fun x26 => R.few [(.str "out"), (.str "mark"), (.str "wait"), (.str "empty"), (.str "down"), (.str "let"), (.str "lock"), (.str "unlock")] fun l71 => R.items (.lst l71) fun l28 => R.after (R.for' l28 () fun d31 s30 => R.bind (R.lft (inA d31 x23) fun x32 => R.asB x32 fun b33 => if b33 then R.asQ x23 fun _ => R.lft (idxG x23 [d31]) fun x34 => R.ok x34 else R.lft (lenG [x23]) fun x35 => R.ok x35) fun x36 => R.meth mt_ahead "ahead" x26 fun g43 => R.call (g43 [x26, d31]) () fun x42 => R.meth mt_behind "behind" x26 fun g41 => R.call (g41 [x26, d31]) () fun x40 => R.few [x42, x40] fun l45 => R.lft (addA x36 (.int 1)) fun x39 => R.few [x36, x39] fun l46 => R.call (m__law_same [(.lst l45), (.lst l46)]) () fun x38 => R.asB x38 fun b44 => if (!b44) then R.ok (Step.rt (.bl false) ()) else R.ok (Step.nx ())) (fun s47 => R.meth mt_gaps "gaps" x26 fun g51 => R.call (g51 [x26]) () fun x50 => R.call (m__law_gap_rows [x23]) () fun x49 => R.call (m__law_same [x50, x49]) () fun x48 => R.asB x48 fun b52 => if (!b52) then R.ok (Step.rt (.bl false) ()) else R.meth mt_openings "openings" x26 fun g56 => R.call (g56 [x26]) () fun x55 => R.call (m__law_opening_rows [x20, x23]) () fun x54 => R.call (m__law_same [x55, x54]) () fun x53 => R.asB x53 fun b57 => if (!b57) then R.ok (Step.rt (.bl false) ()) else R.few [(.str "out")] fun l64 => R.few [(.str ""), (.str "gone"), (.str "hold"), .non, (.int 0), (.bl true), (.tup l64)] fun l65 => R.items (.lst l65) fun l58 => R.few l58 fun l66 => R.lst (R.fmapS (fun d59 _ => R.call (m__law_no_word [x26, d59]) () fun x60 => R.asB x60 fun b61 => if (!b61) then R.ok (some d59, ()) else R.ok (none, ())) l66 ()) fun x67 _ => R.few [] fun l68 => R.lft (neG x67 (.lst l68)) fun x62 => R.asB x62 fun b63 => if b63 then R.ok (Step.rt (.bl false) ()) else R.ok (Step.nx ())) fun d70 s69 => R.ok (Step.rt d70 ()) : R Unit (Step Unit)) = R.ok (Step.nx ()) := by
  obtain ⟨p, e1, hp⟩ := pool_ok c (5300 + (i : Int)) 60 (by omega) (by decide)
  obtain ⟨o, a, p1, e2, ho, ha, hp1⟩ := kinds_ok hp
  obtain ⟨ws, p2, e3, hg, h8, hp2⟩ := words_ok hp1
  have e1' : PL.m_pool [.int c, .int (5300 + (i : Int)), .int 60] = R.ok p := e1
  have hl : ws.length ≤ 100 := by omega
  have sg : Sh 2 ((gapsF ws).length * 29 + 2) (.lst ((gapsF ws).map pr)) := sh_prs _ fun p hp => ⟨by have := gaps_lo hp; omega, by have := gaps_hi hp; omega⟩
  have so : Sh 2 ((openF o ws).length * 29 + 2) (.lst ((openF o ws).map pr)) := sh_prs _ fun p hp => ⟨by have := open_lo hp; omega, by have := open_hi hp; omega⟩
  have gl := gaps_len ws
  have ol := open_len o ws
  rw [add_int, lft_some, pool_eq, e1', call_ok, e2, call1e_ok, tup2_lst, e3, call1e_ok, of_ok ho ha hg hl, call_ok, few8, items_lst, for_unit, after_nx]
  · rw [m_gaps, gaps_ok, call_ok, rows_ok hg hl, call_ok, same_ok sg (by decide) (by omega), call_ok, asB_bl]
    simp only [Bool.not_true, Bool.false_eq_true, if_false]
    rw [m_openings, openings_ok, call_ok, orows_ok o hg hl, call_ok, same_ok so (by decide) (by omega), call_ok, asB_bl]
    simp only [Bool.not_true, Bool.false_eq_true, if_false]
    rw [few1, few7, items_lst, few7, fmapS_ok (g := fun _ => none)]
    · rfl
    · intro d hd
      have hd' : d ∈ odd := hd
      rw [noword_ok o a ws hd', call_ok, asB_bl]
      rfl
  · intro d hd
    have : d ∈ eight.map wd := hd
    obtain ⟨w, hw, rfl⟩ := List.mem_map.mp this
    exact word_ok o a hl hw
theorem law_holds (ns : List Int) (hl : ns.length ≤ 63) : m_law [.lst (ns.map .int)] = .ok (.bl true) := by
  have e0 : eqG (.lst (ns.map D.int)) (.lst []) = some (.bl (decide (ns = []))) := enc_int.lst.eqG (by decide) ns []
  have e8 : cutD (ns.map D.int) none (some 8) = (ns.take 8).map D.int := by
    rw [show (8 : Int) = ((8 : Nat) : Int) from rfl, cut_lo, List.map_take]
  have er1 : repG (.lst [.int 7]) (.int (if decide (ns = []) = true then 1 else 0)) = some (.lst ((if decide (ns = []) = true then [7] else []).map D.int)) := by
    rw [rep01]
    cases decide (ns = []) <;> rfl
  unfold m_law
  simp only
  rw [asI_int, PL.sl_lst, e8, lft_some, few1, few0, e0, lft_some, int_bl, lft_some, er1, lft_some, add_lst, if_pos (by split <;> simp <;> omega), lft_some, ← List.map_append]
  generalize hc : ns.take 8 ++ (if decide (ns = []) = true then [(7 : Int)] else []) = cs
  have hcl : cs.length ≤ 63 := by
    rw [← hc]
    split <;> simp <;> omega
  rw [enumA_lst, for_unit, after_nx]
  intro d hd
  obtain ⟨i, x, hx, rfl⟩ := enum_mem hd
  rw [List.getElem?_map] at hx
  cases hi : cs[i]? with
  | none => rw [hi] at hx; cases hx
  | some c =>
    rw [hi] at hx
    obtain rfl : D.int c = x := Option.some.inj hx
    have hil := (List.getElem?_eq_some_iff.mp hi).1
    rw [tup2_tup]
    exact cell_ok c i (by omega)
end K53

namespace K53
open PySem PySem.Spec PyProof.Rows L2 DL DM
theorem all_mk {l : PySem.W.OpenLaw} {w : World} {K : PySem.W.Frag} {h : Heap} {mg : Str → Option Value} {fa : Addr} {c_Plain : Addr} {f_require_pull : Addr} {od_require_pull an_require_pull : Option Addr} {sl_require_pull : Array (Option Value)} {oc_require_pull kV_require_pull dc_require_pull pm_require_pull cd_require_pull ct_require_pull : Value} {f_Plain_ahead : Addr} {od_Plain_ahead an_Plain_ahead : Option Addr} {sl_Plain_ahead : Array (Option Value)} {oc_Plain_ahead kV_Plain_ahead dc_Plain_ahead pm_Plain_ahead cd_Plain_ahead ct_Plain_ahead : Value} {f_Plain_behind : Addr} {od_Plain_behind an_Plain_behind : Option Addr} {sl_Plain_behind : Array (Option Value)} {oc_Plain_behind kV_Plain_behind dc_Plain_behind pm_Plain_behind cd_Plain_behind ct_Plain_behind : Value} {f_Plain_gaps : Addr} {od_Plain_gaps an_Plain_gaps : Option Addr} {sl_Plain_gaps : Array (Option Value)} {oc_Plain_gaps kV_Plain_gaps dc_Plain_gaps pm_Plain_gaps cd_Plain_gaps ct_Plain_gaps : Value} {f_Plain_openings : Addr} {od_Plain_openings an_Plain_openings : Option Addr} {sl_Plain_openings : Array (Option Value)} {oc_Plain_openings kV_Plain_openings dc_Plain_openings pm_Plain_openings cd_Plain_openings ct_Plain_openings : Value} {f_wrong_pull : Addr} {od_wrong_pull an_wrong_pull : Option Addr} {sl_wrong_pull : Array (Option Value)} {oc_wrong_pull kV_wrong_pull dc_wrong_pull pm_wrong_pull cd_wrong_pull ct_wrong_pull : Value} {f_Plain___init__ : Addr} {od_Plain___init__ an_Plain___init__ : Option Addr} {sl_Plain___init__ : Array (Option Value)} {oc_Plain___init__ kV_Plain___init__ dc_Plain___init__ pm_Plain___init__ cd_Plain___init__ ct_Plain___init__ : Value} {f_Plain_of : Addr} {Hp_Plain_of : Addr} {Hrs_Plain_of : List Value} {od_Plain_of an_Plain_of : Option Addr} {sl_Plain_of : Array (Option Value)} {oc_Plain_of kV_Plain_of dc_Plain_of pm_Plain_of cd_Plain_of ct_Plain_of : Value} {f__law_locked_beside : Addr} {od__law_locked_beside an__law_locked_beside : Option Addr} {sl__law_locked_beside : Array (Option Value)} {oc__law_locked_beside kV__law_locked_beside dc__law_locked_beside pm__law_locked_beside cd__law_locked_beside ct__law_locked_beside : Value} {f__law_gap_rows : Addr} {od__law_gap_rows an__law_gap_rows : Option Addr} {sl__law_gap_rows : Array (Option Value)} {oc__law_gap_rows kV__law_gap_rows dc__law_gap_rows pm__law_gap_rows cd__law_gap_rows ct__law_gap_rows : Value} {f__law_draw : Addr} {od__law_draw an__law_draw : Option Addr} {sl__law_draw : Array (Option Value)} {oc__law_draw kV__law_draw dc__law_draw pm__law_draw cd__law_draw ct__law_draw : Value} {f__law_pick : Addr} {od__law_pick an__law_pick : Option Addr} {sl__law_pick : Array (Option Value)} {oc__law_pick kV__law_pick dc__law_pick pm__law_pick cd__law_pick ct__law_pick : Value} {f__law_kinds : Addr} {od__law_kinds an__law_kinds : Option Addr} {sl__law_kinds : Array (Option Value)} {oc__law_kinds kV__law_kinds dc__law_kinds pm__law_kinds cd__law_kinds ct__law_kinds : Value} {f__law_same : Addr} {od__law_same an__law_same : Option Addr} {sl__law_same : Array (Option Value)} {oc__law_same kV__law_same dc__law_same pm__law_same cd__law_same ct__law_same : Value} {f__law_no_word : Addr} {od__law_no_word an__law_no_word : Option Addr} {sl__law_no_word : Array (Option Value)} {oc__law_no_word kV__law_no_word dc__law_no_word pm__law_no_word cd__law_no_word ct__law_no_word : Value} {f__law_not_done : Addr} {od__law_not_done an__law_not_done : Option Addr} {sl__law_not_done : Array (Option Value)} {oc__law_not_done kV__law_not_done dc__law_not_done pm__law_not_done cd__law_not_done ct__law_not_done : Value} {f__law_opens_at : Addr} {od__law_opens_at an__law_opens_at : Option Addr} {sl__law_opens_at : Array (Option Value)} {oc__law_opens_at kV__law_opens_at dc__law_opens_at pm__law_opens_at cd__law_opens_at ct__law_opens_at : Value} {f__law_opening_rows : Addr} {od__law_opening_rows an__law_opening_rows : Option Addr} {sl__law_opening_rows : Array (Option Value)} {oc__law_opening_rows kV__law_opening_rows dc__law_opening_rows pm__law_opening_rows cd__law_opening_rows ct__law_opening_rows : Value} {f__law_numbers : Addr} {od__law_numbers an__law_numbers : Option Addr} {sl__law_numbers : Array (Option Value)} {oc__law_numbers kV__law_numbers dc__law_numbers pm__law_numbers cd__law_numbers ct__law_numbers : Value} {f__law_pool : Addr} {od__law_pool an__law_pool : Option Addr} {sl__law_pool : Array (Option Value)} {oc__law_pool kV__law_pool dc__law_pool pm__law_pool cd__law_pool ct__law_pool : Value} {f__law_pull_words : Addr} {od__law_pull_words an__law_pull_words : Option Addr} {sl__law_pull_words : Array (Option Value)} {oc__law_pull_words kV__law_pull_words dc__law_pull_words pm__law_pull_words cd__law_pull_words ct__law_pull_words : Value} {f_law : Addr} {od_law an_law : Option Addr} {sl_law : Array (Option Value)} {oc_law kV_law dc_law pm_law cd_law ct_law : Value} {Hu_EMPTY : Value} {Hu_LET : Value} {Hu_LOCK : Value} {Hu_OUT : Value} {Hu_PULLS : Value} {Hu_UNLOCK : Value} {Hd_ASKS : Addr} {Hes_ASKS : List DictEntry} {Hn_ASKS : Nat} {Hd_OPENS : Addr} {Hes_OPENS : List DictEntry} {Hn_OPENS : Nat} (X : K.In h) (G : h.Ns mainGlobals mg) (hfa : mg "law" = some (.ref fa)) 
    (Ha_Plain : PySem.W.nsIn K mainGlobals "Plain" = some (some (.ref c_Plain)))
    (Hpg_Plain : PySem.W.plainGet K c_Plain Str.empty = true)
    (Hhd_Plain : PySem.W.hasDictIn K c_Plain = true)
    (Hpo_Plain : PySem.W.plainOver K c_Plain = true)
    (Hsa_Plain : PySem.W.findIn K (.ref c_Plain) "__setattr__" = some (some (.builtin "object.__setattr__")))
    (Hn_Plain_own_asks : PySem.W.findIn K (.ref c_Plain) "own_asks" = some none)
    (Hn_Plain_own_opens : PySem.W.findIn K (.ref c_Plain) "own_opens" = some none)
    (Hn_Plain_own_pulls : PySem.W.findIn K (.ref c_Plain) "own_pulls" = some none)
    (Ha_require_pull : PySem.W.nsIn K mainGlobals "require_pull" = some (some (.ref f_require_pull)))
    (Hl_require_pull : K.lookup f_require_pull = some ⟨oc_require_pull, od_require_pull, .func (PySem.W.fnOf "require_pull" "require_pull" (defArgs s_require_pull) (defBody s_require_pull) (defScope s_require_pull) .none kV_require_pull dc_require_pull pm_require_pull an_require_pull cd_require_pull ct_require_pull), sl_require_pull⟩)
    (Hc_require_pull : PySem.W.codeIn K cd_require_pull "require_pull" = true)
    (Hk_require_pull : PySem.W.keepIn K (.ref f_require_pull) = true)
    (Hm_Plain_ahead : PySem.W.findIn K (.ref c_Plain) "ahead" = some (some (.ref f_Plain_ahead)))
    (Hi_Plain_ahead : PySem.W.isFn K (.ref f_Plain_ahead) = true)
    (Hl_Plain_ahead : K.lookup f_Plain_ahead = some ⟨oc_Plain_ahead, od_Plain_ahead, .func (PySem.W.fnOf "ahead" "Plain.ahead" (defArgs s_Plain_ahead) (defBody s_Plain_ahead) (defScope s_Plain_ahead) .none kV_Plain_ahead dc_Plain_ahead pm_Plain_ahead an_Plain_ahead cd_Plain_ahead ct_Plain_ahead), sl_Plain_ahead⟩)
    (Hc_Plain_ahead : PySem.W.codeIn K cd_Plain_ahead "Plain.ahead" = true)
    (Hk_Plain_ahead : PySem.W.keepIn K (.ref f_Plain_ahead) = true)
    (Hm_Plain_behind : PySem.W.findIn K (.ref c_Plain) "behind" = some (some (.ref f_Plain_behind)))
    (Hi_Plain_behind : PySem.W.isFn K (.ref f_Plain_behind) = true)
    (Hl_Plain_behind : K.lookup f_Plain_behind = some ⟨oc_Plain_behind, od_Plain_behind, .func (PySem.W.fnOf "behind" "Plain.behind" (defArgs s_Plain_behind) (defBody s_Plain_behind) (defScope s_Plain_behind) .none kV_Plain_behind dc_Plain_behind pm_Plain_behind an_Plain_behind cd_Plain_behind ct_Plain_behind), sl_Plain_behind⟩)
    (Hc_Plain_behind : PySem.W.codeIn K cd_Plain_behind "Plain.behind" = true)
    (Hk_Plain_behind : PySem.W.keepIn K (.ref f_Plain_behind) = true)
    (Hm_Plain_gaps : PySem.W.findIn K (.ref c_Plain) "gaps" = some (some (.ref f_Plain_gaps)))
    (Hi_Plain_gaps : PySem.W.isFn K (.ref f_Plain_gaps) = true)
    (Hl_Plain_gaps : K.lookup f_Plain_gaps = some ⟨oc_Plain_gaps, od_Plain_gaps, .func (PySem.W.fnOf "gaps" "Plain.gaps" (defArgs s_Plain_gaps) (defBody s_Plain_gaps) (defScope s_Plain_gaps) .none kV_Plain_gaps dc_Plain_gaps pm_Plain_gaps an_Plain_gaps cd_Plain_gaps ct_Plain_gaps), sl_Plain_gaps⟩)
    (Hc_Plain_gaps : PySem.W.codeIn K cd_Plain_gaps "Plain.gaps" = true)
    (Hk_Plain_gaps : PySem.W.keepIn K (.ref f_Plain_gaps) = true)
    (Hm_Plain_openings : PySem.W.findIn K (.ref c_Plain) "openings" = some (some (.ref f_Plain_openings)))
    (Hi_Plain_openings : PySem.W.isFn K (.ref f_Plain_openings) = true)
    (Hl_Plain_openings : K.lookup f_Plain_openings = some ⟨oc_Plain_openings, od_Plain_openings, .func (PySem.W.fnOf "openings" "Plain.openings" (defArgs s_Plain_openings) (defBody s_Plain_openings) (defScope s_Plain_openings) .none kV_Plain_openings dc_Plain_openings pm_Plain_openings an_Plain_openings cd_Plain_openings ct_Plain_openings), sl_Plain_openings⟩)
    (Hc_Plain_openings : PySem.W.codeIn K cd_Plain_openings "Plain.openings" = true)
    (Hk_Plain_openings : PySem.W.keepIn K (.ref f_Plain_openings) = true)
    (Ha_wrong_pull : PySem.W.nsIn K mainGlobals "wrong_pull" = some (some (.ref f_wrong_pull)))
    (Hl_wrong_pull : K.lookup f_wrong_pull = some ⟨oc_wrong_pull, od_wrong_pull, .func (PySem.W.fnOf "wrong_pull" "wrong_pull" (defArgs s_wrong_pull) (defBody s_wrong_pull) (defScope s_wrong_pull) .none kV_wrong_pull dc_wrong_pull pm_wrong_pull an_wrong_pull cd_wrong_pull ct_wrong_pull), sl_wrong_pull⟩)
    (Hc_wrong_pull : PySem.W.codeIn K cd_wrong_pull "wrong_pull" = true)
    (Hk_wrong_pull : PySem.W.keepIn K (.ref f_wrong_pull) = true)
    (Hm_Plain___init__ : PySem.W.findIn K (.ref c_Plain) "__init__" = some (some (.ref f_Plain___init__)))
    (Hi_Plain___init__ : PySem.W.isFn K (.ref f_Plain___init__) = true)
    (Hmk_Plain : PySem.W.makesIn K c_Plain = true)
    (Hkc_Plain : PySem.W.keepIn K (.ref c_Plain) = true)
    (Hl_Plain___init__ : K.lookup f_Plain___init__ = some ⟨oc_Plain___init__, od_Plain___init__, .func (PySem.W.fnOf "__init__" "Plain.__init__" (defArgs s_Plain___init__) (defBody s_Plain___init__) (defScope s_Plain___init__) .none kV_Plain___init__ dc_Plain___init__ pm_Plain___init__ an_Plain___init__ cd_Plain___init__ ct_Plain___init__), sl_Plain___init__⟩)
    (Hc_Plain___init__ : PySem.W.codeIn K cd_Plain___init__ "Plain.__init__" = true)
    (Hk_Plain___init__ : PySem.W.keepIn K (.ref f_Plain___init__) = true)
    (Hrd_Plain_of : PySem.W.readsIn K c_Plain (.type "type") = true)
    (Hga_Plain_of : PySem.W.specialIn K (.ref c_Plain) "__getattribute__" = some (some (.builtin "type.__getattribute__")))
    (Hat_Plain_of : PySem.W.findCls K (.ref c_Plain) (.type "type") "of" = some (.get (.builtin "staticmethod.__get__") (.ref Hp_Plain_of) .none (.ref c_Plain)))
    (Hrc_Plain_of : PySem.W.recIn K Hp_Plain_of "staticmethod" = some (.ref f_Plain_of :: Hrs_Plain_of))
    (Hl_Plain_of : K.lookup f_Plain_of = some ⟨oc_Plain_of, od_Plain_of, .func (PySem.W.fnOf "of" "Plain.of" (defArgs s_Plain_of) (defBody s_Plain_of) (defScope s_Plain_of) .none kV_Plain_of dc_Plain_of pm_Plain_of an_Plain_of cd_Plain_of ct_Plain_of), sl_Plain_of⟩)
    (Hc_Plain_of : PySem.W.codeIn K cd_Plain_of "Plain.of" = true)
    (Hk_Plain_of : PySem.W.keepIn K (.ref f_Plain_of) = true)
    (Ha__law_locked_beside : PySem.W.nsIn K mainGlobals "_law_locked_beside" = some (some (.ref f__law_locked_beside)))
    (Hl__law_locked_beside : K.lookup f__law_locked_beside = some ⟨oc__law_locked_beside, od__law_locked_beside, .func (PySem.W.fnOf "_law_locked_beside" "_law_locked_beside" (defArgs s__law_locked_beside) (defBody s__law_locked_beside) (defScope s__law_locked_beside) .none kV__law_locked_beside dc__law_locked_beside pm__law_locked_beside an__law_locked_beside cd__law_locked_beside ct__law_locked_beside), sl__law_locked_beside⟩)
    (Hc__law_locked_beside : PySem.W.codeIn K cd__law_locked_beside "_law_locked_beside" = true)
    (Hk__law_locked_beside : PySem.W.keepIn K (.ref f__law_locked_beside) = true)
    (Ha__law_gap_rows : PySem.W.nsIn K mainGlobals "_law_gap_rows" = some (some (.ref f__law_gap_rows)))
    (Hl__law_gap_rows : K.lookup f__law_gap_rows = some ⟨oc__law_gap_rows, od__law_gap_rows, .func (PySem.W.fnOf "_law_gap_rows" "_law_gap_rows" (defArgs s__law_gap_rows) (defBody s__law_gap_rows) (defScope s__law_gap_rows) .none kV__law_gap_rows dc__law_gap_rows pm__law_gap_rows an__law_gap_rows cd__law_gap_rows ct__law_gap_rows), sl__law_gap_rows⟩)
    (Hc__law_gap_rows : PySem.W.codeIn K cd__law_gap_rows "_law_gap_rows" = true)
    (Hk__law_gap_rows : PySem.W.keepIn K (.ref f__law_gap_rows) = true)
    (Ha__law_draw : PySem.W.nsIn K mainGlobals "_law_draw" = some (some (.ref f__law_draw)))
    (Hl__law_draw : K.lookup f__law_draw = some ⟨oc__law_draw, od__law_draw, .func (PySem.W.fnOf "_law_draw" "_law_draw" (defArgs s__law_draw) (defBody s__law_draw) (defScope s__law_draw) .none kV__law_draw dc__law_draw pm__law_draw an__law_draw cd__law_draw ct__law_draw), sl__law_draw⟩)
    (Hc__law_draw : PySem.W.codeIn K cd__law_draw "_law_draw" = true)
    (Hk__law_draw : PySem.W.keepIn K (.ref f__law_draw) = true)
    (Ha__law_pick : PySem.W.nsIn K mainGlobals "_law_pick" = some (some (.ref f__law_pick)))
    (Hl__law_pick : K.lookup f__law_pick = some ⟨oc__law_pick, od__law_pick, .func (PySem.W.fnOf "_law_pick" "_law_pick" (defArgs s__law_pick) (defBody s__law_pick) (defScope s__law_pick) .none kV__law_pick dc__law_pick pm__law_pick an__law_pick cd__law_pick ct__law_pick), sl__law_pick⟩)
    (Hc__law_pick : PySem.W.codeIn K cd__law_pick "_law_pick" = true)
    (Hk__law_pick : PySem.W.keepIn K (.ref f__law_pick) = true)
    (Ha__law_kinds : PySem.W.nsIn K mainGlobals "_law_kinds" = some (some (.ref f__law_kinds)))
    (Hl__law_kinds : K.lookup f__law_kinds = some ⟨oc__law_kinds, od__law_kinds, .func (PySem.W.fnOf "_law_kinds" "_law_kinds" (defArgs s__law_kinds) (defBody s__law_kinds) (defScope s__law_kinds) .none kV__law_kinds dc__law_kinds pm__law_kinds an__law_kinds cd__law_kinds ct__law_kinds), sl__law_kinds⟩)
    (Hc__law_kinds : PySem.W.codeIn K cd__law_kinds "_law_kinds" = true)
    (Hk__law_kinds : PySem.W.keepIn K (.ref f__law_kinds) = true)
    (Ha__law_same : PySem.W.nsIn K mainGlobals "_law_same" = some (some (.ref f__law_same)))
    (Hl__law_same : K.lookup f__law_same = some ⟨oc__law_same, od__law_same, .func (PySem.W.fnOf "_law_same" "_law_same" (defArgs s__law_same) (defBody s__law_same) (defScope s__law_same) .none kV__law_same dc__law_same pm__law_same an__law_same cd__law_same ct__law_same), sl__law_same⟩)
    (Hc__law_same : PySem.W.codeIn K cd__law_same "_law_same" = true)
    (Hk__law_same : PySem.W.keepIn K (.ref f__law_same) = true)
    (Ha__law_no_word : PySem.W.nsIn K mainGlobals "_law_no_word" = some (some (.ref f__law_no_word)))
    (Hl__law_no_word : K.lookup f__law_no_word = some ⟨oc__law_no_word, od__law_no_word, .func (PySem.W.fnOf "_law_no_word" "_law_no_word" (defArgs s__law_no_word) (defBody s__law_no_word) (defScope s__law_no_word) .none kV__law_no_word dc__law_no_word pm__law_no_word an__law_no_word cd__law_no_word ct__law_no_word), sl__law_no_word⟩)
    (Hc__law_no_word : PySem.W.codeIn K cd__law_no_word "_law_no_word" = true)
    (Hk__law_no_word : PySem.W.keepIn K (.ref f__law_no_word) = true)
    (Ha__law_not_done : PySem.W.nsIn K mainGlobals "_law_not_done" = some (some (.ref f__law_not_done)))
    (Hl__law_not_done : K.lookup f__law_not_done = some ⟨oc__law_not_done, od__law_not_done, .func (PySem.W.fnOf "_law_not_done" "_law_not_done" (defArgs s__law_not_done) (defBody s__law_not_done) (defScope s__law_not_done) .none kV__law_not_done dc__law_not_done pm__law_not_done an__law_not_done cd__law_not_done ct__law_not_done), sl__law_not_done⟩)
    (Hc__law_not_done : PySem.W.codeIn K cd__law_not_done "_law_not_done" = true)
    (Hk__law_not_done : PySem.W.keepIn K (.ref f__law_not_done) = true)
    (Ha__law_opens_at : PySem.W.nsIn K mainGlobals "_law_opens_at" = some (some (.ref f__law_opens_at)))
    (Hl__law_opens_at : K.lookup f__law_opens_at = some ⟨oc__law_opens_at, od__law_opens_at, .func (PySem.W.fnOf "_law_opens_at" "_law_opens_at" (defArgs s__law_opens_at) (defBody s__law_opens_at) (defScope s__law_opens_at) .none kV__law_opens_at dc__law_opens_at pm__law_opens_at an__law_opens_at cd__law_opens_at ct__law_opens_at), sl__law_opens_at⟩)
    (Hc__law_opens_at : PySem.W.codeIn K cd__law_opens_at "_law_opens_at" = true)
    (Hk__law_opens_at : PySem.W.keepIn K (.ref f__law_opens_at) = true)
    (Ha__law_opening_rows : PySem.W.nsIn K mainGlobals "_law_opening_rows" = some (some (.ref f__law_opening_rows)))
    (Hl__law_opening_rows : K.lookup f__law_opening_rows = some ⟨oc__law_opening_rows, od__law_opening_rows, .func (PySem.W.fnOf "_law_opening_rows" "_law_opening_rows" (defArgs s__law_opening_rows) (defBody s__law_opening_rows) (defScope s__law_opening_rows) .none kV__law_opening_rows dc__law_opening_rows pm__law_opening_rows an__law_opening_rows cd__law_opening_rows ct__law_opening_rows), sl__law_opening_rows⟩)
    (Hc__law_opening_rows : PySem.W.codeIn K cd__law_opening_rows "_law_opening_rows" = true)
    (Hk__law_opening_rows : PySem.W.keepIn K (.ref f__law_opening_rows) = true)
    (Ha__law_numbers : PySem.W.nsIn K mainGlobals "_law_numbers" = some (some (.ref f__law_numbers)))
    (Hl__law_numbers : K.lookup f__law_numbers = some ⟨oc__law_numbers, od__law_numbers, .func (PySem.W.fnOf "_law_numbers" "_law_numbers" (defArgs s__law_numbers) (defBody s__law_numbers) (defScope s__law_numbers) .none kV__law_numbers dc__law_numbers pm__law_numbers an__law_numbers cd__law_numbers ct__law_numbers), sl__law_numbers⟩)
    (Hc__law_numbers : PySem.W.codeIn K cd__law_numbers "_law_numbers" = true)
    (Hk__law_numbers : PySem.W.keepIn K (.ref f__law_numbers) = true)
    (Ha__law_pool : PySem.W.nsIn K mainGlobals "_law_pool" = some (some (.ref f__law_pool)))
    (Hl__law_pool : K.lookup f__law_pool = some ⟨oc__law_pool, od__law_pool, .func (PySem.W.fnOf "_law_pool" "_law_pool" (defArgs s__law_pool) (defBody s__law_pool) (defScope s__law_pool) .none kV__law_pool dc__law_pool pm__law_pool an__law_pool cd__law_pool ct__law_pool), sl__law_pool⟩)
    (Hc__law_pool : PySem.W.codeIn K cd__law_pool "_law_pool" = true)
    (Hk__law_pool : PySem.W.keepIn K (.ref f__law_pool) = true)
    (Ha__law_pull_words : PySem.W.nsIn K mainGlobals "_law_pull_words" = some (some (.ref f__law_pull_words)))
    (Hl__law_pull_words : K.lookup f__law_pull_words = some ⟨oc__law_pull_words, od__law_pull_words, .func (PySem.W.fnOf "_law_pull_words" "_law_pull_words" (defArgs s__law_pull_words) (defBody s__law_pull_words) (defScope s__law_pull_words) .none kV__law_pull_words dc__law_pull_words pm__law_pull_words an__law_pull_words cd__law_pull_words ct__law_pull_words), sl__law_pull_words⟩)
    (Hc__law_pull_words : PySem.W.codeIn K cd__law_pull_words "_law_pull_words" = true)
    (Hk__law_pull_words : PySem.W.keepIn K (.ref f__law_pull_words) = true)
    (Ha_law : PySem.W.nsIn K mainGlobals "law" = some (some (.ref f_law)))
    (Hl_law : K.lookup f_law = some ⟨oc_law, od_law, .func (PySem.W.fnOf "law" "law" (defArgs s_law) (defBody s_law) (defScope s_law) .none kV_law dc_law pm_law an_law cd_law ct_law), sl_law⟩)
    (Hc_law : PySem.W.codeIn K cd_law "law" = true)
    (Hk_law : PySem.W.keepIn K (.ref f_law) = true)
    (Hz_enumerate : PySem.W.nsIn K mainGlobals "enumerate" = some none)
    (Hz_int : PySem.W.nsIn K mainGlobals "int" = some none)
    (Hz_isinstance : PySem.W.nsIn K mainGlobals "isinstance" = some none)
    (Hz_len : PySem.W.nsIn K mainGlobals "len" = some none)
    (Hz_list : PySem.W.nsIn K mainGlobals "list" = some none)
    (Hz_max : PySem.W.nsIn K mainGlobals "max" = some none)
    (Hz_min : PySem.W.nsIn K mainGlobals "min" = some none)
    (Hz_range : PySem.W.nsIn K mainGlobals "range" = some none)
    (Hz_repr : PySem.W.nsIn K mainGlobals "repr" = some none)
    (Hz_str : PySem.W.nsIn K mainGlobals "str" = some none)
    (Hg_EMPTY : PySem.W.nsIn K mainGlobals "EMPTY" = some (some Hu_EMPTY))
    (Hq_EMPTY : DK K Hu_EMPTY gEMPTY)
    (Hg_LET : PySem.W.nsIn K mainGlobals "LET" = some (some Hu_LET))
    (Hq_LET : DK K Hu_LET gLET)
    (Hg_LOCK : PySem.W.nsIn K mainGlobals "LOCK" = some (some Hu_LOCK))
    (Hq_LOCK : DK K Hu_LOCK gLOCK)
    (Hg_OUT : PySem.W.nsIn K mainGlobals "OUT" = some (some Hu_OUT))
    (Hq_OUT : DK K Hu_OUT gOUT)
    (Hg_PULLS : PySem.W.nsIn K mainGlobals "PULLS" = some (some Hu_PULLS))
    (Hq_PULLS : DK K Hu_PULLS gPULLS)
    (Hg_UNLOCK : PySem.W.nsIn K mainGlobals "UNLOCK" = some (some Hu_UNLOCK))
    (Hq_UNLOCK : DK K Hu_UNLOCK gUNLOCK)
    (Hg_ASKS : PySem.W.nsIn K mainGlobals "ASKS" = some (some (.ref Hd_ASKS)))
    (Hl_ASKS : K.lookup Hd_ASKS = some ⟨.type "dict", none, .dict Hes_ASKS.toArray Hn_ASKS, #[]⟩)
    (Ht_ASKS : PySem.W.KeysLit w.params Hes_ASKS)
    (Hs_ASKS : (Hd_ASKS == sysModules) = false)
    (Hy_ASKS : Hes_ASKS.map litK = kASKS)
    (Hg_OPENS : PySem.W.nsIn K mainGlobals "OPENS" = some (some (.ref Hd_OPENS)))
    (Hl_OPENS : K.lookup Hd_OPENS = some ⟨.type "dict", none, .dict Hes_OPENS.toArray Hn_OPENS, #[]⟩)
    (Ht_OPENS : PySem.W.KeysLit w.params Hes_OPENS)
    (Hs_OPENS : (Hd_OPENS == sysModules) = false)
    (Hy_OPENS : Hes_OPENS.map litK = kOPENS)
    (Hx_InvalidOption : ErrC l.prog K mg "InvalidOption" ["value"])
    (Hx_InvalidStep : ErrC l.prog K mg "InvalidStep" ["index"])
    (Hx_UnknownName : ErrC l.prog K mg "UnknownName" ["name"])
    (He_UnknownName : MtK K mg "UnknownName" mt_UnknownName)
    (Hxf_UnknownName_name : XfD K mt_UnknownName "name") :
    ∃ fd : FuncData, (∀ (s : Shared) (v : Value), BindsTo s fd ⟨[v], []⟩ [("_law_script", v)]) ∧ ∀ base : Heap, K.In base → base.Ns mainGlobals mg → FnG l.prog w K mg base (L2.CX l.prog w) 7 fa fd ["_law_script"] (spM K (mk0 1) none (Lp m_law)) := by
  have e := hfa.symm.trans (PySem.W.mg_of X G Ha_law)
  cases e
  have cls_Plain : Cls K c_Plain := ⟨Hpg_Plain, Hhd_Plain, Hpo_Plain, Hsa_Plain⟩
  have ff_own_asks : ∀ C, cl_own_asks C = true → FldC K C "own_asks" := by
    intro C h
    simp only [cl_own_asks, Bool.or_eq_true, beq_iff_eq] at h
    subst h
    exact fld_mk Ha_Plain cls_Plain Hn_Plain_own_asks
  have ff_own_opens : ∀ C, cl_own_opens C = true → FldC K C "own_opens" := by
    intro C h
    simp only [cl_own_opens, Bool.or_eq_true, beq_iff_eq] at h
    subst h
    exact fld_mk Ha_Plain cls_Plain Hn_Plain_own_opens
  have ff_own_pulls : ∀ C, cl_own_pulls C = true → FldC K C "own_pulls" := by
    intro C h
    simp only [cl_own_pulls, Bool.or_eq_true, beq_iff_eq] at h
    subst h
    exact fld_mk Ha_Plain cls_Plain Hn_Plain_own_pulls
  have T : Txt l.prog w K mg := ⟨PySem.W.mg_none_of X G Hz_enumerate, PySem.W.mg_none_of X G Hz_int, PySem.W.mg_none_of X G Hz_isinstance, PySem.W.mg_none_of X G Hz_len, PySem.W.mg_none_of X G Hz_list, PySem.W.mg_none_of X G Hz_max, PySem.W.mg_none_of X G Hz_min, PySem.W.mg_none_of X G Hz_range, PySem.W.mg_none_of X G Hz_repr, PySem.W.mg_none_of X G Hz_str, Hq_EMPTY.glob X G Hg_EMPTY, Hq_LET.glob X G Hg_LET, Hq_LOCK.glob X G Hg_LOCK, Hq_OUT.glob X G Hg_OUT, Hq_PULLS.glob X G Hg_PULLS, Hq_UNLOCK.glob X G Hg_UNLOCK, kd_of X G Hg_ASKS Hl_ASKS Ht_ASKS Hs_ASKS Hy_ASKS, kd_of X G Hg_OPENS Hl_OPENS Ht_OPENS Hs_OPENS Hy_OPENS, ff_own_asks, ff_own_opens, ff_own_pulls, Hx_InvalidOption, Hx_InvalidStep, Hx_UnknownName, He_UnknownName, Hxf_UnknownName_name⟩
  have F_require_pull := fun_mk (st := s_require_pull) Hl_require_pull Hc_require_pull Hk_require_pull
  have F_Plain_ahead := fun_mk (st := s_Plain_ahead) Hl_Plain_ahead Hc_Plain_ahead Hk_Plain_ahead
  have F_Plain_behind := fun_mk (st := s_Plain_behind) Hl_Plain_behind Hc_Plain_behind Hk_Plain_behind
  have F_Plain_gaps := fun_mk (st := s_Plain_gaps) Hl_Plain_gaps Hc_Plain_gaps Hk_Plain_gaps
  have F_Plain_openings := fun_mk (st := s_Plain_openings) Hl_Plain_openings Hc_Plain_openings Hk_Plain_openings
  have F_wrong_pull := fun_mk (st := s_wrong_pull) Hl_wrong_pull Hc_wrong_pull Hk_wrong_pull
  have F_Plain___init__ := fun_mk (st := s_Plain___init__) Hl_Plain___init__ Hc_Plain___init__ Hk_Plain___init__
  have F_Plain_of := fun_mk (st := s_Plain_of) Hl_Plain_of Hc_Plain_of Hk_Plain_of
  have F__law_locked_beside := fun_mk (st := s__law_locked_beside) Hl__law_locked_beside Hc__law_locked_beside Hk__law_locked_beside
  have F__law_gap_rows := fun_mk (st := s__law_gap_rows) Hl__law_gap_rows Hc__law_gap_rows Hk__law_gap_rows
  have F__law_draw := fun_mk (st := s__law_draw) Hl__law_draw Hc__law_draw Hk__law_draw
  have F__law_pick := fun_mk (st := s__law_pick) Hl__law_pick Hc__law_pick Hk__law_pick
  have F__law_kinds := fun_mk (st := s__law_kinds) Hl__law_kinds Hc__law_kinds Hk__law_kinds
  have F__law_same := fun_mk (st := s__law_same) Hl__law_same Hc__law_same Hk__law_same
  have F__law_no_word := fun_mk (st := s__law_no_word) Hl__law_no_word Hc__law_no_word Hk__law_no_word
  have F__law_not_done := fun_mk (st := s__law_not_done) Hl__law_not_done Hc__law_not_done Hk__law_not_done
  have F__law_opens_at := fun_mk (st := s__law_opens_at) Hl__law_opens_at Hc__law_opens_at Hk__law_opens_at
  have F__law_opening_rows := fun_mk (st := s__law_opening_rows) Hl__law_opening_rows Hc__law_opening_rows Hk__law_opening_rows
  have F__law_numbers := fun_mk (st := s__law_numbers) Hl__law_numbers Hc__law_numbers Hk__law_numbers
  have F__law_pool := fun_mk (st := s__law_pool) Hl__law_pool Hc__law_pool Hk__law_pool
  have F__law_pull_words := fun_mk (st := s__law_pull_words) Hl__law_pull_words Hc__law_pull_words Hk__law_pull_words
  have F_law := fun_mk (st := s_law) Hl_law Hc_law Hk_law
  refine ⟨PySem.W.fnOf "law" "law" (defArgs s_law) (defBody s_law) (defScope s_law) .none kV_law dc_law pm_law an_law cd_law ct_law, fun s v => .of_eq rfl, fun base _ _ => ?_⟩
  have d_require_pull : Dfn l.prog w K mg base 2 "require_pull" (mk0 1) none (Lp m_require_pull) := ⟨f_require_pull, _, ["word"], ok_require_pull F_require_pull T, PySem.W.mg_of X G Ha_require_pull, Hk_require_pull, (F_require_pull.binds (ps := ["word"]) fun _ _ _ _ _ _ us hl => match us, hl with | [_], _ => rfl)⟩
  have d_m_ahead : ∀ C mf, mt_ahead C = some mf → MethC l.prog w K mg base 3 C "ahead" none mf := by
    intro C mf h
    unfold mt_ahead at h
    split at h
    · rename_i e; subst e; cases h; exact meth_mk Ha_Plain cls_Plain ⟨Hm_Plain_ahead, Hi_Plain_ahead, Hk_Plain_ahead⟩ (PrP.up (prP_plain (n := 2) (ok_Plain_ahead F_Plain_ahead T d_require_pull) (F_Plain_ahead.binds (ps := ["self", "word"]) fun _ _ _ _ _ _ us hl => match us, hl with | [_, _], _ => rfl) l_Plain_ahead) rfl)
    cases h
  have d_m_behind : ∀ C mf, mt_behind C = some mf → MethC l.prog w K mg base 4 C "behind" none mf := by
    intro C mf h
    unfold mt_behind at h
    split at h
    · rename_i e; subst e; cases h; exact meth_mk Ha_Plain cls_Plain ⟨Hm_Plain_behind, Hi_Plain_behind, Hk_Plain_behind⟩ (PrP.up (prP_plain (n := 2) (ok_Plain_behind F_Plain_behind T d_m_ahead) (F_Plain_behind.binds (ps := ["self", "word"]) fun _ _ _ _ _ _ us hl => match us, hl with | [_, _], _ => rfl) l_Plain_behind) rfl)
    cases h
  have d_m_gaps : ∀ C mf, mt_gaps C = some mf → MethC l.prog w K mg base 5 C "gaps" none mf := by
    intro C mf h
    unfold mt_gaps at h
    split at h
    · rename_i e; subst e; cases h; exact meth_mk Ha_Plain cls_Plain ⟨Hm_Plain_gaps, Hi_Plain_gaps, Hk_Plain_gaps⟩ (PrP.up (prP_plain (n := 1) (ok_Plain_gaps F_Plain_gaps T d_m_ahead d_m_behind) (F_Plain_gaps.binds (ps := ["self"]) fun _ _ _ _ _ _ us hl => match us, hl with | [_], _ => rfl) l_Plain_gaps) rfl)
    cases h
  have d_wrong_pull : Dfn l.prog w K mg base 1 "wrong_pull" (mk0 1) none (Lp m_wrong_pull) := ⟨f_wrong_pull, _, ["pulls"], ok_wrong_pull F_wrong_pull T, PySem.W.mg_of X G Ha_wrong_pull, Hk_wrong_pull, (F_wrong_pull.binds (ps := ["pulls"]) fun _ _ _ _ _ _ us hl => match us, hl with | [_], _ => rfl)⟩
  have d_Plain : MakeC l.prog w K mg base 2 "Plain" [] m_Plain___init__ := ⟨c_Plain, f_Plain___init__, PySem.W.mg_of X G Ha_Plain, Ha_Plain, ⟨Hmk_Plain, Hm_Plain___init__, Hi_Plain___init__, Hkc_Plain⟩, (prR_star F_Plain___init__ (ps := ["self", "opens", "asks"]) (pv := "pulls") sc_Plain___init__ rfl (bind_star3 (B := fun z => bindArgs _ ⟨z, []⟩) (fun a b c => rfl) (fun a b c _ _ => rfl)) (ok_Plain___init__ T d_wrong_pull))⟩
  have d__law_locked_beside : Dfn l.prog w K mg base 1 "_law_locked_beside" (mk0 2) none (Lp m__law_locked_beside) := ⟨f__law_locked_beside, _, ["_law_pulls", "_law_many"], ok__law_locked_beside F__law_locked_beside T, PySem.W.mg_of X G Ha__law_locked_beside, Hk__law_locked_beside, (F__law_locked_beside.binds (ps := ["_law_pulls", "_law_many"]) fun _ _ _ _ _ _ us hl => match us, hl with | [_, _], _ => rfl)⟩
  have d__law_draw : Dfn l.prog w K mg base 1 "_law_draw" (some [] :: mk0 1) none (L1e m__law_draw) := ⟨f__law_draw, _, ["_law_pool_here", "_law_many"], ok__law_draw F__law_draw T, PySem.W.mg_of X G Ha__law_draw, Hk__law_draw, (F__law_draw.binds (ps := ["_law_pool_here", "_law_many"]) fun _ _ _ _ _ _ us hl => match us, hl with | [_, _], _ => rfl)⟩
  have d__law_pick : Dfn l.prog w K mg base 2 "_law_pick" (some [] :: mk0 1) none (L1e m__law_pick) := ⟨f__law_pick, _, ["_law_pool_here", "_law_some"], ok__law_pick F__law_pick T d__law_draw, PySem.W.mg_of X G Ha__law_pick, Hk__law_pick, (F__law_pick.binds (ps := ["_law_pool_here", "_law_some"]) fun _ _ _ _ _ _ us hl => match us, hl with | [_, _], _ => rfl)⟩
  have d__law_same : Dfn l.prog w K mg base 1 "_law_same" (mk0 2) none (Lp m__law_same) := ⟨f__law_same, _, ["_law_found", "_law_due"], ok__law_same F__law_same T, PySem.W.mg_of X G Ha__law_same, Hk__law_same, (F__law_same.binds (ps := ["_law_found", "_law_due"]) fun _ _ _ _ _ _ us hl => match us, hl with | [_, _], _ => rfl)⟩
  have d__law_gap_rows : Dfn l.prog w K mg base 2 "_law_gap_rows" (mk0 1) none (Lp m__law_gap_rows) := ⟨f__law_gap_rows, _, ["_law_pulls"], ok__law_gap_rows F__law_gap_rows T d__law_locked_beside, PySem.W.mg_of X G Ha__law_gap_rows, Hk__law_gap_rows, (F__law_gap_rows.binds (ps := ["_law_pulls"]) fun _ _ _ _ _ _ us hl => match us, hl with | [_], _ => rfl)⟩
  have d__law_not_done : Dfn l.prog w K mg base 1 "_law_not_done" (mk0 3) none (Lp m__law_not_done) := ⟨f__law_not_done, _, ["_law_pulls", "_law_word", "_law_many"], ok__law_not_done F__law_not_done T, PySem.W.mg_of X G Ha__law_not_done, Hk__law_not_done, (F__law_not_done.binds (ps := ["_law_pulls", "_law_word", "_law_many"]) fun _ _ _ _ _ _ us hl => match us, hl with | [_, _, _], _ => rfl)⟩
  have d__law_opens_at : Dfn l.prog w K mg base 3 "_law_opens_at" (mk0 2) none (Lp m__law_opens_at) := ⟨f__law_opens_at, _, ["_law_opens", "_law_pulls"], ok__law_opens_at F__law_opens_at T d__law_gap_rows d__law_not_done, PySem.W.mg_of X G Ha__law_opens_at, Hk__law_opens_at, (F__law_opens_at.binds (ps := ["_law_opens", "_law_pulls"]) fun _ _ _ _ _ _ us hl => match us, hl with | [_, _], _ => rfl)⟩
  have d__law_numbers : Dfn l.prog w K mg base 1 "_law_numbers" (mk0 3) none (Lp m__law_numbers) := ⟨f__law_numbers, _, ["_law_cell", "_law_salt", "_law_sizes"], ok__law_numbers F__law_numbers T, PySem.W.mg_of X G Ha__law_numbers, Hk__law_numbers, (F__law_numbers.binds (ps := ["_law_cell", "_law_salt", "_law_sizes"]) fun _ _ _ _ _ _ us hl => match us, hl with | [_, _, _], _ => rfl)⟩
  have d_m_openings : ∀ C mf, mt_openings C = some mf → MethC l.prog w K mg base 6 C "openings" none mf := by
    intro C mf h
    unfold mt_openings at h
    split at h
    · rename_i e; subst e; cases h; exact meth_mk Ha_Plain cls_Plain ⟨Hm_Plain_openings, Hi_Plain_openings, Hk_Plain_openings⟩ (PrP.up (prP_plain (n := 1) (ok_Plain_openings F_Plain_openings T d_m_ahead d_m_behind d_m_gaps) (F_Plain_openings.binds (ps := ["self"]) fun _ _ _ _ _ _ us hl => match us, hl with | [_], _ => rfl) l_Plain_openings) rfl)
    cases h
  have d_Plain_of : StatC l.prog w K mg base 4 "Plain" "of" none m_Plain_of := ⟨c_Plain, .type "type", Hp_Plain_of, f_Plain_of, Hrs_Plain_of, PySem.W.mg_of X G Ha_Plain, ⟨Hrd_Plain_of, Hga_Plain_of⟩, Hat_Plain_of, Hrc_Plain_of, Hk_Plain_of, (prP_plain (n := 3) (ok_Plain_of F_Plain_of T d_Plain) (F_Plain_of.binds (ps := ["opens", "asks", "pulls"]) fun _ _ _ _ _ _ us hl => match us, hl with | [_, _, _], _ => rfl) l_Plain_of)⟩
  have d__law_kinds : Dfn l.prog w K mg base 3 "_law_kinds" (some [] :: mk0 0) none (L1e m__law_kinds) := ⟨f__law_kinds, _, ["_law_pool_here"], ok__law_kinds F__law_kinds T d__law_pick, PySem.W.mg_of X G Ha__law_kinds, Hk__law_kinds, (F__law_kinds.binds (ps := ["_law_pool_here"]) fun _ _ _ _ _ _ us hl => match us, hl with | [_], _ => rfl)⟩
  have d__law_no_word : Dfn l.prog w K mg base 5 "_law_no_word" (mk0 2) none (Lp m__law_no_word) := ⟨f__law_no_word, _, ["_law_plain", "_law_value"], ok__law_no_word F__law_no_word T d_m_ahead d_m_behind d__law_same, PySem.W.mg_of X G Ha__law_no_word, Hk__law_no_word, (F__law_no_word.binds (ps := ["_law_plain", "_law_value"]) fun _ _ _ _ _ _ us hl => match us, hl with | [_, _], _ => rfl)⟩
  have d__law_opening_rows : Dfn l.prog w K mg base 4 "_law_opening_rows" (mk0 2) none (Lp m__law_opening_rows) := ⟨f__law_opening_rows, _, ["_law_opens", "_law_pulls"], ok__law_opening_rows F__law_opening_rows T d__law_opens_at, PySem.W.mg_of X G Ha__law_opening_rows, Hk__law_opening_rows, (F__law_opening_rows.binds (ps := ["_law_opens", "_law_pulls"]) fun _ _ _ _ _ _ us hl => match us, hl with | [_, _], _ => rfl)⟩
  have d__law_pool : Dfn l.prog w K mg base 2 "_law_pool" (mk0 3) (some []) (Lp m__law_pool) := ⟨f__law_pool, _, ["_law_cell", "_law_salt", "_law_many"], ok__law_pool F__law_pool T d__law_numbers, PySem.W.mg_of X G Ha__law_pool, Hk__law_pool, (F__law_pool.binds (ps := ["_law_cell", "_law_salt", "_law_many"]) fun _ _ _ _ _ _ us hl => match us, hl with | [_, _, _], _ => rfl)⟩
  have d__law_pull_words : Dfn l.prog w K mg base 2 "_law_pull_words" (some [] :: mk0 0) none (L1e m__law_pull_words) := ⟨f__law_pull_words, _, ["_law_pool_here"], ok__law_pull_words F__law_pull_words T d__law_draw, PySem.W.mg_of X G Ha__law_pull_words, Hk__law_pull_words, (F__law_pull_words.binds (ps := ["_law_pool_here"]) fun _ _ _ _ _ _ us hl => match us, hl with | [_], _ => rfl)⟩
  exact ok_law F_law T d_m_ahead d_m_behind d_m_gaps d_m_openings d_Plain_of d__law_gap_rows d__law_kinds d__law_no_word d__law_opening_rows d__law_pool d__law_pull_words d__law_same
end K53

open PySem PySem.W PyProof.Rows
set_option maxHeartbeats 0 in
theorem PySem.Challenge.cw_pulledout_k53_whole_places_of_plain_book_holds : PySem.Challenge.rw_pulledout_k53_whole_places_of_plain_book.Holds := by
  w_on; o_law; k_head; (case hw => w_witness2)
  k_fill
  refine DM.walkM (l := PySem.Challenge.rw_pulledout_k53_whole_places_of_plain_book) (n := 63) (k := 7) (x := "_law_script") (mf := K53.m_law) rfl (by decide) rfl ⟨rfl, by decide, by decide⟩ (fun w h Y => PySem.W.kIn_of Y) ?L (fun ns hl => K53.law_holds ns hl) ?F
  case L => exact fun w => rfl
  case F =>
    intro w mg fa h KX G hmg
    refine' K53.all_mk KX G hmg ?Ha_Plain ?Hpg_Plain ?Hhd_Plain ?Hpo_Plain ?Hsa_Plain ?Hn_Plain_own_asks ?Hn_Plain_own_opens ?Hn_Plain_own_pulls ?Ha_require_pull ?Hl_require_pull ?Hc_require_pull ?Hk_require_pull ?Hm_Plain_ahead ?Hi_Plain_ahead ?Hl_Plain_ahead ?Hc_Plain_ahead ?Hk_Plain_ahead ?Hm_Plain_behind ?Hi_Plain_behind ?Hl_Plain_behind ?Hc_Plain_behind ?Hk_Plain_behind ?Hm_Plain_gaps ?Hi_Plain_gaps ?Hl_Plain_gaps ?Hc_Plain_gaps ?Hk_Plain_gaps ?Hm_Plain_openings ?Hi_Plain_openings ?Hl_Plain_openings ?Hc_Plain_openings ?Hk_Plain_openings ?Ha_wrong_pull ?Hl_wrong_pull ?Hc_wrong_pull ?Hk_wrong_pull ?Hm_Plain___init__ ?Hi_Plain___init__ ?Hmk_Plain ?Hkc_Plain ?Hl_Plain___init__ ?Hc_Plain___init__ ?Hk_Plain___init__ ?Hrd_Plain_of ?Hga_Plain_of ?Hat_Plain_of ?Hrc_Plain_of ?Hl_Plain_of ?Hc_Plain_of ?Hk_Plain_of ?Ha__law_locked_beside ?Hl__law_locked_beside ?Hc__law_locked_beside ?Hk__law_locked_beside ?Ha__law_gap_rows ?Hl__law_gap_rows ?Hc__law_gap_rows ?Hk__law_gap_rows ?Ha__law_draw ?Hl__law_draw ?Hc__law_draw ?Hk__law_draw ?Ha__law_pick ?Hl__law_pick ?Hc__law_pick ?Hk__law_pick ?Ha__law_kinds ?Hl__law_kinds ?Hc__law_kinds ?Hk__law_kinds ?Ha__law_same ?Hl__law_same ?Hc__law_same ?Hk__law_same ?Ha__law_no_word ?Hl__law_no_word ?Hc__law_no_word ?Hk__law_no_word ?Ha__law_not_done ?Hl__law_not_done ?Hc__law_not_done ?Hk__law_not_done ?Ha__law_opens_at ?Hl__law_opens_at ?Hc__law_opens_at ?Hk__law_opens_at ?Ha__law_opening_rows ?Hl__law_opening_rows ?Hc__law_opening_rows ?Hk__law_opening_rows ?Ha__law_numbers ?Hl__law_numbers ?Hc__law_numbers ?Hk__law_numbers ?Ha__law_pool ?Hl__law_pool ?Hc__law_pool ?Hk__law_pool ?Ha__law_pull_words ?Hl__law_pull_words ?Hc__law_pull_words ?Hk__law_pull_words ?Ha_law ?Hl_law ?Hc_law ?Hk_law ?Hz_enumerate ?Hz_int ?Hz_isinstance ?Hz_len ?Hz_list ?Hz_max ?Hz_min ?Hz_range ?Hz_repr ?Hz_str ?Hg_EMPTY ?Hq_EMPTY ?Hg_LET ?Hq_LET ?Hg_LOCK ?Hq_LOCK ?Hg_OUT ?Hq_OUT ?Hg_PULLS ?Hq_PULLS ?Hg_UNLOCK ?Hq_UNLOCK ?Hg_ASKS ?Hl_ASKS ?Ht_ASKS ?Hs_ASKS ?Hy_ASKS ?Hg_OPENS ?Hl_OPENS ?Ht_OPENS ?Hs_OPENS ?Hy_OPENS ?Hx_InvalidOption ?Hx_InvalidStep ?Hx_UnknownName ?He_UnknownName ?Hxf_UnknownName_name
    (case Ha_Plain => k_is)
    (case Hpg_Plain => k_is)
    (case Hhd_Plain => k_is)
    (case Hpo_Plain => k_is)
    (case Hsa_Plain => k_is)
    (case Hn_Plain_own_asks => k_is)
    (case Hn_Plain_own_opens => k_is)
    (case Hn_Plain_own_pulls => k_is)
    (case Ha_require_pull => k_is)
    (case Hl_require_pull => k_is)
    (case Hc_require_pull => k_is)
    (case Hk_require_pull => k_is)
    (case Hm_Plain_ahead => k_is)
    (case Hi_Plain_ahead => k_is)
    (case Hl_Plain_ahead => k_is)
    (case Hc_Plain_ahead => k_is)
    (case Hk_Plain_ahead => k_is)
    (case Hm_Plain_behind => k_is)
    (case Hi_Plain_behind => k_is)
    (case Hl_Plain_behind => k_is)
    (case Hc_Plain_behind => k_is)
    (case Hk_Plain_behind => k_is)
    (case Hm_Plain_gaps => k_is)
    (case Hi_Plain_gaps => k_is)
    (case Hl_Plain_gaps => k_is)
    (case Hc_Plain_gaps => k_is)
    (case Hk_Plain_gaps => k_is)
    (case Hm_Plain_openings => k_is)
    (case Hi_Plain_openings => k_is)
    (case Hl_Plain_openings => k_is)
    (case Hc_Plain_openings => k_is)
    (case Hk_Plain_openings => k_is)
    (case Ha_wrong_pull => k_is)
    (case Hl_wrong_pull => k_is)
    (case Hc_wrong_pull => k_is)
    (case Hk_wrong_pull => k_is)
    (case Hm_Plain___init__ => k_is)
    (case Hi_Plain___init__ => k_is)
    (case Hmk_Plain => k_is)
    (case Hkc_Plain => k_is)
    (case Hl_Plain___init__ => k_is)
    (case Hc_Plain___init__ => k_is)
    (case Hk_Plain___init__ => k_is)
    (case Hrd_Plain_of => k_is)
    (case Hga_Plain_of => k_is)
    (case Hat_Plain_of => k_is)
    (case Hrc_Plain_of => k_is)
    (case Hl_Plain_of => k_is)
    (case Hc_Plain_of => k_is)
    (case Hk_Plain_of => k_is)
    (case Ha__law_locked_beside => k_is)
    (case Hl__law_locked_beside => k_is)
    (case Hc__law_locked_beside => k_is)
    (case Hk__law_locked_beside => k_is)
    (case Ha__law_gap_rows => k_is)
    (case Hl__law_gap_rows => k_is)
    (case Hc__law_gap_rows => k_is)
    (case Hk__law_gap_rows => k_is)
    (case Ha__law_draw => k_is)
    (case Hl__law_draw => k_is)
    (case Hc__law_draw => k_is)
    (case Hk__law_draw => k_is)
    (case Ha__law_pick => k_is)
    (case Hl__law_pick => k_is)
    (case Hc__law_pick => k_is)
    (case Hk__law_pick => k_is)
    (case Ha__law_kinds => k_is)
    (case Hl__law_kinds => k_is)
    (case Hc__law_kinds => k_is)
    (case Hk__law_kinds => k_is)
    (case Ha__law_same => k_is)
    (case Hl__law_same => k_is)
    (case Hc__law_same => k_is)
    (case Hk__law_same => k_is)
    (case Ha__law_no_word => k_is)
    (case Hl__law_no_word => k_is)
    (case Hc__law_no_word => k_is)
    (case Hk__law_no_word => k_is)
    (case Ha__law_not_done => k_is)
    (case Hl__law_not_done => k_is)
    (case Hc__law_not_done => k_is)
    (case Hk__law_not_done => k_is)
    (case Ha__law_opens_at => k_is)
    (case Hl__law_opens_at => k_is)
    (case Hc__law_opens_at => k_is)
    (case Hk__law_opens_at => k_is)
    (case Ha__law_opening_rows => k_is)
    (case Hl__law_opening_rows => k_is)
    (case Hc__law_opening_rows => k_is)
    (case Hk__law_opening_rows => k_is)
    (case Ha__law_numbers => k_is)
    (case Hl__law_numbers => k_is)
    (case Hc__law_numbers => k_is)
    (case Hk__law_numbers => k_is)
    (case Ha__law_pool => k_is)
    (case Hl__law_pool => k_is)
    (case Hc__law_pool => k_is)
    (case Hk__law_pool => k_is)
    (case Ha__law_pull_words => k_is)
    (case Hl__law_pull_words => k_is)
    (case Hc__law_pull_words => k_is)
    (case Hk__law_pull_words => k_is)
    (case Ha_law => k_is)
    (case Hl_law => k_is)
    (case Hc_law => k_is)
    (case Hk_law => k_is)
    (case Hz_enumerate => k_is)
    (case Hz_int => k_is)
    (case Hz_isinstance => k_is)
    (case Hz_len => k_is)
    (case Hz_list => k_is)
    (case Hz_max => k_is)
    (case Hz_min => k_is)
    (case Hz_range => k_is)
    (case Hz_repr => k_is)
    (case Hz_str => k_is)
    (case Hg_EMPTY => k_is)
    (case Hq_EMPTY => exact DM.dk_str)
    (case Hg_LET => k_is)
    (case Hq_LET => exact DM.dk_str)
    (case Hg_LOCK => k_is)
    (case Hq_LOCK => exact DM.dk_str)
    (case Hg_OUT => k_is)
    (case Hq_OUT => exact DM.dk_str)
    (case Hg_PULLS => k_is)
    (case Hq_PULLS => exact (DM.dk_tup (by k_is) (DM.dk_cons DM.dk_str (DM.dk_cons DM.dk_str (DM.dk_cons DM.dk_str (DM.dk_cons DM.dk_str (DM.dk_cons DM.dk_str (DM.dk_cons DM.dk_str (DM.dk_cons DM.dk_str (DM.dk_cons DM.dk_str DM.dk_nil)))))))) rfl))
    (case Hg_UNLOCK => k_is)
    (case Hq_UNLOCK => exact DM.dk_str)
    (case Hg_ASKS => k_is)
    (case Hl_ASKS => k_is)
    (case Ht_ASKS => repeat (first | exact True.intro | refine And.intro ⟨_, _, rfl, rfl⟩ ?_))
    (case Hs_ASKS => exact rfl)
    (case Hy_ASKS => exact rfl)
    (case Hg_OPENS => k_is)
    (case Hl_OPENS => k_is)
    (case Ht_OPENS => repeat (first | exact True.intro | refine And.intro ⟨_, _, rfl, rfl⟩ ?_))
    (case Hs_OPENS => exact rfl)
    (case Hy_OPENS => exact rfl)
    (case Hx_InvalidOption => (refine' DM.err_mk1 DX.base_VE KX G ?aC ?lC ?rb ?sB ?su ?sa ?n1 ?iC ?tC ?kC ?sb ?eC ?tyC ?top ?hs ?lf ?cI ?lc ?ec ?ld ?ed ?e2 ?fe ?tp ?s1 ?s2 ?s3 ?s4 ?s5 ?s6 ?hb ?hev; (case aC => k_is); (case lC => k_is); (case rb => exact rfl); (case sB => k_is); (case su => exact rfl); (case sa => k_is); (case n1 => k_is); (case iC => k_is); (case tC => k_is); (case kC => k_is); (case sb => k_is); (case eC => k_is); (case tyC => k_is); (case top => k_is); (case hs => k_is); (case lf => k_is); (case cI => k_is); (case lc => k_is); (case ec => exact rfl); (case ld => k_is); (case ed => exact rfl); (case e2 => exact rfl); (case fe => exact rfl); (case tp => exact rfl); (case s1 => exact rfl); (case s2 => exact rfl); (case s3 => exact rfl); (case s4 => exact rfl); (case s5 => exact rfl); (case s6 => decide +kernel); (case hb => exact fun s us _ hl => (match us, hl with | [_, _], _ => .of_eq rfl)); (case hev => exact fun _ => ⟨_, rfl⟩)))
    (case Hx_InvalidStep => (refine' DM.err_mk1 DX.base_VE KX G ?aC ?lC ?rb ?sB ?su ?sa ?n1 ?iC ?tC ?kC ?sb ?eC ?tyC ?top ?hs ?lf ?cI ?lc ?ec ?ld ?ed ?e2 ?fe ?tp ?s1 ?s2 ?s3 ?s4 ?s5 ?s6 ?hb ?hev; (case aC => k_is); (case lC => k_is); (case rb => exact rfl); (case sB => k_is); (case su => exact rfl); (case sa => k_is); (case n1 => k_is); (case iC => k_is); (case tC => k_is); (case kC => k_is); (case sb => k_is); (case eC => k_is); (case tyC => k_is); (case top => k_is); (case hs => k_is); (case lf => k_is); (case cI => k_is); (case lc => k_is); (case ec => exact rfl); (case ld => k_is); (case ed => exact rfl); (case e2 => exact rfl); (case fe => exact rfl); (case tp => exact rfl); (case s1 => exact rfl); (case s2 => exact rfl); (case s3 => exact rfl); (case s4 => exact rfl); (case s5 => exact rfl); (case s6 => decide +kernel); (case hb => exact fun s us _ hl => (match us, hl with | [_, _], _ => .of_eq rfl)); (case hev => exact fun _ => ⟨_, rfl⟩)))
    (case Hx_UnknownName => (refine' DM.err_mk1 DX.base_LE KX G ?aC ?lC ?rb ?sB ?su ?sa ?n1 ?iC ?tC ?kC ?sb ?eC ?tyC ?top ?hs ?lf ?cI ?lc ?ec ?ld ?ed ?e2 ?fe ?tp ?s1 ?s2 ?s3 ?s4 ?s5 ?s6 ?hb ?hev; (case aC => k_is); (case lC => k_is); (case rb => exact rfl); (case sB => k_is); (case su => exact rfl); (case sa => k_is); (case n1 => k_is); (case iC => k_is); (case tC => k_is); (case kC => k_is); (case sb => k_is); (case eC => k_is); (case tyC => k_is); (case top => k_is); (case hs => k_is); (case lf => k_is); (case cI => k_is); (case lc => k_is); (case ec => exact rfl); (case ld => k_is); (case ed => exact rfl); (case e2 => exact rfl); (case fe => exact rfl); (case tp => exact rfl); (case s1 => exact rfl); (case s2 => exact rfl); (case s3 => exact rfl); (case s4 => exact rfl); (case s5 => exact rfl); (case s6 => decide +kernel); (case hb => exact fun s us _ hl => (match us, hl with | [_, _], _ => .of_eq rfl)); (case hev => exact fun _ => ⟨_, rfl⟩)))
    (case He_UnknownName => (refine' DM.mtk_mk KX G ?a ?b ?c ?d ?e; (case a => k_is); (case b => k_is); (case c => k_is); (case d => k_is); (case e =>
        intro C b h
        unfold K53.mt_UnknownName at h
        split at h
        · rename_i e; subst e; cases h; exact ⟨_, by k_is, by k_is⟩
        split at h
        · rename_i e; subst e; cases h; exact ⟨_, by k_is, by k_is⟩
        split at h
        · rename_i e; subst e; cases h; exact ⟨_, by k_is, by k_is⟩
        cases h)))
    (case Hxf_UnknownName_name => (refine' DM.xfd_mk ?e; (case e =>
        intro C h
        unfold K53.mt_UnknownName at h
        split at h
        · cases h
        split at h
        · cases h
        split at h
        · rename_i e; subst e; exact ⟨_, by k_is, by k_is, by k_is, by k_is, by k_is, by k_is⟩
        cases h)))
